import PyProof.Rows.All
import Wide.All
import OpenK.AllK
import Wide.FinOn
import PyProof.EqAt
import PyProof.EqKinds
import PyProof.TupleCall
import KE.KExcSuper
import HandS.ForMost
import HandS.Exc
import HandS.ExcOwn
import HandS.ExcInit
import HandS.TryOnly
import HandS.WordsExc
import HandS.OwnEq
import HandS.TupAny
import HandS.Style
import HandS.Wide
import HandS.DictComp
import HandS.Defaults
import HandS.Zip
import HandS.Walk
import HandS.IsInst
import HandS.More
import HandS.Star
import HandS.CallRecv
import HandS.Conv
import HandS.Evl
import KE.GoesMore
import PySem.Challenge.RW_weirlines_k43_whole_loops
import HandS.Sort
import KE.RegKSuper
/-! plain mathematics of rows: no program in sight -/
namespace WK

/-! ### openings -/
def ar (as : List Int) (i : Nat) : Rat := ((as.getD i 1 : Int) : Rat)
def vo (v : List Rat) (i : Nat) : Rat := v.getD i 0
/-- the volumes behind an opening of the weir w (1 ≤ w < number of basins) -/
def openR (as : List Int) (v : List Rat) (w : Nat) : List Rat :=
  (v.set (w - 1) ((vo v (w - 1) + vo v w) * (ar as (w - 1) / (ar as (w - 1) + ar as w)))).set w
    ((vo v (w - 1) + vo v w) * (ar as w / (ar as (w - 1) + ar as w)))
def behindR (as : List Int) (v : List Rat) (ws : List Nat) : List Rat := ws.foldl (openR as) v
def roundsR (as : List Int) (ws : List Nat) : Nat → List Rat → List Rat
  | 0, v => v
  | k + 1, v => behindR as (roundsR as ws k v) ws

theorem openR_length (as : List Int) (v : List Rat) (w : Nat) : (openR as v w).length = v.length := by
  simp [openR]
theorem behindR_length (as : List Int) (ws : List Nat) : ∀ v : List Rat, (behindR as v ws).length = v.length := by
  induction ws with
  | nil => intro v; rfl
  | cons w ws ih => intro v; show (behindR as (openR as v w) ws).length = _; rw [ih, openR_length]
theorem roundsR_length (as : List Int) (ws : List Nat) (v : List Rat) : ∀ k, (roundsR as ws k v).length = v.length
  | 0 => rfl
  | k + 1 => by show (behindR as (roundsR as ws k v) ws).length = _; rw [behindR_length, roundsR_length as ws v k]

/-- areas: each from 1 to 4 -/
def Areas (as : List Int) : Prop := ∀ a ∈ as, 1 ≤ a ∧ a ≤ 4
theorem Areas.at {as : List Int} (h : Areas as) (i : Nat) : 1 ≤ as.getD i 1 ∧ as.getD i 1 ≤ 4 := by
  rw [List.getD_eq_getElem?_getD]
  cases e : as[i]? with
  | none => simp
  | some a => exact h a (List.mem_of_getElem? e)
theorem Areas.pos {as : List Int} (h : Areas as) (i : Nat) : (0 : Rat) < ar as i := by
  have h1 := (h.at i).1
  have h2 : ((1 : Int) : Rat) ≤ ((as.getD i 1 : Int) : Rat) := Rat.intCast_le_intCast.mpr h1
  unfold ar
  have h3 : ((1 : Int) : Rat) = 1 := rfl
  grind

/-- the value at each place behind an opening -/
theorem vo_openR (as : List Int) (v : List Rat) (w : Nat) (h1 : 1 ≤ w) (h2 : w < v.length) (i : Nat) :
    vo (openR as v w) i = if i = w then (vo v (w - 1) + vo v w) * (ar as w / (ar as (w - 1) + ar as w)) else
      if i + 1 = w then (vo v (w - 1) + vo v w) * (ar as (w - 1) / (ar as (w - 1) + ar as w)) else vo v i := by
  unfold openR
  generalize (vo v (w - 1) + vo v w) * (ar as w / (ar as (w - 1) + ar as w)) = y
  generalize (vo v (w - 1) + vo v w) * (ar as (w - 1) / (ar as (w - 1) + ar as w)) = x
  show List.getD _ i 0 = _
  rw [List.getD_eq_getElem?_getD, List.getElem?_set]
  by_cases e : w = i
  · subst e
    simp [h2]
  · rw [if_neg e, if_neg (fun q => e q.symm), List.getElem?_set]
    by_cases e2 : w - 1 = i
    · rw [if_pos e2, if_pos (by omega), if_pos (by omega)]
      rfl
    · rw [if_neg e2, if_neg (by omega)]
      show v[i]?.getD 0 = v.getD i 0
      rw [List.getD_eq_getElem?_getD]

theorem ext_vo {u v : List Rat} (hl : u.length = v.length) (h : ∀ i, i < u.length → vo u i = vo v i) : u = v := by
  apply List.ext_getElem hl
  intro i h1 h2
  have := h i h1
  unfold vo at this
  simpa [List.getD_eq_getElem?_getD, h1, h2] using this

/-! ### the vectors of heights' differences: linear algebra over lists of vectors -/
abbrev Vec := Nat → Rat
/-- one opening as a linear map of vectors -/
def opV (as : List Int) (w : Nat) (x : Vec) : Vec := fun i =>
  if i = w then (x (w - 1) + x w) * (ar as w / (ar as (w - 1) + ar as w)) else
    if i + 1 = w then (x (w - 1) + x w) * (ar as (w - 1) / (ar as (w - 1) + ar as w)) else x i
def opsV (as : List Int) (ws : List Nat) (x : Vec) : Vec := ws.foldl (fun y w => opV as w y) x
def powV (f : Vec → Vec) : Nat → Vec → Vec
  | 0, x => x
  | k + 1, x => f (powV f k x)
structure Lin (f : Vec → Vec) : Prop where
  comb : ∀ (a : Rat) (x y : Vec), f (fun i => a * x i + y i) = fun i => a * f x i + f y i
  zero : f (fun _ => 0) = fun _ => 0
theorem lin_op (as : List Int) (w : Nat) : Lin (opV as w) where
  comb := fun a x y => by
    funext i
    unfold opV
    by_cases h : i = w
    · rw [if_pos h, if_pos h, if_pos h]; grind
    · rw [if_neg h, if_neg h, if_neg h]
      by_cases h2 : i + 1 = w
      · rw [if_pos h2, if_pos h2, if_pos h2]; grind
      · rw [if_neg h2, if_neg h2, if_neg h2]
  zero := by
    funext i
    unfold opV
    have e : ((0 : Rat) + 0) = 0 := by grind
    rw [e, Rat.zero_mul, Rat.zero_mul]
    by_cases h : i = w
    · rw [if_pos h]
    · rw [if_neg h]
      by_cases h2 : i + 1 = w
      · rw [if_pos h2]
      · rw [if_neg h2]
theorem Lin.compose {f g : Vec → Vec} (hf : Lin f) (hg : Lin g) : Lin (fun x => g (f x)) where
  comb := fun a x y => by rw [hf.comb, hg.comb]
  zero := by rw [hf.zero, hg.zero]
theorem lin_id : Lin (fun x => x) := ⟨fun _ _ _ => rfl, rfl⟩
theorem lin_ops (as : List Int) : ∀ ws : List Nat, Lin (opsV as ws)
  | [] => lin_id
  | w :: ws => (lin_op as w).compose (lin_ops as ws)
theorem lin_pow {f : Vec → Vec} (h : Lin f) : ∀ k, Lin (powV f k)
  | 0 => lin_id
  | k + 1 => (lin_pow h k).compose h

/-- a combination of vectors -/
def comb : List Rat → List Vec → Vec
  | c :: cs, v :: vs => fun i => c * v i + comb cs vs i
  | _, _ => fun _ => 0
theorem comb_append (cs : List Rat) (vs : List Vec) (ds : List Rat) (us : List Vec) (h : cs.length = vs.length) (i : Nat) : comb (cs ++ ds) (vs ++ us) i = comb cs vs i + comb ds us i := by
  induction cs generalizing vs with
  | nil =>
    cases vs with
    | nil => show comb ds us i = 0 + comb ds us i; grind
    | cons v vs => simp at h
  | cons c cs ih =>
    cases vs with
    | nil => simp at h
    | cons v vs =>
      have := ih vs (by simpa using h)
      show c * v i + comb (cs ++ ds) (vs ++ us) i = c * v i + comb cs vs i + comb ds us i
      rw [this]; grind
/-- each vector less a multiple of p -/
theorem comb_sub (p : Vec) (f : Vec → Rat) (cs : List Rat) (vs : List Vec) (i : Nat) :
    comb cs (vs.map fun v => fun j => v j - f v * p j) i = comb cs vs i - (comb cs (vs.map fun v => fun _ => f v) i) * p i := by
  induction cs generalizing vs with
  | nil => cases vs <;> simp [comb] <;> grind
  | cons c cs ih =>
    cases vs with
    | nil => simp [comb]; grind
    | cons v vs =>
      have := ih vs
      show c * (v i - f v * p i) + comb cs (vs.map fun v => fun j => v j - f v * p j) i = c * v i + comb cs vs i - (c * f v + comb cs (vs.map fun v => fun _ => f v) i) * p i
      rw [this]; grind
theorem comb_zero_at (cs : List Rat) (vs : List Vec) (i : Nat) (h : ∀ v ∈ vs, v i = 0) : comb cs vs i = 0 := by
  induction cs generalizing vs with
  | nil => cases vs <;> rfl
  | cons c cs ih =>
    cases vs with
    | nil => rfl
    | cons v vs =>
      have := ih vs fun u hu => h u (List.mem_cons_of_mem _ hu)
      show c * v i + comb cs vs i = 0
      rw [this, h v List.mem_cons_self]; grind
/-- more than n vectors are dependent on the first n places -/
theorem dependent : ∀ (n : Nat) (vs : List Vec), n < vs.length → ∃ cs : List Rat, cs.length = vs.length ∧ (∃ c ∈ cs, c ≠ 0) ∧ ∀ i, i < n → comb cs vs i = 0
  | 0, vs, h => ⟨List.replicate vs.length 1, by simp, ⟨1, List.mem_replicate.mpr ⟨by omega, rfl⟩, by decide⟩, fun i hi => absurd hi (Nat.not_lt_zero i)⟩
  | n + 1, vs, h => by
    by_cases hz : ∀ v ∈ vs, v n = 0
    · obtain ⟨cs, h1, h2, h3⟩ := dependent n vs (by omega)
      refine ⟨cs, h1, h2, fun i hi => ?_⟩
      by_cases e : i = n
      · subst e; exact comb_zero_at cs vs i hz
      · exact h3 i (by omega)
    · have hz' : ∃ p ∈ vs, p n ≠ 0 := by
        apply Classical.byContradiction
        intro q
        apply hz
        intro v hv
        apply Classical.byContradiction
        intro e
        exact q ⟨v, hv, e⟩
      obtain ⟨p, hp, hpn⟩ := hz'
      obtain ⟨l, r, rfl⟩ := List.append_of_mem hp
      let g : Vec → Rat := fun v => v n / p n
      let us := (l ++ r).map fun v => fun j => v j - g v * p j
      have hl : n < us.length := by simp [us] at h ⊢; omega
      obtain ⟨cs, h1, h2, h3⟩ := dependent n us hl
      have h1' : cs.length = l.length + r.length := by simpa [us] using h1
      let cl := cs.take l.length
      let cr := cs.drop l.length
      have ecs : cs = cl ++ cr := (List.take_append_drop _ _).symm
      have hcl : cl.length = l.length := by simp [cl]; omega
      have hcr : cr.length = r.length := by simp [cr]; omega
      let cp : Rat := - comb cs ((l ++ r).map fun v => fun _ => g v) 0
      have kc : ∀ i, comb cs ((l ++ r).map fun v => fun _ => g v) i = comb cs ((l ++ r).map fun v => fun _ => g v) 0 := by
        intro i
        generalize l ++ r = q
        induction cs generalizing q with
        | nil => cases q <;> rfl
        | cons c cs ih =>
          cases q with
          | nil => rfl
          | cons v q => 
            show c * g v + comb cs (q.map fun v => fun _ => g v) i = c * g v + comb cs (q.map fun v => fun _ => g v) 0
            have : ∀ (cs : List Rat) (q : List Vec), comb cs (q.map fun v => fun _ => g v) i = comb cs (q.map fun v => fun _ => g v) 0 := by
              intro cs
              induction cs with
              | nil => intro q; cases q <;> rfl
              | cons c cs ih => 
                intro q
                cases q with
                | nil => rfl
                | cons v q =>
                  show c * g v + comb cs (q.map fun v => fun _ => g v) i = c * g v + comb cs (q.map fun v => fun _ => g v) 0
                  rw [ih]
            rw [this]
      refine ⟨cl ++ cp :: cr, by simp [hcl, hcr], ?_, fun i hi => ?_⟩
      · obtain ⟨c, hc, hc0⟩ := h2
        refine ⟨c, ?_, hc0⟩
        rw [ecs] at hc
        rcases List.mem_append.mp hc with q | q
        · exact List.mem_append_left _ q
        · exact List.mem_append_right _ (List.mem_cons_of_mem _ q)
      · have e1 : comb (cl ++ cp :: cr) (l ++ p :: r) i = comb cl l i + (cp * p i + comb cr r i) := comb_append cl l (cp :: cr) (p :: r) hcl i
        have e2 : comb cs (l ++ r) i = comb cl l i + comb cr r i := by
          conv => lhs; rw [ecs]
          exact comb_append cl l cr r hcl i
        have e3 : comb cs us i = comb cs (l ++ r) i - comb cs ((l ++ r).map fun v => fun _ => g v) i * p i := comb_sub p g cs (l ++ r) i
        rw [kc i] at e3
        have e4 : comb cs us i = 0 := by
          by_cases e : i = n
          · subst e
            apply comb_zero_at
            intro u hu
            obtain ⟨v, hv, rfl⟩ := List.mem_map.mp hu
            show v i - v i / p i * p i = 0
            grind
          · exact h3 i (by omega)
        rw [e1]
        show comb cl l i + (- comb cs ((l ++ r).map fun v => fun _ => g v) 0 * p i + comb cr r i) = 0
        rw [e4, e2] at e3
        grind

/-- the vectors x, f x, .. (m of them) -/
def orbit (f : Vec → Vec) : Nat → Vec → List Vec
  | 0, _ => []
  | m + 1, x => x :: orbit f m (f x)
theorem orbit_length (f : Vec → Vec) : ∀ m x, (orbit f m x).length = m
  | 0, _ => rfl
  | m + 1, x => by show (orbit f m (f x)).length + 1 = m + 1; rw [orbit_length f m]
theorem powV_succ' (f : Vec → Vec) : ∀ k x, powV f k (f x) = powV f (k + 1) x
  | 0, _ => rfl
  | k + 1, x => by show f (powV f k (f x)) = _; rw [powV_succ' f k x]; rfl
theorem powV_add (f : Vec → Vec) (j : Nat) : ∀ k x, powV f (k + j) x = powV f k (powV f j x)
  | 0, _ => by rw [Nat.zero_add]; rfl
  | k + 1, x => by rw [Nat.add_right_comm]; show f (powV f (k + j) x) = f _; rw [powV_add f j k x]
theorem powV_zero {f : Vec → Vec} (h : Lin f) (k : Nat) : powV f k (fun _ => 0) = fun _ => 0 := (lin_pow h k).zero
theorem dead_after {f : Vec → Vec} (h : Lin f) {x : Vec} {t k : Nat} (hx : powV f t x = fun _ => 0) (hk : t ≤ k) : powV f k x = fun _ => 0 := by
  obtain ⟨d, rfl⟩ := Nat.le.dest hk
  rw [Nat.add_comm, powV_add, hx, powV_zero h]
/-- f^k of a combination -/
theorem pow_comb {f : Vec → Vec} (h : Lin f) (k : Nat) : ∀ (cs : List Rat) (vs : List Vec), powV f k (comb cs vs) = comb cs (vs.map (powV f k))
  | [], vs => by cases vs <;> exact powV_zero h k
  | c :: cs, [] => powV_zero h k
  | c :: cs, v :: vs => by
    show powV f k (fun i => c * v i + comb cs vs i) = fun i => c * powV f k v i + comb cs (vs.map (powV f k)) i
    rw [(lin_pow h k).comb, pow_comb h k cs vs]
/-- if f^t x is not 0, but f^(t+1) x is, then x, .., f^t x are not dependent -/
theorem orbit_indep {f : Vec → Vec} (h : Lin f) : ∀ (m : Nat) (x : Vec) (cs : List Rat), cs.length ≤ m → powV f m x = (fun _ => 0) → (∀ k, k < m → powV f k x ≠ fun _ => 0) → (comb cs (orbit f cs.length x) = fun _ => 0) → ∀ c ∈ cs, c = 0
  | _, _, [], _, _, _, _ => fun c hc => by cases hc
  | 0, x, c :: cs, hm, _, _, _ => by simp at hm
  | m + 1, x, c :: cs, hm, hz, hn, hc => by
    have hx : comb (c :: cs) (orbit f (cs.length + 1) x) = fun i => c * x i + comb cs (orbit f cs.length (f x)) i := rfl
    have hc' : (fun i => c * x i + comb cs (orbit f cs.length (f x)) i) = fun _ => 0 := hc
    -- apply f^m: all but the first die
    have hmm := congrArg (powV f m) hc'
    rw [(lin_pow h m).comb, powV_zero h, pow_comb h] at hmm
    have dead : comb cs ((orbit f cs.length (f x)).map (powV f m)) = fun _ => 0 := by
      have all : ∀ (j : Nat) (y : Vec), powV f m y = (fun _ => 0) → ∀ v ∈ (orbit f j y).map (powV f m), v = fun _ => 0 := by
        intro j
        induction j with
        | zero => intro y _ v hv; simp [orbit] at hv
        | succ j ih =>
          intro y hy v hv
          rcases List.mem_cons.mp (show v ∈ powV f m y :: (orbit f j (f y)).map (powV f m) from hv) with q | q
          · rw [q, hy]
          · refine ih (f y) ?_ v q
            rw [powV_succ']
            exact dead_after h hy (Nat.le_succ m)
      funext i
      apply comb_zero_at
      intro v hv
      rw [all cs.length (f x) (by rw [powV_succ']; exact hz) v hv]
    rw [dead] at hmm
    have c0 : c = 0 := by
      apply Classical.byContradiction
      intro hc0
      apply hn m (Nat.lt_succ_self m)
      funext i
      have := congrFun hmm i
      have h2 : c * powV f m x i = 0 := by
        have q : c * powV f m x i + 0 = 0 := this
        grind
      grind
    subst c0
    intro d hd
    rcases List.mem_cons.mp hd with q | q
    · exact q
    · refine orbit_indep h m (f x) cs (by simpa using hm) (by rw [powV_succ']; exact hz) (fun k hk => by rw [powV_succ']; exact hn (k + 1) (by omega)) ?_ d q
      funext i
      have := congrFun hc' i
      have h2 : (0 : Rat) * x i + comb cs (orbit f cs.length (f x)) i = 0 := this
      grind

theorem Lin.keeps {as : List Int} {n : Nat} : ∀ {ws : List Nat}, (∀ w ∈ ws, w < n) → ∀ x : Vec, (∀ i, n ≤ i → x i = 0) → ∀ i, n ≤ i → opsV as ws x i = 0
  | [], _, x, hx, i, hi => hx i hi
  | w :: ws, hw, x, hx, i, hi => by
    refine Lin.keeps (ws := ws) (fun u hu => hw u (List.mem_cons_of_mem _ hu)) (opV as w x) (fun j hj => ?_) i hi
    have := hw w List.mem_cons_self
    unfold opV
    rw [if_neg (by omega), if_neg (by omega)]
    exact hx j hj
/-- what comes to 0 at all has come to 0 behind n turns -/
theorem nilpotent {f : Vec → Vec} (h : Lin f) (n : Nat) (hk : ∀ x : Vec, (∀ i, n ≤ i → x i = 0) → ∀ i, n ≤ i → f x i = 0) {x : Vec} (hx : ∀ i, n ≤ i → x i = 0) {t : Nat} (ht : powV f t x = fun _ => 0) : powV f n x = fun _ => 0 := by
  -- the least such t
  have least : ∃ m, powV f m x = (fun _ => 0) ∧ ∀ k, k < m → powV f k x ≠ fun _ => 0 := by
    induction t using Nat.strongRecOn with
    | _ t ih =>
      by_cases hs : ∃ k, k < t ∧ powV f k x = fun _ => 0
      · obtain ⟨k, hk1, hk2⟩ := hs
        exact ih k hk1 hk2
      · exact ⟨t, ht, fun k hk hz => hs ⟨k, hk, hz⟩⟩
  obtain ⟨m, hm, hmin⟩ := least
  by_cases hmn : m ≤ n
  · exact dead_after h hm hmn
  · exfalso
    have hlt : n < (orbit f m x).length := by rw [orbit_length]; omega
    obtain ⟨cs, hcl, ⟨c, hc, hc0⟩, hcz⟩ := dependent n (orbit f m x) hlt
    rw [orbit_length] at hcl
    have supp : ∀ (j : Nat) (y : Vec), (∀ i, n ≤ i → y i = 0) → ∀ v ∈ orbit f j y, ∀ i, n ≤ i → v i = 0 := by
      intro j
      induction j with
      | zero => intro y _ v hv; simp [orbit] at hv
      | succ j ih =>
        intro y hy v hv
        rcases List.mem_cons.mp (show v ∈ y :: orbit f j (f y) from hv) with q | q
        · rw [q]; exact hy
        · exact ih (f y) (hk y hy) v q
    have hall : comb cs (orbit f cs.length x) = fun _ => 0 := by
      rw [hcl]
      funext i
      by_cases hi : i < n
      · exact hcz i hi
      · exact comb_zero_at _ _ _ fun v hv => supp m x hx v hv i (by omega)
    exact hc0 (orbit_indep h m x cs (by omega) hm hmin hall c hc)
end WK
namespace WK

/-! ### runs and the limit -/
/-- the loop of runs: what is found, the first basin of the run at hand, behind the weirs 1 .. k -/
def runsTo (n : Nat) (ws : List Nat) : Nat → List (Nat × Nat) × Nat
  | 0 => ([], 0)
  | k + 1 => if k + 1 = n ∨ k + 1 ∉ ws then ((runsTo n ws k).1 ++ [((runsTo n ws k).2, k + 1)], k + 1) else runsTo n ws k
def runsR (n : Nat) (ws : List Nat) : List (Nat × Nat) := (runsTo n ws n).1
def cut {α : Type} (xs : List α) (f l : Nat) : List α := (xs.drop f).take (l - f)
/-- water of a run over its area, times each area -/
def evenOf (as : List Int) (v : List Rat) (f l : Nat) : List Rat :=
  (cut as f l).map fun (a : Int) => (cut v f l).sum / (((cut as f l).sum : Int) : Rat) * ((a : Int) : Rat)
def evens (as : List Int) (v : List Rat) (ps : List (Nat × Nat)) : List Rat := ps.flatMap fun p => evenOf as v p.1 p.2
def goalR (as : List Int) (v : List Rat) (ws : List Nat) : List Rat := evens as v (runsR as.length ws)

theorem cut_length {α : Type} (xs : List α) (f l : Nat) : (cut xs f l).length = min (l - f) (xs.length - f) := by
  simp [cut]
theorem evens_append (as : List Int) (v : List Rat) (ps : List (Nat × Nat)) (f l : Nat) : evens as v (ps ++ [(f, l)]) = evens as v ps ++ evenOf as v f l := by
  simp [evens]
theorem evenOf_length (as : List Int) (v : List Rat) (f l : Nat) (h : l ≤ as.length) : (evenOf as v f l).length = l - f := by
  simp [evenOf, cut_length]; omega
theorem cut_get {α : Type} (xs : List α) (f l i : Nat) (h : i < l - f) : (cut xs f l)[i]? = xs[f + i]? := by
  simp [cut, h]
theorem vo_evenOf (as : List Int) (v : List Rat) (f l i : Nat) (h : i < l - f) (hl : l ≤ as.length) :
    vo (evenOf as v f l) i = (cut v f l).sum / (((cut as f l).sum : Int) : Rat) * ar as (f + i) := by
  unfold vo ar evenOf
  rw [List.getD_eq_getElem?_getD, List.getElem?_map, cut_get as f l i h, List.getD_eq_getElem?_getD]
  have : f + i < as.length := by omega
  simp [this]
theorem vo_append_left (u v : List Rat) (i : Nat) (h : i < u.length) : vo (u ++ v) i = vo u i := by
  unfold vo
  rw [List.getD_eq_getElem?_getD, List.getD_eq_getElem?_getD, List.getElem?_append_left h]
theorem vo_append_right (u v : List Rat) (i : Nat) (h : u.length ≤ i) : vo (u ++ v) i = vo v (i - u.length) := by
  unfold vo
  rw [List.getD_eq_getElem?_getD, List.getD_eq_getElem?_getD, List.getElem?_append_right h]

/-- heights of both sides of a weir are even: a_w * v_(w-1) = a_(w-1) * v_w -/
def EvenAt (as : List Int) (g : List Rat) (w : Nat) : Prop := ar as w * vo g (w - 1) = ar as (w - 1) * vo g w
theorem runs_inv (as : List Int) (v : List Rat) (ws : List Nat) : ∀ k, k ≤ as.length →
    (evens as v (runsTo as.length ws k).1).length = (runsTo as.length ws k).2 ∧ (runsTo as.length ws k).2 ≤ k ∧
    (0 < k → (k = as.length → (runsTo as.length ws k).2 = k)) ∧ ((runsTo as.length ws k).2 < as.length → (runsTo as.length ws k).2 = 0 ∨ (runsTo as.length ws k).2 ∉ ws) ∧
    ∀ w, 0 < w → w < (runsTo as.length ws k).2 → w ∈ ws → EvenAt as (evens as v (runsTo as.length ws k).1) w
  | 0, _ => ⟨rfl, Nat.le_refl _, fun h => absurd h (Nat.lt_irrefl _), fun _ => .inl rfl, fun w h1 h2 => absurd h2 (Nat.not_lt_zero w)⟩
  | k + 1, hk => by
    obtain ⟨h1, h2, h3, h4, h5⟩ := runs_inv as v ws k (by omega)
    generalize hq : runsTo as.length ws k = q at h1 h2 h3 h4 h5
    have hstep : runsTo as.length ws (k + 1) = if k + 1 = as.length ∨ k + 1 ∉ ws then (q.1 ++ [(q.2, k + 1)], k + 1) else q := by
      show (if k + 1 = as.length ∨ k + 1 ∉ ws then _ else _) = _
      rw [hq]
    rw [hstep]
    by_cases hc : k + 1 = as.length ∨ k + 1 ∉ ws
    · rw [if_pos hc]
      dsimp only
      have hl : (evenOf as v q.2 (k + 1)).length = k + 1 - q.2 := evenOf_length as v q.2 (k + 1) hk
      refine ⟨by rw [evens_append, List.length_append, h1, hl]; omega, Nat.le_refl _, fun _ _ => rfl, fun hlt => ?_, fun w w0 w1 hw => ?_⟩
      · rcases hc with hc | hc
        · omega
        · exact .inr hc
      · rw [evens_append]
        unfold EvenAt
        by_cases ha : w < q.2
        · rw [vo_append_left _ _ _ (by omega), vo_append_left _ _ _ (by omega)]
          exact h5 w w0 ha hw
        · by_cases hb : w = q.2
          · subst hb
            rcases h4 (by omega) with z | z
            · omega
            · exact absurd hw z
          · rw [vo_append_right _ _ _ (by omega), vo_append_right _ _ _ (by omega), h1, vo_evenOf as v _ _ _ (by omega) hk, vo_evenOf as v _ _ _ (by omega) hk]
            have e1 : q.2 + (w - 1 - q.2) = w - 1 := by omega
            have e2 : q.2 + (w - q.2) = w := by omega
            rw [e1, e2]
            grind
    · rw [if_neg hc]
      refine ⟨h1, by omega, fun _ he => ?_, h4, h5⟩
      exact absurd (Or.inl he) hc
theorem goalR_length (as : List Int) (v : List Rat) (ws : List Nat) (h0 : 0 < as.length) : (goalR as v ws).length = as.length := by
  obtain ⟨h1, h2, h3, _⟩ := runs_inv as v ws as.length (Nat.le_refl _)
  show (evens as v (runsTo as.length ws as.length).1).length = _
  rw [h1, h3 h0 rfl]
theorem goalR_even (as : List Int) (v : List Rat) (ws : List Nat) (h0 : 0 < as.length) (w : Nat) (w0 : 0 < w) (w1 : w < as.length) (hw : w ∈ ws) : EvenAt as (goalR as v ws) w := by
  obtain ⟨h1, h2, h3, h4, h5⟩ := runs_inv as v ws as.length (Nat.le_refl _)
  exact h5 w w0 (by rw [h3 h0 rfl]; exact w1) hw

/-! ### the limit stays, differences are mapped -/
/-- the difference of two rows as a vector -/
def dif (x g : List Rat) : Vec := fun i => vo x i - vo g i
theorem vo_out (x : List Rat) (i : Nat) (h : x.length ≤ i) : vo x i = 0 := by
  unfold vo
  rw [List.getD_eq_getElem?_getD, List.getElem?_eq_none h]; rfl
theorem dif_open {as : List Int} (ha : Areas as) {x g : List Rat} (hx : x.length = as.length) (hg : g.length = as.length) {w : Nat} (w0 : 0 < w) (w1 : w < as.length) (he : EvenAt as g w) :
    dif (openR as x w) g = opV as w (dif x g) := by
  have p1 := ha.pos (w - 1)
  have p2 := ha.pos w
  unfold EvenAt at he
  funext i
  unfold dif opV
  rw [vo_openR as x w w0 (by omega)]
  by_cases h : i = w
  · subst h
    rw [if_pos rfl, if_pos rfl]
    have : ar as (i - 1) + ar as i ≠ 0 := by grind
    have k : vo g i = (vo g (i - 1) + vo g i) * (ar as i / (ar as (i - 1) + ar as i)) := by grind
    grind
  · rw [if_neg h, if_neg h]
    by_cases h2 : i + 1 = w
    · rw [if_pos h2, if_pos h2]
      have e : w - 1 = i := by omega
      have : ar as (w - 1) + ar as w ≠ 0 := by grind
      have k : vo g (w - 1) = (vo g (w - 1) + vo g w) * (ar as (w - 1) / (ar as (w - 1) + ar as w)) := by grind
      rw [e] at k ⊢
      rw [e] at *
      grind
    · rw [if_neg h2, if_neg h2]
theorem dif_behind {as : List Int} (ha : Areas as) {g : List Rat} (hg : g.length = as.length) : ∀ (ws : List Nat) (x : List Rat), x.length = as.length → (∀ w ∈ ws, 0 < w ∧ w < as.length ∧ EvenAt as g w) →
    dif (behindR as x ws) g = opsV as ws (dif x g)
  | [], _, _, _ => rfl
  | w :: ws, x, hx, h => by
    obtain ⟨w0, w1, he⟩ := h w List.mem_cons_self
    show dif (behindR as (openR as x w) ws) g = opsV as ws (opV as w (dif x g))
    rw [dif_behind ha hg ws (openR as x w) (by rw [openR_length]; exact hx) fun u hu => h u (List.mem_cons_of_mem _ hu), dif_open ha hx hg w0 w1 he]
theorem dif_rounds {as : List Int} (ha : Areas as) {g : List Rat} (hg : g.length = as.length) {ws : List Nat} {x : List Rat} (hx : x.length = as.length) (h : ∀ w ∈ ws, 0 < w ∧ w < as.length ∧ EvenAt as g w) :
    ∀ k, dif (roundsR as ws k x) g = powV (opsV as ws) k (dif x g)
  | 0 => rfl
  | k + 1 => by
    show dif (behindR as (roundsR as ws k x) ws) g = opsV as ws (powV (opsV as ws) k (dif x g))
    rw [dif_behind ha hg ws _ (by rw [roundsR_length]; exact hx) h, dif_rounds ha hg hx h k]
theorem dif_zero {x g : List Rat} (hl : x.length = g.length) : dif x g = (fun _ => 0) ↔ x = g := by
  constructor
  · intro h
    refine ext_vo hl fun i _ => ?_
    have := congrFun h i
    unfold dif at this
    grind
  · rintro rfl
    funext i
    unfold dif
    grind
/-- weirs of a row of n basins -/
def Weirs (n : Nat) (ws : List Nat) : Prop := ∀ w ∈ ws, 0 < w ∧ w < n
/-- what is ever come to is come to behind as many rounds as there are basins -/
theorem settles_within {as : List Int} (ha : Areas as) {ws : List Nat} (hw : Weirs as.length ws) (h0 : 0 < as.length) {v x : List Rat} (hx : x.length = as.length) {t : Nat} (ht : roundsR as ws t x = goalR as v ws) :
    roundsR as ws as.length x = goalR as v ws := by
  have hg := goalR_length as v ws h0
  have hev : ∀ w ∈ ws, 0 < w ∧ w < as.length ∧ EvenAt as (goalR as v ws) w := fun w h => ⟨(hw w h).1, (hw w h).2, goalR_even as v ws h0 w (hw w h).1 (hw w h).2 h⟩
  have hd := dif_rounds ha hg hx hev
  have hz := (dif_zero (x := roundsR as ws t x) (g := goalR as v ws) (by rw [roundsR_length, hx, hg])).mpr ht
  rw [hd t] at hz
  have := nilpotent (lin_ops as ws) as.length (fun y hy i hi => Lin.keeps (as := as) (n := as.length) (ws := ws) (fun w h => (hw w h).2) y hy i hi)
    (x := dif x (goalR as v ws)) (fun i hi => by unfold dif; rw [vo_out x i (by omega), vo_out _ i (by omega)]; grind) hz
  rw [← hd as.length] at this
  exact (dif_zero (by rw [roundsR_length, hx, hg])).mp this
/-- what has come to the limit stays there -/
theorem settled_stays {as : List Int} (ha : Areas as) {ws : List Nat} (hw : Weirs as.length ws) (h0 : 0 < as.length) {v x : List Rat} (hx : x.length = as.length) {t u : Nat} (ht : roundsR as ws t x = goalR as v ws) (hu : t ≤ u) :
    roundsR as ws u x = goalR as v ws := by
  have hg := goalR_length as v ws h0
  have hev : ∀ w ∈ ws, 0 < w ∧ w < as.length ∧ EvenAt as (goalR as v ws) w := fun w h => ⟨(hw w h).1, (hw w h).2, goalR_even as v ws h0 w (hw w h).1 (hw w h).2 h⟩
  have hd := dif_rounds ha hg hx hev
  have hz := (dif_zero (x := roundsR as ws t x) (g := goalR as v ws) (by rw [roundsR_length, hx, hg])).mpr ht
  rw [hd t] at hz
  have := dead_after (lin_ops as ws) hz hu
  rw [← hd u] at this
  exact (dif_zero (by rw [roundsR_length, hx, hg])).mp this

/-! ### the greatest difference of heights -/
def abR (q : Rat) : Rat := if q < 0 then -q else q
theorem abR_nonneg (q : Rat) : 0 ≤ abR q := by unfold abR; split <;> grind
theorem abR_le {q m : Rat} : abR q ≤ m ↔ -m ≤ q ∧ q ≤ m := by unfold abR; split <;> grind
def maxR (f d : Rat) : Rat := if f < d then d else f
def hts (as : List Int) (v : List Rat) : List Rat := List.zipWith (fun q a => q / ((a : Int) : Rat)) v as
def difs (as : List Int) (x y : List Rat) : List Rat := List.zipWith (fun h k => abR (h - k)) (hts as x) (hts as y)
def gapR (as : List Int) (x y : List Rat) : Rat := (difs as x y).foldl maxR 0
theorem fold_max_le {m : Rat} : ∀ (l : List Rat) (f : Rat), l.foldl maxR f ≤ m ↔ f ≤ m ∧ ∀ d ∈ l, d ≤ m
  | [], f => by simp
  | d :: l, f => by
    show l.foldl maxR (maxR f d) ≤ m ↔ _
    rw [fold_max_le l (maxR f d)]
    unfold maxR
    simp only [List.mem_cons, forall_eq_or_imp]
    split
    · constructor
      · rintro ⟨h1, h2⟩; exact ⟨by grind, h1, h2⟩
      · rintro ⟨h1, h2, h3⟩; exact ⟨h2, h3⟩
    · constructor
      · rintro ⟨h1, h2⟩; exact ⟨h1, by grind, h2⟩
      · rintro ⟨h1, h2, h3⟩; exact ⟨h1, h3⟩
theorem le_fold_max (l : List Rat) (f : Rat) : f ≤ l.foldl maxR f ∧ ∀ d ∈ l, d ≤ l.foldl maxR f := (fold_max_le l f).mp (by grind)
theorem hts_length (as : List Int) (v : List Rat) (h : v.length = as.length) : (hts as v).length = as.length := by simp [hts, h]
theorem hts_get {as : List Int} {v : List Rat} {i : Nat} (h1 : i < v.length) (h2 : i < as.length) : (hts as v)[i]? = some (vo v i / ar as i) := by
  simp [hts, List.getElem?_zipWith, h1, h2, vo, ar]
theorem difs_length (as : List Int) (x y : List Rat) (hx : x.length = as.length) (hy : y.length = as.length) : (difs as x y).length = as.length := by
  simp [difs, hts_length, hx, hy]
theorem difs_get {as : List Int} {x y : List Rat} (hx : x.length = as.length) (hy : y.length = as.length) {i : Nat} (h : i < as.length) : (difs as x y)[i]? = some (abR (vo x i / ar as i - vo y i / ar as i)) := by
  simp only [difs, List.getElem?_zipWith]
  rw [hts_get (by omega) h, hts_get (by omega) h]
theorem gapR_le {as : List Int} {x y : List Rat} (hx : x.length = as.length) (hy : y.length = as.length) {m : Rat} :
    gapR as x y ≤ m ↔ 0 ≤ m ∧ ∀ i, i < as.length → abR (vo x i / ar as i - vo y i / ar as i) ≤ m := by
  unfold gapR
  rw [fold_max_le]
  constructor
  · rintro ⟨h1, h2⟩
    exact ⟨h1, fun i hi => h2 _ (List.mem_of_getElem? (difs_get hx hy hi))⟩
  · rintro ⟨h1, h2⟩
    refine ⟨h1, fun d hd => ?_⟩
    obtain ⟨i, hi⟩ := List.mem_iff_getElem?.mp hd
    have hl : i < (difs as x y).length := (List.getElem?_eq_some_iff.mp hi).1
    rw [difs_length as x y hx hy] at hl
    rw [difs_get hx hy hl] at hi
    rw [← Option.some.inj hi]
    exact h2 i hl
theorem gapR_nonneg (as : List Int) (x y : List Rat) : 0 ≤ gapR as x y := (le_fold_max _ _).1
theorem gap_open {as : List Int} (ha : Areas as) {x g : List Rat} (hx : x.length = as.length) (hg : g.length = as.length) {w : Nat} (w0 : 0 < w) (w1 : w < as.length) (he : EvenAt as g w) :
    gapR as (openR as x w) g ≤ gapR as x g := by
  have hm := (gapR_le hx hg (m := gapR as x g)).mp (by grind)
  generalize gapR as x g = m at hm
  obtain ⟨m0, hm⟩ := hm
  rw [gapR_le (by rw [openR_length]; exact hx) hg]
  refine ⟨m0, fun i hi => ?_⟩
  have p1 := ha.pos (w - 1)
  have p2 := ha.pos w
  have d1 := abR_le.mp (hm (w - 1) (by omega))
  have d2 := abR_le.mp (hm w w1)
  unfold EvenAt at he
  have nz : ar as (w - 1) + ar as w ≠ 0 := by grind
  -- the new height, less the limit's
  have key : ∀ (h : Rat), h = (ar as (w - 1) * (vo x (w - 1) / ar as (w - 1) - vo g (w - 1) / ar as (w - 1)) + ar as w * (vo x w / ar as w - vo g w / ar as w)) / (ar as (w - 1) + ar as w) → abR h ≤ m := by
    intro h hh
    generalize vo x (w - 1) / ar as (w - 1) - vo g (w - 1) / ar as (w - 1) = e1 at hh d1
    generalize vo x w / ar as w - vo g w / ar as w = e2 at hh d2
    generalize ar as (w - 1) = a at *
    generalize ar as w = b at *
    have hmul : h * (a + b) = a * e1 + b * e2 := by grind
    rw [abR_le]
    have k1 : a * e1 ≤ a * m := Rat.mul_le_mul_of_nonneg_left d1.2 (by grind)
    have k2 : b * e2 ≤ b * m := Rat.mul_le_mul_of_nonneg_left d2.2 (by grind)
    have k3 : a * (-m) ≤ a * e1 := Rat.mul_le_mul_of_nonneg_left d1.1 (by grind)
    have k4 : b * (-m) ≤ b * e2 := Rat.mul_le_mul_of_nonneg_left d2.1 (by grind)
    have pos : 0 < a + b := by grind
    constructor
    · apply Classical.byContradiction
      intro hn
      have : h < -m := by grind
      have := Rat.mul_lt_mul_of_pos_left this pos
      grind
    · apply Classical.byContradiction
      intro hn
      have : m < h := by grind
      have := Rat.mul_lt_mul_of_pos_left this pos
      grind
  rw [vo_openR as x w w0 (by omega)]
  by_cases h : i = w
  · subst h
    rw [if_pos rfl]
    apply key
    grind
  · rw [if_neg h]
    by_cases h2 : i + 1 = w
    · rw [if_pos h2]
      have e : i = w - 1 := by omega
      apply key
      rw [e]
      grind
    · rw [if_neg h2]
      exact hm i hi
theorem gap_behind {as : List Int} (ha : Areas as) {g : List Rat} (hg : g.length = as.length) : ∀ (ws : List Nat) (x : List Rat), x.length = as.length → (∀ w ∈ ws, 0 < w ∧ w < as.length ∧ EvenAt as g w) →
    gapR as (behindR as x ws) g ≤ gapR as x g
  | [], x, _, _ => by show gapR as x g ≤ gapR as x g; grind
  | w :: ws, x, hx, h => by
    obtain ⟨w0, w1, he⟩ := h w List.mem_cons_self
    have h1 := gap_behind ha hg ws (openR as x w) (by rw [openR_length]; exact hx) fun u hu => h u (List.mem_cons_of_mem _ hu)
    have h2 := gap_open ha hx hg w0 w1 he
    show gapR as (behindR as (openR as x w) ws) g ≤ gapR as x g
    grind
/-- no difference of heights from the limit ever grows -/
theorem gap_falls {as : List Int} (ha : Areas as) {ws : List Nat} (hw : Weirs as.length ws) (h0 : 0 < as.length) {v x : List Rat} (hx : x.length = as.length) (t : Nat) :
    gapR as (roundsR as ws (t + 1) x) (goalR as v ws) ≤ gapR as (roundsR as ws t x) (goalR as v ws) :=
  gap_behind ha (goalR_length as v ws h0) ws _ (by rw [roundsR_length]; exact hx) fun w h => ⟨(hw w h).1, (hw w h).2, goalR_even as v ws h0 w (hw w h).1 (hw w h).2 h⟩
theorem gap_zero {as : List Int} (ha : Areas as) {x g : List Rat} (hx : x.length = as.length) (hg : g.length = as.length) (h : gapR as x g ≤ 0) : x = g := by
  have hm := ((gapR_le hx hg (m := 0)).mp h).2
  refine ext_vo (by omega) fun i hi => ?_
  have := abR_le.mp (hm i (by omega))
  have p := ha.pos i
  have e : vo x i / ar as i = vo g i / ar as i := by grind
  have e2 : vo x i / ar as i * ar as i = vo g i / ar as i * ar as i := by rw [e]
  have nz : ar as i ≠ 0 := by grind
  grind
theorem gap_self {as : List Int} {x : List Rat} (hx : x.length = as.length) : gapR as x x = 0 := by
  have h1 : gapR as x x ≤ 0 := (gapR_le hx hx).mpr ⟨by grind, fun i _ => by rw [abR_le]; grind⟩
  have h2 := gapR_nonneg as x x
  grind
end WK
namespace WK

/-! ### fractions of two integers, their sizes -/
def rt (t b : Int) : Rat := mkRat t b.toNat
theorem rt_self (q : Rat) : rt q.num q.den = q := by
  unfold rt
  have : ((q.den : Int)).toNat = q.den := by omega
  rw [this]
  exact Rat.mkRat_self q
theorem rt_num (t b : Int) (hb : 0 < b) : (rt t b).num = t / (Nat.gcd t.natAbs b.natAbs : Nat) := by
  unfold rt
  have h1 : b.toNat = b.natAbs := by omega
  have h2 : b.natAbs ≠ 0 := by omega
  rw [h1, Rat.num_mkRat, if_neg h2, Nat.gcd_comm]
theorem rt_den (t b : Int) (hb : 0 < b) : ((rt t b).den : Int) = b / (Nat.gcd t.natAbs b.natAbs : Nat) := by
  unfold rt
  have h1 : b.toNat = b.natAbs := by omega
  have h2 : b.natAbs ≠ 0 := by omega
  rw [h1, Rat.den_mkRat, if_neg h2, Nat.gcd_comm]
  have h3 : (b.natAbs : Int) = b := by omega
  rw [Int.natCast_ediv, h3]
theorem rt_eq (t b : Int) (hb : 0 < b) : rt t b = (t : Rat) / (b : Rat) := by
  unfold rt
  have h1 : ((b.toNat : Nat) : Int) = b := by omega
  rw [Rat.mkRat_eq_div]
  have h2 : ((b.toNat : Nat) : Rat) = (b : Rat) := by
    conv => rhs; rw [← h1]
    rfl
  rw [h2]
theorem rt_one (t : Int) : rt t 1 = (t : Rat) := by
  rw [rt_eq t 1 (by decide)]
  have : ((1 : Int) : Rat) = 1 := rfl
  rw [this]; grind
theorem cast_pos {b : Int} (h : 0 < b) : (0 : Rat) < (b : Rat) := Rat.intCast_pos.mpr h
theorem rt_add (a b c d : Int) (hb : 0 < b) (hd : 0 < d) : rt (a * d + c * b) (b * d) = rt a b + rt c d := by
  rw [rt_eq _ _ (Int.mul_pos hb hd), rt_eq _ _ hb, rt_eq _ _ hd, Rat.intCast_add, Rat.intCast_mul, Rat.intCast_mul, Rat.intCast_mul]
  have h1 := cast_pos hb
  have h2 := cast_pos hd
  grind
theorem rt_sub (a b c d : Int) (hb : 0 < b) (hd : 0 < d) : rt (a * d - c * b) (b * d) = rt a b - rt c d := by
  rw [rt_eq _ _ (Int.mul_pos hb hd), rt_eq _ _ hb, rt_eq _ _ hd, Rat.intCast_sub, Rat.intCast_mul, Rat.intCast_mul, Rat.intCast_mul]
  have h1 := cast_pos hb
  have h2 := cast_pos hd
  grind
theorem rt_mul (a b c d : Int) (hb : 0 < b) (hd : 0 < d) : rt (a * c) (b * d) = rt a b * rt c d := by
  rw [rt_eq _ _ (Int.mul_pos hb hd), rt_eq _ _ hb, rt_eq _ _ hd, Rat.intCast_mul, Rat.intCast_mul]
  have h1 := cast_pos hb
  have h2 := cast_pos hd
  grind
theorem rt_div (a b c d : Int) (hb : 0 < b) (hc : 0 < c) (hd : 0 < d) : rt (a * d) (b * c) = rt a b / rt c d := by
  rw [rt_eq _ _ (Int.mul_pos hb hc), rt_eq _ _ hb, rt_eq _ _ hd, Rat.intCast_mul, Rat.intCast_mul]
  have h1 := cast_pos hb
  have h2 := cast_pos hd
  have h3 := cast_pos hc
  grind
theorem rt_lt (a b c d : Int) (hb : 0 < b) (hd : 0 < d) : a * d < c * b ↔ rt a b < rt c d := by
  rw [rt_eq _ _ hb, rt_eq _ _ hd]
  have h1 := cast_pos hb
  have h2 := cast_pos hd
  rw [Rat.div_lt_iff h1]
  have e : (c : Rat) / (d : Rat) * (b : Rat) = ((c : Rat) * (b : Rat)) / (d : Rat) := by grind
  rw [e, Rat.lt_div_iff h2, ← Rat.intCast_mul, ← Rat.intCast_mul, Rat.intCast_lt_intCast]
theorem den_pos' (q : Rat) : (0 : Int) < (q.den : Int) := by have := q.den_pos; omega
theorem abR_num (q : Rat) : (abR q).num = if q.num < 0 then -q.num else q.num := by
  unfold abR
  have h : q < 0 ↔ q.num < 0 := by
    have := Rat.num_nonneg (q := q)
    constructor
    · intro h
      apply Classical.byContradiction
      intro h2
      have := this.mp (by omega)
      grind
    · intro h
      apply Classical.byContradiction
      intro h2
      have : 0 ≤ q := by grind
      have := Rat.num_nonneg.mpr this
      omega
  by_cases c : q < 0
  · rw [if_pos c, if_pos (h.mp c)]; rfl
  · rw [if_neg c, if_neg (fun z => c (h.mpr z))]
theorem abR_den (q : Rat) : (abR q).den = q.den := by
  unfold abR; split <;> rfl
theorem num_pos_iff (q : Rat) : 0 < q.num ↔ 0 < q := by
  have h1 := Rat.num_nonneg (q := q)
  have h2 := Rat.num_eq_zero (q := q)
  constructor
  · intro h
    have : 0 ≤ q := h1.mp (by omega)
    have : q ≠ 0 := fun e => by rw [h2.mpr e] at h; omega
    grind
  · intro h
    have : 0 ≤ q.num := h1.mpr (by grind)
    have : q.num ≠ 0 := fun e => by have := h2.mp e; grind
    omega

/-- at most k bits above and below -/
structure Bk (k : Nat) (q : Rat) : Prop where
  n : q.num.natAbs < 2 ^ k
  d : q.den < 2 ^ k
theorem Bk.mono {j k : Nat} {q : Rat} (h : Bk j q) (hk : j ≤ k) : Bk k q :=
  ⟨Nat.lt_of_lt_of_le h.n (Nat.pow_le_pow_right (by decide) hk), Nat.lt_of_lt_of_le h.d (Nat.pow_le_pow_right (by decide) hk)⟩
theorem Bk.mkRat {k : Nat} {n : Int} {d : Nat} (hn : n.natAbs < 2 ^ k) (hd : d < 2 ^ k) (h0 : d ≠ 0) : Bk k (mkRat n d) := by
  constructor
  · rw [Rat.num_mkRat, if_neg h0]
    have : (n / ((d.gcd n.natAbs : Nat) : Int)).natAbs ≤ n.natAbs := by
      exact Int.natAbs_ediv_le_natAbs n _
    omega
  · rw [Rat.den_mkRat, if_neg h0]
    exact Nat.lt_of_le_of_lt (Nat.div_le_self _ _) hd
theorem Bk.rt {k : Nat} {t b : Int} (ht : t.natAbs < 2 ^ k) (hb : b.natAbs < 2 ^ k) (h0 : 0 < b) : Bk k (rt t b) :=
  Bk.mkRat ht (by omega) (by omega)
theorem pow_mul_lt {a b j k : Nat} (ha : a < 2 ^ j) (hb : b < 2 ^ k) : a * b < 2 ^ (j + k) := by
  rw [Nat.pow_add]; exact Nat.mul_lt_mul'' ha hb
theorem Bk.add {j k : Nat} {x y : Rat} (hx : Bk j x) (hy : Bk k y) : Bk (j + k + 1) (x + y) := by
  rw [Rat.add_def']
  have h1 := pow_mul_lt hx.n hy.d
  have h2 := pow_mul_lt hy.n hx.d
  have h3 := pow_mul_lt hx.d hy.d
  have e : 2 ^ (j + k + 1) = 2 * 2 ^ (j + k) := by rw [Nat.pow_succ]; omega
  have e2 : 2 ^ (k + j) = 2 ^ (j + k) := by rw [Nat.add_comm]
  refine Bk.mkRat ?_ (by omega) (Nat.mul_ne_zero x.den_nz y.den_nz)
  have a1 := Int.natAbs_add_le (x.num * (y.den : Int)) (y.num * (x.den : Int))
  rw [Int.natAbs_mul, Int.natAbs_mul, Int.natAbs_natCast, Int.natAbs_natCast] at a1
  omega
theorem Bk.neg {k : Nat} {x : Rat} (h : Bk k x) : Bk k (-x) := by
  constructor
  · rw [Rat.neg_num, Int.natAbs_neg]; exact h.n
  · rw [Rat.neg_den]; exact h.d
theorem Bk.sub {j k : Nat} {x y : Rat} (hx : Bk j x) (hy : Bk k y) : Bk (j + k + 1) (x - y) := by
  have e : x - y = x + -y := by grind
  rw [e]; exact hx.add hy.neg
theorem Bk.mul {j k : Nat} {x y : Rat} (hx : Bk j x) (hy : Bk k y) : Bk (j + k) (x * y) := by
  rw [Rat.mul_def']
  refine Bk.mkRat ?_ (pow_mul_lt hx.d hy.d) (Nat.mul_ne_zero x.den_nz y.den_nz)
  rw [Int.natAbs_mul]; exact pow_mul_lt hx.n hy.n
theorem Bk.abs {k : Nat} {x : Rat} (h : Bk k x) : Bk k (abR x) := by
  unfold abR; split
  · exact h.neg
  · exact h
theorem Bk.div {j k : Nat} {x y : Rat} (hx : Bk j x) (hy : Bk k y) (h0 : 0 < y) : Bk (j + k) (x / y) := by
  have hn := (num_pos_iff y).mpr h0
  have e : x / y = WK.rt (x.num * (y.den : Int)) ((x.den : Int) * y.num) := by
    rw [rt_div _ _ _ _ (den_pos' x) hn (den_pos' y), rt_self, rt_self]
  rw [e]
  refine Bk.rt ?_ ?_ (Int.mul_pos (den_pos' x) hn)
  · rw [Int.natAbs_mul]; exact pow_mul_lt hx.n (by simpa using hy.d)
  · rw [Int.natAbs_mul]; exact pow_mul_lt (by simpa using hx.d) hy.n
theorem Bk.int {k : Nat} {a : Int} (h : a.natAbs < 2 ^ k) (hk : 0 < k) : Bk k (a : Rat) := by
  constructor
  · exact h
  · show 1 < 2 ^ k
    calc 1 < 2 ^ 1 := by decide
      _ ≤ 2 ^ k := Nat.pow_le_pow_right (by decide) hk
theorem Bk.sum {k : Nat} : ∀ (l : List Rat), (∀ q ∈ l, Bk k q) → Bk (l.length * (k + 1) + 1) l.sum
  | [], _ => ⟨by show (0 : Nat) < _; exact Nat.pow_pos (by decide), by show 1 < 2 ^ ([].length * (k + 1) + 1); simp⟩
  | q :: l, h => by
    have h1 := h q List.mem_cons_self
    have h2 := Bk.sum l fun x hx => h x (List.mem_cons_of_mem _ hx)
    have e : (q :: l).sum = q + l.sum := by simp
    rw [e]
    refine (h1.add h2).mono ?_
    rw [List.length_cons, Nat.succ_mul]; omega
theorem Bk.max {k : Nat} {x y : Rat} (hx : Bk k x) (hy : Bk k y) : Bk k (maxR x y) := by unfold maxR; split <;> assumption
theorem Bk.foldMax {k : Nat} : ∀ (l : List Rat) (f : Rat), Bk k f → (∀ q ∈ l, Bk k q) → Bk k (l.foldl maxR f)
  | [], _, hf, _ => hf
  | q :: l, f, hf, h => Bk.foldMax l (maxR f q) (hf.max (h q List.mem_cons_self)) fun x hx => h x (List.mem_cons_of_mem _ hx)
theorem Bk.zero {k : Nat} (hk : 0 < k) : Bk k 0 := Bk.int (a := 0) (by show (0 : Nat) < _; exact Nat.pow_pos (by decide)) hk
/-- the greatest of a list, from its head on -/
theorem fold_head (q : Rat) (l : List Rat) (h : 0 ≤ q) : (q :: l).foldl maxR 0 = l.foldl maxR q := by
  show l.foldl maxR (maxR 0 q) = _
  have : maxR 0 q = q := by unfold maxR; split <;> grind
  rw [this]

/-! ### the sizes of volumes behind openings -/
structure RowInv (e : Nat) (as : List Int) (v : List Rat) : Prop where
  len : v.length = as.length
  dv : ∀ i, ∃ z : Int, vo v i * ((6 * 840 ^ e : Nat) : Rat) = (z : Rat)
  lo : ∀ i, 0 ≤ vo v i
  hi : ∀ i, vo v i ≤ 8 * ar as i
theorem mul_div840 {c : Int} (h2 : 2 ≤ c) (h8 : c ≤ 8) : ∃ d : Int, c * d = 840 := by
  have : c = 2 ∨ c = 3 ∨ c = 4 ∨ c = 5 ∨ c = 6 ∨ c = 7 ∨ c = 8 := by omega
  rcases this with h | h | h | h | h | h | h <;> subst h
  · exact ⟨420, by decide⟩
  · exact ⟨280, by decide⟩
  · exact ⟨210, by decide⟩
  · exact ⟨168, by decide⟩
  · exact ⟨140, by decide⟩
  · exact ⟨120, by decide⟩
  · exact ⟨105, by decide⟩
theorem RowInv.open {e : Nat} {as : List Int} {v : List Rat} (ha : Areas as) (r : RowInv e as v) {w : Nat} (w0 : 0 < w) (w1 : w < as.length) : RowInv (e + 1) as (openR as v w) := by
  have hv := r.len
  have p1 := ha.pos (w - 1)
  have p2 := ha.pos w
  obtain ⟨b1, c1⟩ := ha.at (w - 1)
  obtain ⟨b2, c2⟩ := ha.at w
  have hD : ((6 * 840 ^ (e + 1) : Nat) : Rat) = ((6 * 840 ^ e : Nat) : Rat) * 840 := by
    have : 6 * 840 ^ (e + 1) = 6 * 840 ^ e * 840 := by rw [Nat.pow_succ]; omega
    rw [this, Rat.natCast_mul]; rfl
  obtain ⟨d, hd⟩ := mul_div840 (c := as.getD (w - 1) 1 + as.getD w 1) (by omega) (by omega)
  have hd' : (ar as (w - 1) + ar as w) * (d : Rat) = 840 := by
    unfold ar
    rw [← Rat.intCast_add, ← Rat.intCast_mul, hd]; rfl
  have nz : ar as (w - 1) + ar as w ≠ 0 := by grind
  obtain ⟨z1, hz1⟩ := r.dv (w - 1)
  obtain ⟨z2, hz2⟩ := r.dv w
  have part : ∀ (a : Int), ∃ z : Int, (vo v (w - 1) + vo v w) * ((a : Rat) / (ar as (w - 1) + ar as w)) * ((6 * 840 ^ (e + 1) : Nat) : Rat) = (z : Rat) := by
    intro a
    refine ⟨(z1 + z2) * a * d, ?_⟩
    rw [hD, Rat.intCast_mul, Rat.intCast_mul, Rat.intCast_add, ← hz1, ← hz2]
    generalize ((6 * 840 ^ e : Nat) : Rat) = D
    rw [← hd']
    grind
  have lo1 := r.lo (w - 1)
  have lo2 := r.lo w
  have hi1 := r.hi (w - 1)
  have hi2 := r.hi w
  have bound : ∀ (a : Rat), 0 < a → 0 ≤ (vo v (w - 1) + vo v w) * (a / (ar as (w - 1) + ar as w)) ∧ (vo v (w - 1) + vo v w) * (a / (ar as (w - 1) + ar as w)) ≤ 8 * a := by
    intro a hpa
    generalize vo v (w - 1) = x at *
    generalize vo v w = y at *
    generalize ar as (w - 1) = b at *
    generalize ar as w = c at *
    have hs : 0 < b + c := by grind
    have hq : 0 < a / (b + c) := by rw [Rat.div_def]; exact Rat.mul_pos hpa (Rat.inv_pos.mpr hs)
    constructor
    · have := Rat.mul_le_mul_of_nonneg_left (c := a / (b + c)) (show (0 : Rat) ≤ x + y by grind) (by grind)
      grind
    · have := Rat.mul_le_mul_of_nonneg_left (c := a / (b + c)) (show x + y ≤ 8 * (b + c) by grind) (by grind)
      have e1 : a / (b + c) * (8 * (b + c)) = 8 * a := by clear this part hd' hz1 hz2; grind
      rw [e1, Rat.mul_comm] at this
      exact this
  refine ⟨by rw [openR_length]; exact hv, fun i => ?_, fun i => ?_, fun i => ?_⟩
  · rw [vo_openR as v w w0 (by omega)]
    by_cases h : i = w
    · rw [if_pos h]; exact part _
    · rw [if_neg h]
      by_cases h2 : i + 1 = w
      · rw [if_pos h2]; exact part _
      · rw [if_neg h2]
        obtain ⟨z, hz⟩ := r.dv i
        refine ⟨z * 840, ?_⟩
        rw [hD, Rat.intCast_mul, ← hz]
        have : ((840 : Int) : Rat) = 840 := rfl
        rw [this]; grind
  · rw [vo_openR as v w w0 (by omega)]
    by_cases h : i = w
    · rw [if_pos h]; exact (bound _ p2).1
    · rw [if_neg h]
      by_cases h2 : i + 1 = w
      · rw [if_pos h2]; exact (bound _ p1).1
      · rw [if_neg h2]; exact r.lo i
  · rw [vo_openR as v w w0 (by omega)]
    by_cases h : i = w
    · subst h; rw [if_pos rfl]; exact (bound _ p2).2
    · rw [if_neg h]
      by_cases h2 : i + 1 = w
      · rw [if_pos h2]
        have e2 : w - 1 = i := by omega
        have := (bound _ p1).2
        rw [e2] at this ⊢
        exact this
      · rw [if_neg h2]; exact r.hi i
theorem RowInv.behind {as : List Int} (ha : Areas as) : ∀ (ws : List Nat) {e : Nat} {v : List Rat}, RowInv e as v → Weirs as.length ws → RowInv (e + ws.length) as (behindR as v ws)
  | [], _, _, r, _ => r
  | w :: ws, e, v, r, h => by
    have h0 := h w List.mem_cons_self
    have := RowInv.behind ha ws (r.open ha h0.1 h0.2) fun u hu => h u (List.mem_cons_of_mem _ hu)
    have e2 : e + (w :: ws).length = e + 1 + ws.length := by rw [List.length_cons]; omega
    rw [e2]; exact this
theorem RowInv.rounds {as : List Int} (ha : Areas as) {ws : List Nat} (hw : Weirs as.length ws) {v : List Rat} (r : RowInv 0 as v) : ∀ k, RowInv (k * ws.length) as (roundsR as ws k v)
  | 0 => by rw [Nat.zero_mul]; exact r
  | k + 1 => by
    have := RowInv.behind ha ws (RowInv.rounds ha hw r k) hw
    rw [Nat.succ_mul]; exact this
theorem pow840 (e : Nat) : 6 * 840 ^ e < 2 ^ (10 * e + 3) := by
  have h : 840 ^ e ≤ 1024 ^ e := Nat.pow_le_pow_left (by decide) e
  have h2 : (1024 : Nat) ^ e = 2 ^ (10 * e) := by rw [show (1024 : Nat) = 2 ^ 10 from rfl, ← Nat.pow_mul]
  rw [Nat.pow_add]
  have : 0 < 2 ^ (10 * e) := Nat.pow_pos (by decide)
  omega
theorem RowInv.bk {e : Nat} {as : List Int} {v : List Rat} (ha : Areas as) (r : RowInv e as v) (i : Nat) : Bk (10 * e + 9) (vo v i) := by
  obtain ⟨z, hz⟩ := r.dv i
  have lo := r.lo i
  have hi := r.hi i
  have hp := pow840 e
  have h4 : ar as i ≤ 4 := by
    unfold ar
    have := (ha.at i).2
    have := Rat.intCast_le_intCast.mpr this
    have e4 : ((4 : Int) : Rat) = 4 := rfl
    rw [e4] at this
    exact this
  generalize hD : 6 * 840 ^ e = D at hz hp
  have D0 : 0 < D := by rw [← hD]; exact Nat.mul_pos (by decide) (Nat.pow_pos (by decide))
  have D0' : (0 : Rat) < (D : Rat) := by
    have := cast_pos (b := (D : Int)) (by omega)
    exact this
  have eq : vo v i = mkRat z D := by
    rw [Rat.mkRat_eq_div]
    grind
  have zlo : (0 : Rat) ≤ (z : Rat) := by
    rw [← hz]
    have := Rat.mul_le_mul_of_nonneg_left (c := (D : Rat)) lo (by grind)
    grind
  have zhi : (z : Rat) ≤ ((32 * D : Int) : Rat) := by
    rw [← hz]
    have := Rat.mul_le_mul_of_nonneg_left (c := (D : Rat)) (show vo v i ≤ 32 by grind) (by grind)
    have e2 : ((32 * D : Int) : Rat) = 32 * (D : Rat) := by rw [Rat.intCast_mul]; rfl
    rw [e2]
    grind
  have z1 : 0 ≤ z := by
    have := Rat.intCast_le_intCast (a := 0) (b := z)
    exact this.mp zlo
  have z2 : z ≤ 32 * D := Rat.intCast_le_intCast.mp zhi
  rw [eq]
  have e2 : 2 ^ (10 * e + 9) = 64 * 2 ^ (10 * e + 3) := by
    rw [show 10 * e + 9 = (10 * e + 3) + 6 by omega, Nat.pow_add]; omega
  exact Bk.mkRat (by omega) (by omega) (by omega)
/-- the first volumes -/
def Vol0 (q : Rat) : Prop := q = 0 ∨ q = 1 ∨ q = 2 ∨ q = 3 ∨ q = 5 ∨ q = 8 ∨ q = 1 / 2 ∨ q = 7 / 3
theorem Vol0.ok {q : Rat} (h : Vol0 q) : (∃ z : Int, q * 6 = (z : Rat)) ∧ 0 ≤ q ∧ q ≤ 8 := by
  rcases h with h | h | h | h | h | h | h | h <;> subst h
  · exact ⟨⟨0, by decide +kernel⟩, by decide +kernel, by decide +kernel⟩
  · exact ⟨⟨6, by decide +kernel⟩, by decide +kernel, by decide +kernel⟩
  · exact ⟨⟨12, by decide +kernel⟩, by decide +kernel, by decide +kernel⟩
  · exact ⟨⟨18, by decide +kernel⟩, by decide +kernel, by decide +kernel⟩
  · exact ⟨⟨30, by decide +kernel⟩, by decide +kernel, by decide +kernel⟩
  · exact ⟨⟨48, by decide +kernel⟩, by decide +kernel, by decide +kernel⟩
  · exact ⟨⟨3, by decide +kernel⟩, by decide +kernel, by decide +kernel⟩
  · exact ⟨⟨14, by decide +kernel⟩, by decide +kernel, by decide +kernel⟩
theorem rowInv0 {as : List Int} (ha : Areas as) {v : List Rat} (hl : v.length = as.length) (h : ∀ q ∈ v, Vol0 q) : RowInv 0 as v := by
  have hv : ∀ i, Vol0 (vo v i) := by
    intro i
    unfold vo
    rw [List.getD_eq_getElem?_getD]
    cases e : v[i]? with
    | none => exact .inl rfl
    | some q => exact h q (List.mem_of_getElem? e)
  refine ⟨hl, fun i => ?_, fun i => (hv i).ok.2.1, fun i => ?_⟩
  · obtain ⟨⟨z, hz⟩, _⟩ := (hv i).ok
    refine ⟨z, ?_⟩
    have : ((6 * 840 ^ 0 : Nat) : Rat) = 6 := rfl
    rw [this]; exact hz
  · have h8 := (hv i).ok.2.2
    have h1 : 1 ≤ ar as i := by
      unfold ar
      have := Rat.intCast_le_intCast.mpr (ha.at i).1
      have e1 : ((1 : Int) : Rat) = 1 := rfl
      rw [e1] at this
      exact this
    have := Rat.mul_le_mul_of_nonneg_left (c := 8) h1 (by decide)
    grind
theorem vo_mem {v : List Rat} {q : Rat} (h : q ∈ v) : ∃ i, i < v.length ∧ vo v i = q := by
  obtain ⟨i, hi, e⟩ := List.mem_iff_getElem.mp h
  refine ⟨i, hi, ?_⟩
  unfold vo
  rw [List.getD_eq_getElem?_getD, List.getElem?_eq_getElem hi, e]; rfl
end WK
namespace WK
theorem runs_bd (n : Nat) (ws : List Nat) : ∀ k, k ≤ n → (runsTo n ws k).2 ≤ k ∧ ∀ p ∈ (runsTo n ws k).1, p.1 < p.2 ∧ p.2 ≤ n
  | 0, _ => ⟨Nat.le_refl _, fun p hp => by cases hp⟩
  | k + 1, h => by
    obtain ⟨h1, h2⟩ := runs_bd n ws k (by omega)
    unfold runsTo
    split
    · refine ⟨Nat.le_refl _, fun p hp => ?_⟩
      rcases List.mem_append.mp hp with hp | hp
      · exact h2 p hp
      · rw [List.mem_singleton] at hp
        subst hp
        exact ⟨by show (runsTo n ws k).2 < k + 1; omega, h⟩
    · exact ⟨by omega, h2⟩
theorem runs_mem {n : Nat} {ws : List Nat} {p : Nat × Nat} (h : p ∈ runsR n ws) : p.1 < p.2 ∧ p.2 ≤ n := (runs_bd n ws n (Nat.le_refl _)).2 p h
theorem sum_pos : ∀ (l : List Int), (∀ a ∈ l, 1 ≤ a ∧ a ≤ 4) → (l.length : Int) ≤ l.sum ∧ l.sum ≤ 4 * (l.length : Int)
  | [], _ => by simp
  | a :: l, h => by
    have h1 := h a (List.mem_cons_self ..)
    have h2 := sum_pos l fun b hb => h b (List.mem_cons_of_mem _ hb)
    simp only [List.sum_cons, List.length_cons]
    omega
theorem cut_sum {as : List Int} (ha : Areas as) (h6 : as.length ≤ 6) {f l : Nat} (hf : f < l) (hl : l ≤ as.length) : 0 < (cut as f l).sum ∧ (cut as f l).sum ≤ 24 := by
  have h := sum_pos (cut as f l) fun a h => ha a (List.mem_of_mem_drop (List.mem_of_mem_take h))
  have : (cut as f l).length = l - f := by rw [cut_length]; omega
  omega
theorem cut_mem {α : Type} {l : List α} {a b : Nat} {x : α} (h : x ∈ cut l a b) : x ∈ l := List.mem_of_mem_drop (List.mem_of_mem_take h)
theorem even_bk {as : List Int} (ha : Areas as) (h6 : as.length ≤ 6) {v : List Rat} (hb : ∀ q ∈ v, Bk 9 q) (h0 : ∀ q ∈ v, 0 ≤ q) {f l : Nat} (hf : f < l) (hl : l ≤ as.length) :
    Bk 61 (cut v f l).sum ∧ 0 ≤ (cut v f l).sum ∧ Bk 5 (rt (cut as f l).sum 1) ∧ 0 < rt (cut as f l).sum 1 := by
  obtain ⟨s1, s2⟩ := cut_sum ha h6 hf hl
  refine ⟨?_, ?_, Bk.rt (by show _ < 32; omega) (by decide) (by decide), by rw [rt_one]; exact Rat.intCast_pos.mpr s1⟩
  · have hlen : (cut v f l).length ≤ 6 := by rw [cut_length]; omega
    exact (Bk.sum (k := 9) _ fun q hq => hb q (cut_mem hq)).mono (by omega)
  · have : ∀ l : List Rat, (∀ q ∈ l, 0 ≤ q) → 0 ≤ l.sum := by
      intro l
      induction l with
      | nil => intro _; simp
      | cons a l ih => intro h; have := ih fun q hq => h q (List.mem_cons_of_mem _ hq); have := h a (List.mem_cons_self ..); simp only [List.sum_cons]; grind
    exact this _ fun q hq => h0 q (cut_mem hq)
theorem goal_mem {as : List Int} {v : List Rat} {ws : List Nat} {q : Rat} (h : q ∈ goalR as v ws) : ∃ (p : Nat × Nat) (a : Int), p.1 < p.2 ∧ p.2 ≤ as.length ∧ a ∈ as ∧ q = (cut v p.1 p.2).sum / rt (cut as p.1 p.2).sum 1 * rt a 1 := by
  unfold goalR evens at h
  obtain ⟨p, hp, hq⟩ := List.mem_flatMap.mp h
  obtain ⟨a, ha, rfl⟩ := List.mem_map.mp hq
  obtain ⟨h1, h2⟩ := runs_mem hp
  exact ⟨p, a, h1, h2, cut_mem ha, by rw [rt_one, rt_one]⟩
theorem goal_ok {as : List Int} (ha : Areas as) (h6 : as.length ≤ 6) {v : List Rat} (hb : ∀ q ∈ v, Bk 9 q) (h0 : ∀ q ∈ v, 0 ≤ q) {ws : List Nat} : ∀ q ∈ goalR as v ws, 0 ≤ q ∧ Bk 69 q := by
  intro q hq
  obtain ⟨p, a, h1, h2, ha', rfl⟩ := goal_mem hq
  obtain ⟨b1, b2, b3, b4⟩ := even_bk ha h6 hb h0 h1 h2
  obtain ⟨a1, a4⟩ := ha a ha'
  have ba : Bk 3 (rt a 1) := Bk.rt (by show _ < 8; omega) (by decide) (by decide)
  have pa : (0 : Rat) ≤ rt a 1 := by rw [rt_one]; exact Rat.intCast_nonneg.mpr (by omega)
  refine ⟨Rat.mul_nonneg (by rw [Rat.div_def]; exact Rat.mul_nonneg b2 (Rat.le_of_lt (Rat.inv_pos.mpr b4))) pa, (((b1.div b3 b4).mul ba)).mono (by decide)⟩
end WK
set_option Elab.async false
set_option linter.all false
set_option maxRecDepth 100000
set_option maxHeartbeats 4000000
namespace WR
open PySem PySem.Spec PyProof.Rows L2

section
variable {X : Cx} {CX : CXT} {k : Nat} {f C : Addr} {sp : Sp} {pins : List (Addr × Obj)} {σ : L2.St} {H : Hp} {s : Shared} {A : Around}

/-- a callee runs, at any activation of this frame -/
theorem run_at {E : XK} {Q : VK} {us : List Value} {vs : List V} (F : FnR X.prog X.w X.K X.mg X.base CX k f sp) (hr : Room k A) (hf : A.frames = X.A.frames) (hx : PassesAt CX X σ E) (I : Inv X pins σ H s) (r : Vals vs us) (h : sp vs H Q E) :
    wpAny (model X.prog X.w) A (call (.ref f) us) (EP X pins σ Q) X.xe s := by
  have e0 : Env0 X.prog X.w X.K X.mg X.base A X.stack s H := by
    have e := I.env0
    exact ⟨by rw [hf]; exact e.frames, e.mod, e.bs, e.bsz, e.funs, e.frf, e.hok, e.bare⟩
  refine wpAny_call (codeAny_mono (F A X.stack s H us vs Q E hr e0 r h) fun r s' hq => ?_)
  cases r with
  | error e => exact hx pins H s e s' I hq
  | ok fl =>
    cases fl with
    | ret u => exact I.after hq
    | next => exact False.elim hq
    | brk => exact False.elim hq
    | cont => exact False.elim hq

/-- f(..), f a def that keeps its promise however it is bound; E: the wish about exceptions by the slots -/
def tCl (sp : Sp) (E : L2.St → XK) (t : TA) : TE := fun σ H Q => t σ H fun vs H1 => sp vs H1 Q (E σ)
theorem pe_cl {x : Str} {p pos : Pos} {e : Expr} {es : List Expr} {t : TA} {E : L2.St → XK} (F : FnR X.prog X.w X.K X.mg X.base CX k f sp) (hr : Room k X.A) (hm : X.mg x = some (.ref f)) (hk : PySem.W.keepIn X.K (.ref f) = true) (hx : ∀ σ, PassesAt CX X σ (E σ))
    (ha : PA X (e :: es) t) (hg : Gl X x := by rfl) (hdb : (x == ("__debug__" : Str)) = false := by decide) (he : starEach (e :: es) X.env = (false, eval e X.env) :: starEach es X.env := by rfl) (hpl : (backTo pos (starEach es X.env)).any (·.1) = false := by rfl) :
    PE X (.Call (.Name x p) (e :: es) [] pos) (tCl sp E t) := by
  refine ⟨fun pins s σ H Q I h => ?_⟩
  refine wpAny_Call_Name_kw (ld_glob I hg hm ?_ hdb)
  refine PySem.W.callWith_K (h₀ := X.base) I.ok.mod.kin hk (thn (ha.run pos pins s σ H _ I h) fun us s1 ⟨vs, H1, I1, r, q⟩ => ⟨I1.kIn, ?_⟩) he hpl
  exact run_at F hr rfl (hx σ) I1 r q

/-- o.m(..), o an instance of the class at C -/
def tMt (C : Addr) (m : Str) (sp : Sp) (E : L2.St → XK) (ta : TE) (t : TA) : TE := fun σ H Q => ta σ H fun x H1 => ∃ a dx fs, x = .ref a ∧ H1 a = some (.ins C dx fs) ∧ fs.lookup m = none ∧ t σ H1 fun vs H2 => sp (x :: vs) H2 Q (E σ)
theorem pe_mt {m : Str} {E : L2.St → XK} {o e : Expr} {es : List Expr} {ta : TE} {t : TA} {apos pos : Pos} {pl : Sem Bool} (he : PE X o ta) (c : Cls X.K C) (hm : Meth X.K C m f)
    (F : FnR X.prog X.w X.K X.mg X.base CX k f sp) (hr : Room k X.A) (hx : ∀ σ, PassesAt CX X σ (E σ)) (ha : PA X (e :: es) t)
    (hst : starEach (e :: es) X.env = (false, eval e X.env) :: starEach es X.env := by rfl) (hpl : (backTo pos (starEach es X.env)).any (·.1) = false := by rfl)
    (ht : eval (.Call (.Attribute o m apos) (e :: es) [] pos) X.env = (do
      let ov ← eval o X.env
      standAt apos.atName
      let (f, first) ← holding [ov] (getMethod ov m pl)
      callWith pos f first (backTo pos (starEach (e :: es) X.env)) (backToKw pos (keywordEach [] X.env))) := by rfl) :
    PE X (.Call (.Attribute o m apos) (e :: es) [] pos) (tMt C m sp E ta t) := by
  refine ⟨fun pins s σ H Q I h => ?_⟩
  refine PySem.W.methodCall_KW (pl := pl) (thn (he.run pins s σ H _ I h) fun u s1 ⟨x, H1, I1, rx, a, dx, fs, ex, ea, l, q⟩ => ?_) ht
  subst ex
  obtain rfl : u = Value.ref a := rx
  refine getmeth_ok I1 ea c hm l ?_
  refine PySem.W.callWith_K (first := [.ref a]) (h₀ := X.base) I.ok.mod.kin hm.kp (thn (ha.run pos pins s1 σ H1 _ I1 q) fun us s2 ⟨vs, H2, I2, r, q2⟩ => ⟨I2.kIn, ?_⟩) hst hpl
  exact run_at (us := .ref a :: us) (vs := .ref a :: vs) F hr rfl (hx σ) I2 (.cons rfl r) q2
theorem pe_mt0 {m : Str} {E : L2.St → XK} {o : Expr} {ta : TE} {apos pos : Pos} {pl : Sem Bool} (he : PE X o ta) (c : Cls X.K C) (hm : Meth X.K C m f)
    (F : FnR X.prog X.w X.K X.mg X.base CX k f sp) (hr : Room k X.A) (hx : ∀ σ, PassesAt CX X σ (E σ))
    (ht : eval (.Call (.Attribute o m apos) [] [] pos) X.env = (do
      let ov ← eval o X.env
      standAt apos.atName
      let (f, first) ← holding [ov] (getMethod ov m pl)
      callWith pos f first (backTo pos (starEach [] X.env)) (backToKw pos (keywordEach [] X.env))) := by rfl) :
    PE X (.Call (.Attribute o m apos) [] [] pos) (tMt C m sp E ta tNil) := by
  refine ⟨fun pins s σ H Q I h => ?_⟩
  refine PySem.W.methodCall_KW (pl := pl) (thn (he.run pins s σ H _ I h) fun u s1 ⟨x, H1, I1, rx, a, dx, fs, ex, ea, l, q⟩ => ?_) ht
  subst ex
  obtain rfl : u = Value.ref a := rx
  refine getmeth_ok I1 ea c hm l ?_
  exact PySem.W.callWith_K0 (first := [.ref a]) I1.kIn hm.kp (run_at (us := [.ref a]) (vs := [.ref a]) F hr rfl (hx σ) I1 (.cons rfl .nil) q)

/-- C(..): a new instance, then its __init__ -/
def tMk (C : Addr) (sp : Sp) (t : TA) : TE := fun σ H Q => t σ H fun vs H1 => ∀ x dx, H1 x = none → H1 dx = none → dx ≠ x →
  sp (.ref x :: vs) (upd (upd H1 dx (.own x)) x (.ins C dx [])) (fun v H2 => v = .non ∧ Q (.ref x) H2) E0
theorem pe_mk {x : Str} {p pos : Pos} {e : Expr} {es : List Expr} {t : TA} (M : Mk X.K C f) (F : FnR X.prog X.w X.K X.mg X.base CX k f sp) (hr : Room (k + 1) X.A) (hm : X.mg x = some (.ref C)) (hx : Passes CX X E0)
    (ha : PA X (e :: es) t) (hg : Gl X x := by rfl) (hdb : (x == ("__debug__" : Str)) = false := by decide) (he : starEach (e :: es) X.env = (false, eval e X.env) :: starEach es X.env := by rfl) (hpl : (backTo pos (starEach es X.env)).any (·.1) = false := by rfl) :
    PE X (.Call (.Name x p) (e :: es) [] pos) (tMk C sp t) := by
  refine ⟨fun pins s σ H Q I h => ?_⟩
  refine wpAny_Call_Name_kw (ld_glob I hg hm ?_ hdb)
  refine PySem.W.callWith_K (h₀ := X.base) I.ok.mod.kin M.kp (thn (ha.run pos pins s σ H _ I h) fun us s1 ⟨vs, H1, I1, r, q⟩ => ⟨I1.kIn, ?_⟩) he hpl
  show wpAny _ _ (call (.ref C) us) _ _ _
  have hq := q (s1.heap.objs.size + 1) s1.heap.objs.size (I1.hok.fresh (Nat.le_succ _)) (I1.hok.fresh (Nat.le_refl _)) (Nat.ne_of_lt (Nat.lt_succ_self _))
  have I2 := Inv.made (C := C) I1
  have r2 : Vals (V.ref (s1.heap.objs.size + 1) :: vs) (Value.ref (s1.heap.objs.size + 1) :: us) := .cons rfl r
  refine wpAny_call (make_map (f := f) I1.kIn M.makes M.init (beq_iff_eq.mp M.fn) (codeAny_mono (F _ X.stack _ _ _ _ _ E0 (hr.make C us []) (I2.env0.make C us []) r2 hq) fun r s' hq' => ?_))
  cases r with
  | error e => exact hx pins σ _ _ e s' I2 hq'
  | ok fl =>
    cases fl with
    | ret u =>
      obtain ⟨v, H', I3, rv, ev, q3⟩ := I2.after hq'
      subst ev
      exact ⟨rv, ⟨V.ref (s1.heap.objs.size + 1), H', I3, rfl, q3⟩⟩
    | next => exact False.elim hq'
    | brk => exact False.elim hq'
    | cont => exact False.elim hq'

/-! ### an instance's own special methods -/
theorem ins_at {a C dx : Addr} {fs : List (Str × V)} (I : Inv X pins σ H s) (e : H a = some (.ins C dx fs)) : ∃ od, PySem.W.InstAt s.heap a (PySem.W.instObj C dx) C (some od) := by
  obtain ⟨mA, O, _⟩ := ins_get I.hok e
  obtain ⟨od, J, _⟩ := O.look
  exact ⟨od, J⟩
/-- the def at f is the class's own special method -/
structure Own (K : PySem.W.Frag) (C : Addr) (name : Str) (f : Addr) : Prop where
  at_ : PySem.W.findIn K (.ref C) name = some (some (.ref f))
  fn : PySem.W.isFn K (.ref f) = true
/-- len(o) by an own __len__ -/
def rLenO (C : Addr) (sp : Sp) : List V → Hp → VK → Prop := fun xs H Q => ∃ a dx fs, xs = [.ref a] ∧ H a = some (.ins C dx fs) ∧ sp [.ref a] H (fun v H' => ∃ n : Int, v = .int n ∧ 0 ≤ n ∧ n < 2 ^ 63 ∧ Q (.int n) H') E0
theorem call_lenO (O : Own X.K C "__len__" f) (F : FnR X.prog X.w X.K X.mg X.base CX k f sp) (hr : Room (k + 1) X.A) (hx : ∀ σ, PassesAt CX X σ E0) : CallR X (.builtin "len") (rLenO C sp) := by
  intro pins s σ H xs us Q I r h
  obtain ⟨a, dx, fs, rfl, ha, q⟩ := h
  obtain ⟨u, rfl, rx⟩ := vals1 r
  cases rx
  obtain ⟨od, J⟩ := ins_at I ha
  obtain ⟨m, hF⟩ := I.fr
  refine PySem.W.len_K hF I.ok.mod.kin J O.at_ O.fn ?_
  refine wpAny_mono (run_at (A := X.A.in1) (vs := [V.ref a]) (us := [Value.ref a]) F hr.in1 rfl (hx σ) I (.cons rfl .nil) q) (fun v s' hv => ?_) fun _ _ z => z
  obtain ⟨z, H', I', rz, n, rfl, h0, h1, q'⟩ := hv
  obtain ⟨t, rfl⟩ := rz
  exact ⟨⟨h0, h1⟩, .int n, H', I'.tok _, ⟨_, rfl⟩, q'⟩
/-- an instance's truth by an own __bool__ -/
def rTruO (C : Addr) (sp : Sp) : V → Hp → (Bool → Hp → Prop) → Prop := fun x H Q => ∃ a dx fs, x = .ref a ∧ H a = some (.ins C dx fs) ∧ sp [.ref a] H (fun v H' => ∃ b, v = .bl b ∧ Q b H') E0
theorem truO {A : Around} (O : Own X.K C "__bool__" f) (F : FnR X.prog X.w X.K X.mg X.base CX k f sp) (hr : Room k A) (hf : A.frames = X.A.frames) (hx : ∀ σ, PassesAt CX X σ E0) {x : V} {v : Value} {Q : Bool → Hp → Prop} (I : Inv X pins σ H s) (rx : RelV x v) (h : rTruO C sp x H Q) :
    wpAny (model X.prog X.w) A (truthy v) (TP X pins σ Q) X.xe s := by
  obtain ⟨a, dx, fs, rfl, ha, q⟩ := h
  cases rx
  obtain ⟨od, J⟩ := ins_at I ha
  obtain ⟨m, hF⟩ := I.fr
  refine PySem.W.truthy_K hF I.ok.mod.kin J O.at_ O.fn ?_
  refine wpAny_mono (run_at (A := A) (vs := [V.ref a]) (us := [Value.ref a]) F hr hf (hx σ) I (.cons rfl .nil) q) (fun v s' hv => ?_) fun _ _ z => z
  obtain ⟨z, H', I', rz, b, rfl, q'⟩ := hv
  cases rz
  exact ⟨H', I', q'⟩
/-- one of two rules -/
theorem pt_truO {e : Expr} {te : TE} {r : V → Hp → (Bool → Hp → Prop) → Prop} (ha : PE X e te)
    (hr : ∀ (pins : List (Addr × Obj)) (s : Shared) (σ : L2.St) (H : Hp) (x : V) (v : Value) (Q : Bool → Hp → Prop), Inv X pins σ H s → RelV x v → r x H Q → wpAny (model X.prog X.w) X.A (truthy v) (TP X pins σ Q) X.xe s)
    (he : ∀ whole, isTrue e X.env whole = (do let v ← whole; standAt e.pos; holding [v] (truthy v)) := by intro _; rfl) : PT X e (fun σ H Q => te σ H fun x H' => r x H' Q) := by
  refine ⟨fun pins s σ H Q I h => ?_⟩
  exact isTrue_plain (thn (ha.run pins s σ H _ I h) fun v s1 ⟨x, H1, I1, r1, q1⟩ => hr pins s1 σ H1 x v Q I1 r1 q1) (he _)
/-- x in o, x not in o by an own __contains__ -/
def rInO (C : Addr) (sp : Sp) (neg : Bool) : R2 := fun x y H Q => ∃ a dx fs, y = .ref a ∧ H a = some (.ins C dx fs) ∧ sp [.ref a, x] H (fun v H' => ∃ b, v = .bl b ∧ Q (.bl (if neg then !b else b)) H') E0
theorem op_notInO (O : Own X.K C "__contains__" f) (F : FnR X.prog X.w X.K X.mg X.base CX k f sp) (hr : Room k X.A) (hx : ∀ σ, PassesAt CX X σ E0) : OpR X (compareOp .NotIn) (rInO C sp true) := by
  intro pins s σ H x y v u Q I rx ry h
  obtain ⟨a, dx, fs, rfl, ha, q⟩ := h
  cases ry
  obtain ⟨od, J⟩ := ins_at I ha
  obtain ⟨m, hF⟩ := I.fr
  refine PySem.W.notIn_K hF I.ok.mod.kin J O.at_ O.fn ?_
  refine wpAny_mono (run_at (vs := [V.ref a, x]) (us := [Value.ref a, v]) F hr rfl (hx σ) I (.cons rfl (.cons rx .nil)) q) (fun v s' hv => ?_) fun _ _ z => z
  obtain ⟨z, H', I', rz, b, rfl, q'⟩ := hv
  cases rz
  exact wpAny_truthy_bool ⟨.bl (!b), H', I', rfl, q'⟩
end
end WR
set_option Elab.async false
set_option linter.all false
set_option maxRecDepth 100000
set_option maxHeartbeats 4000000
/-! a list's in and index, and ==, where the items' own == may say either -/
namespace WG
open PySem PySem.SeqAt
open AutoSeq1 (wpAny_loadPart')
open MeetsSeq MeetsSeq2 MeetsSeq3 SeqRoads2
open GQ (FinOf call_here)
section
variable {prog : Program} {w : World} {A : Around} {R : Result → Shared → Prop}
/-- the list at l has N items at every state of I, the i-th equal to x or not as e tells -/
def HasI (prog : Program) (w : World) (A : Around) (E : Value → Shared → Prop) (l : Addr) (x : Value) (N : Nat) (e : Nat → Bool) (I : Shared → Prop) : Prop :=
  ∀ s, I s → ∃ (items : Array Value) (n : Nat), s.heap.get? l = some { cls := .type "list", data := .seq items n } ∧ items.size = N ∧
    ∀ i (h1 : i < items.size), wpAny (model prog w) A.in1 (eqBool items[i] x) (fun r s' => r = e i ∧ I s') E s
theorem contains_loopG (l : Addr) (x : Value) (N : Nat) (e : Nat → Bool) (I : Shared → Prop) (hl : HasI prog w A (fun e s' => R (.error e) s') l x N e I)
    (fin : ∀ s, I s → R (.ok (.ret (.bool ((List.range N).any e)))) s) (k : Nat) :
    ∀ i : Nat, N - i = k → i ≤ N → (∀ j, j < i → e j = false) → ∀ s, I s →
      wpAny (model prog w) A.in1 (Builtin.«list.__contains__.loop» ⟨[.ref l, x, rawInt i], []⟩) (FinOf prog w A R) (fun e s' => R (.error e) s') s := by
  induction k with
  | zero =>
    intro i hk hi hno s h
    obtain ⟨items, n, hl1, hs1, _⟩ := hl _ h
    have hi' : i = N := by omega
    have hR := fin s h
    have hb : (List.range N).any e = false := by
      rw [List.any_eq_false]
      intro j hj
      rw [hno j (by have := List.mem_range.mp hj; omega)]
      exact Bool.false_ne_true
    rw [hb] at hR
    obtain ⟨hp, g, d, tk, os⟩ := s
    wp_walk using wpAny_loadPart' hl1
    have hi1 : items[((i : Nat) : Int).toNat]? = none := by simp; omega
    rw [hi1]
    wp_walk
    exact hR
  | succ k ih =>
    intro i hk hi hno s h
    obtain ⟨items, n, hl1, hs1, turn⟩ := hl _ h
    have hlt : i < items.size := by omega
    have ht := turn i hlt
    obtain ⟨hp, g, d, tk, os⟩ := s
    wp_walk using wpAny_loadPart' hl1
    have hi1 : items[((i : Nat) : Int).toNat]? = some items[i] := by simp [hlt]
    have hc : ((i : Int) + 1) = ((i + 1 : Nat) : Int) := by omega
    rw [hi1]
    refine wpAny_bind (wpAny_mono ht (fun r s2 h2 => ?_) fun _ _ x => x)
    obtain ⟨hr, h2⟩ := h2
    cases hb : e i with
    | true =>
      have hR := fin s2 h2
      have ha : (List.range N).any e = true := List.any_eq_true.mpr ⟨i, List.mem_range.mpr (by omega), hb⟩
      rw [ha] at hR
      rw [hb] at hr
      subst hr
      obtain ⟨hp2, g2, d2, tk2, os2⟩ := s2
      wp_walk
      exact hR
    | false =>
      rw [hb] at hr
      subst hr
      have hrec := ih (i + 1) (by omega) (by omega) (fun j hj => by
        by_cases q : j = i
        · rw [q]; exact hb
        · exact hno j (by omega)) s2 h2
      obtain ⟨hp2, g2, d2, tk2, os2⟩ := s2
      wp_walk
      rw [hc]
      exact ⟨plainId_quiet plain_contains_loop _, codeAny_builtin entry_contains_loop (by
        rw [Around.under_plainId plain_contains_loop _]
        exact hrec)⟩
theorem list_containsG (l : Addr) (x : Value) (N : Nat) (e : Nat → Bool) (I : Shared → Prop) (hl : HasI prog w A (fun e s' => R (.error e) s') l x N e I)
    (fin : ∀ s, I s → R (.ok (.ret (.bool ((List.range N).any e)))) s) {s : Shared} (h : I s) :
    wpAny (model prog w) A.in1 (Builtin.«list.__contains__» ⟨[.ref l, x], []⟩) (FinOf prog w A R) (fun e s' => R (.error e) s') s := by
  obtain ⟨items, n, hl1, hs1, _⟩ := hl _ h
  have hrec := contains_loopG (A := A) (R := R) l x N e I hl fin _ 0 rfl (Nat.zero_le _) (fun j hj => absurd hj (Nat.not_lt_zero j)) s h
  obtain ⟨hp, g, d, tk, os⟩ := s
  wp_walk using wpAny_loadPart' hl1
  exact ⟨plainId_quiet plain_contains_loop _, codeAny_builtin entry_contains_loop (by
    rw [Around.under_plainId plain_contains_loop _]
    exact hrec)⟩
theorem index_loopG (l : Addr) (x : Value) (N : Nat) (e : Nat → Bool) (I : Shared → Prop) (hl : HasI prog w A (fun e s' => R (.error e) s') l x N e I) (upto : Int) (j : Nat) (hj : j < N) (hupto : (j : Int) < upto) (hit : e j = true) (hno : ∀ m, m < j → e m = false)
    (fin : ∀ s, I s → R (.ok (.ret (.int j s.toks))) { s with toks := s.toks + 1 }) (k : Nat) :
    ∀ i : Nat, j - i = k → i ≤ j → ∀ s, I s →
      wpAny (model prog w) A.in1 (Builtin.«list.index.loop» ⟨[.ref l, x, rawInt i, rawInt upto], []⟩) (FinOf prog w A R) (fun e s' => R (.error e) s') s := by
  induction k with
  | zero =>
    intro i hk hij s h
    have hij' : i = j := by omega
    subst hij'
    obtain ⟨items, n, hl1, hs1, turn⟩ := hl _ h
    have hlt : i < items.size := by omega
    have ht := turn i hlt
    obtain ⟨hp, g, d, tk, os⟩ := s
    wp_walk using wpAny_loadPart' hl1
    have hi : (if (i : Int) < upto then items[((i : Nat) : Int).toNat]? else none) = some items[i] := by simp [hupto, hlt]
    rw [hi]
    refine wpAny_bind (wpAny_mono ht (fun r s2 h2 => ?_) fun _ _ x => x)
    obtain ⟨hr, h2⟩ := h2
    have hR := fin s2 h2
    rw [hit] at hr
    subst hr
    obtain ⟨hp2, g2, d2, tk2, os2⟩ := s2
    wp_walk
    exact hR
  | succ k ih =>
    intro i hk hij s h
    obtain ⟨items, n, hl1, hs1, turn⟩ := hl _ h
    have hlt : i < items.size := by omega
    have hst : (i : Int) < upto := by omega
    have ht := turn i hlt
    obtain ⟨hp, g, d, tk, os⟩ := s
    wp_walk using wpAny_loadPart' hl1
    have hi : (if (i : Int) < upto then items[((i : Nat) : Int).toNat]? else none) = some items[i] := by simp [hst, hlt]
    have hc : ((i : Int) + 1) = ((i + 1 : Nat) : Int) := by omega
    rw [hi]
    refine wpAny_bind (wpAny_mono ht (fun r s2 h2 => ?_) fun _ _ x => x)
    obtain ⟨hr, h2⟩ := h2
    rw [hno i (by omega)] at hr
    subst hr
    have hrec := ih (i + 1) (by omega) (by omega) s2 h2
    obtain ⟨hp2, g2, d2, tk2, os2⟩ := s2
    wp_walk
    rw [hc]
    exact ⟨plainId_quiet plain_index_loop _, codeAny_builtin entry_index_loop (by
      rw [Around.under_plainId plain_index_loop _]
      exact hrec)⟩
theorem list_indexG (l : Addr) (x : Value) (N : Nat) (e : Nat → Bool) (I : Shared → Prop) (hl : HasI prog w A (fun e s' => R (.error e) s') l x N e I) (j : Nat) (hj : j < N) (hsmall : (j : Int) < 2 ^ 63 - 1) (hit : e j = true) (hno : ∀ m, m < j → e m = false)
    (fin : ∀ s, I s → R (.ok (.ret (.int j s.toks))) { s with toks := s.toks + 1 }) {s : Shared} (h : I s) :
    wpAny (model prog w) A.in1 (Builtin.«list.index» ⟨[.ref l, x], []⟩) (FinOf prog w A R) (fun e s' => R (.error e) s') s := by
  obtain ⟨items, n, hl1, hs1, _⟩ := hl _ h
  have hrec := index_loopG (A := A) (R := R) l x N e I hl (2 ^ 63 - 1) j hj hsmall hit hno fin _ 0 rfl (Nat.zero_le _) s h
  obtain ⟨hp, g, d, tk, os⟩ := s
  wp_walk using wpAny_loadPart' hl1
  have a1 : ((fun i : Int => if i < 0 then max 0 (i + (items.size : Int)) else i) ((none : Option Int).getD 0)) = ((0 : Nat) : Int) := by simp
  have a2 : ((fun i : Int => if i < 0 then max 0 (i + (items.size : Int)) else i) ((none : Option Int).getD (2 ^ 63 - 1))) = 2 ^ 63 - 1 := by simp
  rw [a1, a2]
  exact ⟨plainId_quiet plain_index_loop _, codeAny_builtin entry_index_loop (by
    rw [Around.under_plainId plain_index_loop _]
    exact hrec)⟩
end
end WG

namespace WR
open PySem PySem.Spec PyProof.Rows L2
section
variable {X : Cx} {CX : CXT} {k : Nat} {f C : Addr}
/-- how two values compare: by the abstract heap -/
abbrev EqD := V → V → Hp → Bool → Prop
def EqB (X : Cx) (n : Nat) (D : EqD) : Prop :=
  ∀ (A : Around) (pins : List (Addr × Obj)) (s : Shared) (σ : L2.St) (H : Hp) (x y : V) (u v : Value) (b : Bool), Sub X n A → Inv X pins σ H s → RelV x u → RelV y v → D x y H b →
    wpAny (model X.prog X.w) A (eqBool u v) (fun r s' => r = b ∧ ∃ H', Inv X pins σ H' s' ∧ Ext H H') X.xe s
/-- what an own == promises -/
def spEqB (R : Addr → Addr → Hp → Bool → Prop) : Sp := fun vs H Q _ => ∃ a c b, vs = [.ref a, .ref c] ∧ R a c H b ∧ ∀ H', Ext H H' → Q (.bl b) H'
def DInB (C : Addr) (R : Addr → Addr → Hp → Bool → Prop) : EqD := fun x y H b => ∃ a c dx dy fs gs, x = .ref a ∧ y = .ref c ∧ H a = some (.ins C dx fs) ∧ H c = some (.ins C dy gs) ∧ R a c H b
/-- richCompare by the own == -/
theorem rc_own {R : Addr → Addr → Hp → Bool → Prop} {A : Around} {pins : List (Addr × Obj)} {s : Shared} {σ : L2.St} {H : Hp} {a c : Addr} {b : Bool} {dx dy : Addr} {fs gs : List (Str × V)} (O : Own X.K C "__eq__" f) (F : FnR X.prog X.w X.K X.mg X.base CX k f (spEqB R))
    (hx : ∀ σ, PassesAt CX X σ E0) (sb : Sub X k A) (I : Inv X pins σ H s) (ha : H a = some (.ins C dx fs)) (hc : H c = some (.ins C dy gs)) (hr : R a c H b) :
    wpAny (model X.prog X.w) A (richCompare .Eq (.ref a) (.ref c)) (fun r s' => r = .bool b ∧ ∃ H', Inv X pins σ H' s' ∧ Ext H H') X.xe s := by
  obtain ⟨od, J⟩ := ins_at I ha
  obtain ⟨od', J'⟩ := ins_at I hc
  obtain ⟨m, hF⟩ := I.fr
  refine PySem.W.cmp_K (op := .Eq) (tb := .ref C) sb.room.units0 hF I.ok.mod.kin J J'.type (by simp [PySem.W.notFirst]) O.at_ O.fn ?_
  refine wpAny_mono (run_at (A := A) (vs := [V.ref a, V.ref c]) (us := [Value.ref a, Value.ref c]) (Q := fun v H' => v = .bl b ∧ Ext H H') F sb.room sb.fr (hx σ) I (.cons rfl (.cons rfl .nil)) ⟨a, c, b, rfl, hr, fun H' e => ⟨rfl, e⟩⟩) (fun v s' hv => ?_) fun _ _ z => z
  obtain ⟨z, H', I', rz, ez, ex⟩ := hv
  subst ez
  cases rz
  exact ⟨rfl, H', I', ex⟩
theorem eqB_own {R : Addr → Addr → Hp → Bool → Prop} (O : Own X.K C "__eq__" f) (F : FnR X.prog X.w X.K X.mg X.base CX k f (spEqB R)) (hx : ∀ σ, PassesAt CX X σ E0) (hrefl : ∀ (pins : List (Addr × Obj)) (s : Shared) (σ : L2.St) (H : Hp) (a : Addr) (b : Bool), Inv X pins σ H s → R a a H b → b = true) : EqB X k (DInB C R) := by
  intro A pins s σ H x y u v b sb I rx ry d
  obtain ⟨a, c, dx, dy, fs, gs, rfl, rfl, ha, hc, hr⟩ := d
  cases rx
  cases ry
  by_cases hac : a = c
  · subst hac
    have hb := hrefl pins s σ H a b I hr
    subst hb
    exact SeqAt.EqAt.same (A := A) (s := s) (.ref a) X.prog X.w X.xe _ ⟨rfl, H, I, Ext.rfl'⟩
  · refine GQ.eqBool_refG hac (wpAny_mono (rc_own O F hx sb I ha hc hr) (fun r s' q => ?_) fun _ _ x => x)
    obtain ⟨hr', q⟩ := q
    exact ⟨b, hr', rfl, q⟩
/-- a == b of two instances, by the own == -/
def rEqO (C : Addr) (R : Addr → Addr → Hp → Bool → Prop) : R2 := fun x y H Q => ∃ b, DInB C R x y H b ∧ ∀ H', Ext H H' → Q (.bl b) H'
theorem op_eqO {R : Addr → Addr → Hp → Bool → Prop} (O : Own X.K C "__eq__" f) (F : FnR X.prog X.w X.K X.mg X.base CX k f (spEqB R)) (hx : ∀ σ, PassesAt CX X σ E0) (hr : Room k X.A) : OpR X (compareOp .Eq) (rEqO C R) := by
  intro pins s σ H x y v u Q I rx ry hq
  obtain ⟨b, ⟨a, c, dx, dy, fs, gs, rfl, rfl, ha, hc, hR⟩, q⟩ := hq
  cases rx
  cases ry
  show wpAny (model X.prog X.w) X.A (richCompare .Eq _ _) (EP X pins σ Q) X.xe s
  refine wpAny_mono (rc_own O F hx ⟨hr, rfl⟩ I ha hc hR) (fun r s' z => ?_) fun _ _ x => x
  obtain ⟨hr', H', I', e⟩ := z
  subst hr'
  exact ⟨.bl b, H', I', rfl, q H' e⟩
/-- the list at p: xs; x compared with each -/
def DAll (D : EqD) (xs : List V) (x : V) (e : Nat → Bool) (H : Hp) : Prop := ∀ i y, xs[i]? = some y → D y x H (e i)
def MonB (D : EqD) : Prop := ∀ x y b H H', Ext H H' → D x y H b → D x y H' b
theorem hasI_of {n : Nat} {D : EqD} (hD : MonB D) (hE : EqB X n D) {A : Around} (sb : Sub X (n + 1) A) {pins : List (Addr × Obj)} {σ : L2.St} {H : Hp} {p : Addr} {xs : List V} {x : V} {v : Value} {e : Nat → Bool} (hp : H p = some (.lst xs)) (rx : RelV x v) (d : DAll D xs x e H) :
    WG.HasI X.prog X.w A X.xe p v xs.length e (fun s' => ∃ H', Inv X pins σ H' s' ∧ Ext H H') := by
  intro s ⟨H1, I1, e1⟩
  obtain ⟨z, its, n', r, ho⟩ := I1.hok p _ (e1 _ _ hp)
  refine ⟨its.toArray, n', ho, by rw [List.size_toArray, ← r.length], fun i h1 => ?_⟩
  have k1 : i < xs.length := by rw [r.length]; simpa using h1
  obtain ⟨u, hu, ru⟩ := r.get (List.getElem?_eq_getElem k1)
  have g1 : its[i]? = some its.toArray[i] := by
    have h1' : i < its.length := by simpa using h1
    rw [List.getElem?_eq_getElem h1'] <;> simp
  rw [g1] at hu
  rw [Option.some.inj hu]
  refine wpAny_mono (hE A.in1 pins s σ H1 _ _ u v (e i) sb.in1 I1 ru rx (hD _ _ _ _ _ e1 (d i _ (List.getElem?_eq_getElem k1)))) (fun r s2 q => ?_) fun _ _ x => x
  obtain ⟨hr, H2, I2, e2⟩ := q
  exact ⟨hr, H2, I2, e1.trans e2⟩
/-- x in xs, x not in xs -/
def rInG (D : EqD) (neg : Bool) : R2 := fun x y H Q => ∃ p xs e, y = .ref p ∧ H p = some (.lst xs) ∧ DAll D xs x e H ∧ ∀ H', Ext H H' → Q (.bl (if neg then !(List.range xs.length).any e else (List.range xs.length).any e)) H'
theorem containsG {n : Nat} {D : EqD} (hD : MonB D) (hE : EqB X n D) (hr : Room (n + 2) X.A) {pins : List (Addr × Obj)} {s : Shared} {σ : L2.St} {H : Hp} {x : V} {v : Value} {p : Addr} {xs : List V} {e : Nat → Bool} (I : Inv X pins σ H s) (rx : RelV x v)
    (hp : H p = some (.lst xs)) (d : DAll D xs x e H) {Q : Bool → Shared → Prop} (q : ∀ s' H', Inv X pins σ H' s' → Ext H H' → Q ((List.range xs.length).any e) s') : wpAny (model X.prog X.w) X.A (contains (.ref p) v) Q X.xe s := by
  obtain ⟨_, its, n', _, ho⟩ := I.hok p _ hp
  refine wpAny_contains_slot ⟨_, ho, rfl⟩ F.slot_list_contains ?_
  refine GQ.call_here F.slot_list_contains ⟨_, ho, rfl⟩ F.entry_list_contains (F.args_list_contains_2 _ _) ?_
  refine WG.list_containsG p v xs.length e (fun s' => ∃ H', Inv X pins σ H' s' ∧ Ext H H') (hasI_of hD hE ⟨hr.mono (by omega), rfl⟩ hp rx d) (fun s' hs => ?_) ⟨H, I, Ext.rfl'⟩
  obtain ⟨H', I', e'⟩ := hs
  exact wpAny_truthy_bool (q s' H' I' e')
theorem op_inG {n : Nat} {D : EqD} (hD : MonB D) (hE : EqB X n D) (hr : Room (n + 2) X.A) : OpR X (compareOp .In) (rInG D false) := by
  intro pins s σ H x y v u Q I rx ry h
  obtain ⟨p, xs, e, rfl, hp, d, q⟩ := h
  cases ry
  show wpAny (model X.prog X.w) X.A (contains (.ref p) v >>= fun b => pure (Value.bool b)) _ _ s
  exact wpAny_bind (containsG hD hE hr I rx hp d fun s' H' I' e' => wpAny_pure ⟨.bl _, H', I', rfl, q H' e'⟩)
theorem op_notInG {n : Nat} {D : EqD} (hD : MonB D) (hE : EqB X n D) (hr : Room (n + 2) X.A) : OpR X (compareOp .NotIn) (rInG D true) := by
  intro pins s σ H x y v u Q I rx ry h
  obtain ⟨p, xs, e, rfl, hp, d, q⟩ := h
  cases ry
  show wpAny (model X.prog X.w) X.A (contains (.ref p) v >>= fun b => pure (Value.bool (!b))) _ _ s
  exact wpAny_bind (containsG hD hE hr I rx hp d fun s' H' I' e' => wpAny_pure ⟨.bl _, H', I', rfl, q H' e'⟩)
/-- xs.index(x): the first place -/
def rIndexG (D : EqD) : V → List V → Hp → VK → Prop := fun o vs H Q => ∃ p xs x e j, o = .ref p ∧ vs = [x] ∧ H p = some (.lst xs) ∧ DAll D xs x e H ∧ j < xs.length ∧ e j = true ∧ (∀ m, m < j → e m = false) ∧ ∀ H', Ext H H' → Q (.int (j : Nat)) H'
theorem mt_indexG {n : Nat} {D : EqD} (hD : MonB D) (hE : EqB X n D) (hr : Room (n + 2) X.A) : MtR X "list.index" (rIndexG D) := by
  intro pins s σ H o vs v us Q I ro rvs h
  obtain ⟨p, xs, x, e, j, rfl, rfl, hp, d, hj, hit, hno, q⟩ := h
  cases ro
  obtain ⟨u, rfl, rx⟩ := vals1 rvs
  obtain ⟨hz, its, n', _, ho⟩ := I.hok p _ hp
  have hs := sizeLine_eq
  show wpAny _ _ (call (.builtin "list.index") [.ref p, u]) _ _ s
  refine GQ.call_here F.slot_list_index ⟨_, ho, rfl⟩ F.entry_list_index (F.args_list_index_2 _ _) ?_
  refine WG.list_indexG p u xs.length e (fun s' => ∃ H', Inv X pins σ H' s' ∧ Ext H H') (hasI_of hD hE ⟨hr.mono (by omega), rfl⟩ hp rx d) j hj (by omega) hit hno (fun s' hs' => ?_) ⟨H, I, Ext.rfl'⟩
  obtain ⟨H', I', e'⟩ := hs'
  exact ⟨.int (j : Nat), H', I'.tok _, ⟨_, rfl⟩, q H' e'⟩
end
end WR
set_option Elab.async false
set_option linter.all false
set_option maxRecDepth 100000
set_option maxHeartbeats 4000000
namespace WT
open PySem PySem.Spec PyProof.Rows
section
variable {prog : Program} {w : World} {A : Around} {E : Value → Shared → Prop} {s : Shared}
/-! ### sum of a tuple of ints -/
theorem sum_tup {t : Addr} {its : List Value} {ns : List Int} {Q : Value → Shared → Prop} (hh : A.handled = none) (hl : s.heap.IsTuple t its.toArray) (hi : IntsAre its ns)
    (h : ∀ h' tk t', (∀ b o, s.heap.get? b = some o → h'.get? b = some o) → Q (.int ns.sum t') { s with heap := h', toks := tk }) : wpAny (model prog w) A (call (.builtin "sum") [.ref t]) Q E s := by
  obtain ⟨xs, e⟩ := hi.allInts.items
  have hn : numsOf (intItems xs).toList = ns := by rw [← e]; exact hi.numsOf
  rw [nums_intItems] at hn
  rw [e] at hl
  have hlt : t < s.heap.objs.size := by obtain ⟨_, e, _⟩ := hl; exact Heap.lt_size e
  refine call_sum_walkG (wpAny_pyIter_tuple hl ?_)
  refine ⟨_, _, _, _, _, _, numAt xs, rfl, Walks.tuple (A := A.in1) hh s.heap.objs.size t (Nat.ne_of_lt hlt) (intItems xs), ⟨⟨_, Heap.get?_push_size _ rfl, rfl, rfl⟩, hl.push _⟩, fun b hb => ?_, (fun _ _ => intItems_at), fun h' tk t' hk => ?_⟩
  · show b < (s.heap.push _).objs.size
    rw [Heap.size_push]
    rcases List.mem_cons.mp hb with rfl | hb
    · exact Nat.lt_succ_self _
    · rcases List.mem_cons.mp hb with rfl | hb
      · exact Nat.lt_succ_of_lt hlt
      · cases hb
  · have := h h' tk t' fun b o e => by
      refine hk b o (fun hm => ?_) (Heap.get?_push_of_some _ e)
      rcases List.mem_cons.mp hm with e1 | hm
      · exact absurd (e1 ▸ Heap.lt_size e) (Nat.lt_irrefl _)
      · cases hm
    have e1 : preSum (numAt xs) (intItems xs).size = ns.sum := by
      rw [preSum_eq, List.take_of_length_le (by simp [intItems]), hn]
    show Q (.int (preSum (numAt xs) (intItems xs).size) t') _
    rw [e1]; exact this
/-! ### t += u of tuples -/
theorem no_iadd_tuple : typeLookup (.type "tuple") (dunderI "add") = pure none := by rw [typeLookup_type, builtinLookup_eq_fast]; kernel_rfl
theorem iadd_tup {a b : Value} {Q : Value → Shared → Prop} (ha : s.TypeIs a "tuple") (hb : s.TypeIs b "tuple") (hc : wpAny (model prog w) A (call (.builtin "tuple.__add__") [a, b]) Q E s) : wpAny (model prog w) A (inplaceOp .Add a b) Q E s :=
  wpAny_inplaceOp_concat ha hb no_iadd_tuple noFill_tuple_add seq_tuple_add hc
theorem icat {t b : Addr} {vs ws : List Value} {Q : Value → Shared → Prop} (ht : IsTup s.heap t vs.toArray) (hb : IsTup s.heap b ws.toArray)
    (h0 : vs = [] → Q (.ref b) s) (h1 : vs ≠ [] → ws = [] → Q (.ref t) s) (h2 : vs ≠ [] → ws ≠ [] → Q (.ref s.heap.objs.size) { s with heap := s.heap.push { cls := .type "tuple", data := .seq (vs ++ ws).toArray } })
    (hsz : vs.length + ws.length ≤ sizeLine) : wpAny (model prog w) A (inplaceOp .Add (.ref t) (.ref b)) Q E s := by
  obtain ⟨⟨cls, dd, data, sl⟩, ho, hc, n, hd⟩ := id ht
  obtain ⟨⟨cls2, dd2, data2, sl2⟩, ho2, hc2, n2, hd2⟩ := id hb
  simp only at hc hd hc2 hd2
  subst hc hd hc2 hd2
  have e : vs.toArray ++ ws.toArray = (vs ++ ws).toArray := by simp
  refine iadd_tup ⟨_, ho, rfl⟩ ⟨_, ho2, rfl⟩ ?_
  by_cases hv : vs = []
  · subst hv
    exact call_meets PySem.F.slot_tuple_add ⟨_, ho, rfl⟩ PySem.F.entry_tuple_add (PySem.F.args_tuple_add_2 _ _) (tuple_addW0 t b ([] : List Value).toArray ws.toArray n n2 dd dd2 sl sl2 (by simp)) ⟨ho, ho2, h0 rfl⟩
  · by_cases hw : ws = []
    · exact call_meets PySem.F.slot_tuple_add ⟨_, ho, rfl⟩ PySem.F.entry_tuple_add (PySem.F.args_tuple_add_2 _ _)
        (tuple_addW1 t b vs.toArray ws.toArray n n2 dd dd2 sl sl2 (by simpa using hv) (by simp [hw])) ⟨ho, ho2, h1 hv hw⟩
    · refine call_meets PySem.F.slot_tuple_add ⟨_, ho, rfl⟩ PySem.F.entry_tuple_add (PySem.F.args_tuple_add_2 _ _)
        (tuple_addW2 t b vs.toArray ws.toArray n n2 dd dd2 sl sl2 (by simpa using hv) (by simpa using hw) (by rw [List.size_toArray, List.size_toArray]; exact hsz)) ⟨ho, ho2, ?_⟩
      rw [e]
      exact h2 hv hw
/-! ### enumerate(tuple) -/
theorem meets_enumerate_newT (l : Addr) (items : Array Value) (n : Nat) (dct : Option Addr) (sl : Array (Option Value)) :
    Meets (Builtin.«enumerate.__new__» ⟨[.type "enumerate", .ref l], []⟩) (fun _ R s => s.heap.get? l = some { cls := .type "tuple", dict := dct, data := .seq items n, slots := sl } ∧
      R (.ok (.ret (.ref (s.heap.push { cls := .type "tuple_iterator", data := .fields #[.ref l, .int 0 0] }).objs.size)))
        { s with heap := (s.heap.push { cls := .type "tuple_iterator", data := .fields #[.ref l, .int 0 0] }).push { cls := .type "enumerate", data := .fields #[.none, .bool false, .ref s.heap.objs.size, rawInt 0, .none, .none] } }) :=
  .of_wp fun prog w A R s h => by
    obtain ⟨hp, g, d, tk, os⟩ := s; obtain ⟨hl, h⟩ := h
    have hsub := sub_enumerate
    have hL : Heap.IsTuple (Shared.heap ⟨hp, g, d, tk, os⟩) l items := ⟨_, hl, rfl, n, rfl⟩
    wp_walk using AutoSeq1.wpAny_loadPart' hl
    refine wpAny_stack_any fun st => wpAny_pure ?_
    split
    · rename_i c _ _ _ _ _
      cases (c == Value.type "enumerate")
      · wp_walk using AutoSeq1.wpAny_loadPart' hl, wpAny_pyIter_tuple hL
        exact ⟨_, rfl, h⟩
      · wp_walk using AutoSeq1.wpAny_loadPart' hl, wpAny_pyIter_tuple hL
        exact ⟨_, rfl, h⟩
    · wp_walk using AutoSeq1.wpAny_loadPart' hl, wpAny_pyIter_tuple hL
      exact ⟨_, rfl, h⟩
theorem call_enumerate_tuple {l : Addr} {items : Array Value} {Q : Value → Shared → Prop} (hL : s.heap.IsTuple l items)
    (h : ∀ h', IsEnum h' (s.heap.objs.size + 1) s.heap.objs.size 0 .none → h'.IsTupleIter s.heap.objs.size l 0 → h'.objs.size = s.heap.objs.size + 2 →
      (∀ b o, s.heap.get? b = some o → h'.get? b = some o) → Q (.ref (s.heap.objs.size + 1)) { s with heap := h' }) :
    wpAny (model prog w) A (call (.type "enumerate") [.ref l]) Q E s := by
  obtain ⟨⟨c, dct, dt, sl⟩, hl, hc, n, hd⟩ := hL
  replace hc : c = .type "tuple" := hc
  replace hd : dt = .seq items n := hd
  subst hc hd
  refine callType_new F.called_enumerate (by decide) (F.typeCall_enumerate_1 _) (F.newCall_enumerate_1 _) (fun obj => F.args_object_init_2 obj _) F.entry_enumerate_new
    (meets_enumerate_newT l items n dct sl) ⟨hl, ?_⟩
  have hz : (s.heap.push { cls := .type "tuple_iterator", data := .fields #[.ref l, .int 0 0] }).objs.size = s.heap.objs.size + 1 := Heap.size_push ..
  show _ ∧ _
  rw [hz]
  have he : IsEnum ((s.heap.push { cls := .type "tuple_iterator", data := .fields #[.ref l, .int 0 0] }).push
      { cls := .type "enumerate", data := .fields #[.none, .bool false, .ref s.heap.objs.size, rawInt 0, .none, .none] }) (s.heap.objs.size + 1) s.heap.objs.size 0 .none := by
    have := Heap.get?_push_size (s.heap.push { cls := .type "tuple_iterator", data := .fields #[.ref l, .int 0 0] })
      (o := { cls := .type "enumerate", data := .fields #[.none, .bool false, .ref s.heap.objs.size, rawInt 0, .none, .none] }) rfl
    rw [hz] at this; exact this
  refine ⟨⟨_, he, rfl⟩, h _ he ⟨_, Heap.get?_push_of_some _ (Heap.get?_push_size _ rfl), rfl, rfl⟩ (by rw [Heap.size_push, hz]) fun b o x => Heap.get?_push_of_some _ (Heap.get?_push_of_some _ x)⟩
theorem pyNext_enumT_end {e it t : Addr} {i : Nat} {items : Array Value} {old : Value} {Q : Option Value → Shared → Prop} (hh : A.handled = none)
    (he : IsEnum s.heap e it i old) (hit : s.heap.IsTupleIter it t i) (hl : s.heap.IsTuple t items) (hx : items[i]? = none)
    (hQ : ∀ h', Heap.ExtBut it s.heap h' → Q none { s with heap := h' }) : wpAny (model prog w) A (pyNext (.ref e)) Q E s := by
  have hT : s.TypeIs (.ref e) "enumerate" := ⟨_, he, rfl⟩
  unfold pyNext
  refine wpAny_bind (wpAny_attempt (wpAny_callSpecial?_slot (name := Str.ofString "__next__") hT F.slot_enumerate_next
    (wpAny_call_entry F.slot_enumerate_next hT F.entry_enumerate_next ?_ (F.args_enumerate_next_1 _))))
  show wpAny _ _ (field (.ref e) 2 >>= _) _ _ _
  refine wpAny_bind (wpAny_field he rfl (x := .ref it) rfl ?_)
  refine wpAny_bind (wpAny_nextOf_tuple_end hh hit hl hx fun h' x he' hx' => ?_)
  obtain ⟨o, ho, hc⟩ := hx'
  refine wpAny_bind (wpAny_isInstance (T := "StopIteration") (b := true) ⟨o, ho, hc⟩ isSubtype_stop ?_)
  exact wpAny_pure (hQ _ he')
/-! ### T(x) by its __new__ as it runs here -/
theorem callType_newG {T newId : String} {Bn : Builtin} {args : List Value} {Q : Value → Shared → Prop} (ft : TypeCalled T newId "object.__init__")
    (hne : (some newId != some "object.__new__") = true) (hct : checkTypeCall T ⟨args, []⟩ = pure ()) (hcn : checkBuiltinCall newId ⟨.type T :: args, []⟩ = pure ())
    (hok : ∀ obj, argsOk "object.__init__" ⟨obj :: args, []⟩) (entryN : entryFor table newId = some Bn)
    (h : wpAny (model prog w) A.in1.in1 (Bn ⟨.type T :: args, []⟩) (GQ.FinOf prog w A.in1 (wants (fun obj s₁ => s₁.TypeIs obj T ∧ Q obj s₁) E)) (fun e s' => wants (fun obj s₁ => s₁.TypeIs obj T ∧ Q obj s₁) E (.error e) s') s) :
    wpAny (model prog w) A (call (.type T) args) Q E s := by
  obtain ⟨c, tl, hmro⟩ := ft.mro
  have hmade := ft.made
  have hsub := ft.sub
  refine wpAny_call (codeAny_of_tree ?_)
  show wpAny _ _ (callAny (.type T) _) _ _ _
  refine wpAny_pure ⟨Code.quiet_builtin _ (by decide +kernel), codeAny_builtin F.entry_type_call ?_⟩
  rw [Around.under_plain (weight_type_call_type T args []) (units_type_call_type T args [])]
  have h1 := ft.notType
  have h2 := ft.canCreate
  repeat (any_goals (first | assumption | wp_step))
  refine codeAny_mono (codeAny_call_builtin ft.plain entryN (wpAny_of_eq hcn h)) fun r s₁ hr => ?_
  cases r with
  | error e => exact hr
  | ok fl =>
    cases fl with
    | ret obj =>
      obtain ⟨hT, hq⟩ := hr
      have hli := ft.init.lookup
      have hbi := ft.init.bind obj
      repeat (any_goals (first | assumption | wp_step))
      refine codeAny_mono (codeAny_call_builtin ft.init.plain F.entry_object_init (ft.init.check _ _ _ _ _ _ _ _ hT (hok obj) ((object_init_meets ft.init.lookup ft.made hne) prog w A.in1 (wants (fun r s₂ => r = .none ∧ Q obj s₂) E) s₁ ⟨hT, rfl, hq⟩))) fun r₂ s₂ hr₂ => ?_
      cases r₂ with
      | error e => exact hr₂
      | ok fl₂ =>
        cases fl₂ with
        | ret r =>
          obtain ⟨rfl, hq⟩ := hr₂
          repeat (any_goals (first | assumption | wp_step))
        | _ => exact hr₂.elim
    | _ => exact hr.elim
theorem call_boolG {x : Value} {Q : Value → Shared → Prop} (h : wpAny (model prog w) A.in1.in1 (truthy x) (fun b s' => Q (.bool b) s') E s) : wpAny (model prog w) A (call (.type "bool") [x]) Q E s := by
  refine callType_newG F.called_bool F.newNe_bool (F.typeCall_bool_1 x) (F.newCall_bool_1 x) (fun obj => F.args_object_init_2 obj x) F.entry_bool_new ?_
  obtain ⟨hp, g, d, tk, os⟩ := s
  have f1 := F.conv_sub_bool
  unfold Builtin.«bool.__new__»
  repeat (any_goals (first | assumption | (with_reducible refine wpAny_mono h (fun b s' hb => ?_) fun _ _ z => z) | wp_step))
  all_goals exact (show Shared.TypeIs _ (Value.bool _) "bool" ∧ _ from ⟨rfl, by assumption⟩)
end
end WT

namespace WR
open PySem PySem.Spec PyProof.Rows L2
section
variable {X : Cx} {CX : CXT} {k : Nat} {f C : Addr} {sp : Sp}
/-- sum(t) of a tuple of ints -/
def rSumT (K : PySem.W.Frag) : List V → Hp → VK → Prop := fun vs H Q => ∃ (a : Addr) (ns : List Int), vs = [V.ref a] ∧ SqT K H a (ns.map V.int) ∧ Q (.int ns.sum) H
theorem cr_sumT (hc : X.calm = true) : CallR X (.builtin "sum") (rSumT X.K) := by
  intro pins s σ H vs us Q I r h
  obtain ⟨a, ns, rfl, hs, q⟩ := h
  obtain ⟨its, rv, hl, _⟩ := I.tuple hs
  rw [Vals.ref1 r]
  exact WT.sum_tup (I.ok.hd hc) hl rv.ints fun h' tk t' hk => ⟨.int _, H, I.kept hk, ⟨_, rfl⟩, q⟩
/-- t += u -/
theorem iop_catT : OpR X (inplaceOp .Add) (rCatA X.K) := by
  intro pins s σ H x y v u Q I rx ry h
  obtain ⟨a, b, xs, ys, rfl, rfl, ha, hb, hz, q0, q1, q2⟩ := h
  cases rx
  cases ry
  obtain ⟨its, r1, p1, _⟩ := I.tuple ha
  obtain ⟨its2, r2, p2, _⟩ := I.tuple hb
  have l1 := r1.length
  have l2 := r2.length
  refine WT.icat p1 p2 (fun e => ⟨.ref b, H, I, rfl, q0 (by cases r1 <;> simp_all)⟩) (fun e1 e2 => ⟨.ref a, H, I, rfl, q1 (fun z => e1 (by subst z; cases r1; rfl)) (by subst e2; cases r2; rfl)⟩) (fun e1 e2 => ?_) (by omega)
  have n1 : xs ≠ [] := fun z => e1 (by subst z; cases r1; rfl)
  have n2 : ys ≠ [] := fun z => e2 (by subst z; cases r2; rfl)
  refine ⟨.ref s.heap.objs.size, _, I.laid (t' := s.toks) (a := s.heap.objs.size) (o := .tup (xs ++ ys)) (fun b o q => Heap.get?_push_of_some _ q) (Nat.le_refl _) ?_, rfl, q2 n1 n2 _ (I.hok.fresh (Nat.le_refl _))⟩
  exact ⟨by rw [List.length_append]; exact hz, its ++ its2, r1.append r2, ⟨_, Heap.get?_push_size _ rfl, rfl, _, rfl⟩⟩
/-- a comprehension or a loop over zip of two tuples -/
theorem walk_zipT {K : PySem.W.Frag} {a b : Addr} {xs ys : List V} {n : Nat} (hn : n = min xs.length ys.length) : Walk (RZ.ItzT K a b) n (fun H => SqT K H a xs ∧ SqT K H b ys) (YPair (fun i => xs[i]?) (fun i => ys[i]?)) := by
  subst hn
  refine ⟨fun i _ hi q => ?_, fun _ q => ⟨xs, ys, q.1, q.2, by omega⟩, fun i H v H' _ q y => ?_⟩
  · have h1 : i < xs.length := by omega
    have h2 : i < ys.length := by omega
    exact ⟨xs, ys, xs[i], ys[i], q.1, q.2, by simp [h1], by simp [h2]⟩
  · obtain ⟨T, x, z, h1, h2, h3, h4, h5⟩ := y
    exact ⟨T, x, z, h1, h2, h3, h4 xs q.1, h5 ys q.2⟩
/-! ### enumerate(tuple) -/
def IteT (K : PySem.W.Frag) (a : Addr) : It :=
  ⟨fun i H => ∃ (xs : List V) (x : V), SqT K H a xs ∧ xs[i]? = some x, fun i H v H' => ∃ T x, v = .ref T ∧ H T = none ∧ H' = upd H T (.tup [.int (i : Nat), x]) ∧ ∀ xs, SqT K H a xs → xs[i]? = some x, fun i H => ∃ xs : List V, SqT K H a xs ∧ xs.length ≤ i⟩
theorem turn_enumT {P : Program} {w : World} {K : PySem.W.Frag} {elts : List Expr} {kk : Nat} {tpos : Pos} (a e it : Addr) :
    Turn P w K (.Tuple elts kk tpos) (IteT K a) [e, it] e (fun i h => (∃ old, IsEnum h e it ((i : Nat) : Int) old) ∧ h.IsTupleIter it a i ∧ e ≠ it ∧ a ≠ it ∧ a ≠ e) where
  mem := by simp
  obj := fun i h st b hb => by
    obtain ⟨⟨old, he⟩, ⟨o, ho, hc, hd⟩, _⟩ := st
    have e' : b = e ∨ b = it := by simpa using hb
    rcases e' with z | z
    · rw [z]; exact ⟨_, he, fun v q => nomatch q⟩
    · rw [z]; exact ⟨o, ho, fun v q => by rw [hd] at q; cases q⟩
  keep := fun i h h' st k => let ⟨⟨old, he⟩, hi, hne⟩ := st; ⟨⟨old, k e (by simp) _ he⟩, hi.at fun o q => k it (by simp) o q, hne⟩
  item := by
    intro X hP hw hK hc i pins s σ H E I hf st hg
    subst hP hw hK
    obtain ⟨⟨old, he⟩, hit, hne, hna, hna2⟩ := st
    obtain ⟨xs, x, hq, hx⟩ := hg
    obtain ⟨its, rv, p, hz⟩ := I.tuple hq
    obtain ⟨u, hu, ru⟩ := rv.get hx
    have hel : e < s.heap.objs.size := Heap.lt_size he
    have hil : it < s.heap.objs.size := by obtain ⟨_, q, _⟩ := hit; exact Heap.lt_size q
    have hlt : i < its.toArray.size := by
      have := (List.getElem?_eq_some_iff.mp hu).1
      simpa using this
    have D := Draws.tuple (prog := X.prog) (w := X.w) (A := X.A.in1) (I.ok.hd hc) it a hna its.toArray
    refine wpAny_pyNext_enum_itemD D he ⟨hit, p⟩ hlt hne (by simp [hne, Ne.symm hna2]) fun u' h' tk hu' ho hst' hT hsz hk => ?_
    have eu : u' = u := by
      have hu2 : its.toArray[i]? = some u := by simpa using hu
      exact Option.some.inj ((show its.toArray[i]? = some u' from hu').symm.trans hu2)
    subst eu
    obtain ⟨hit', _⟩ := hst'
    refine ⟨_, rfl, wpAny_letOwnedTupleGo_enum (s := { s with heap := h', toks := tk + 1 }) ho fun h'' he' sb => ?_⟩
    have hT2 : h''.get? s.heap.objs.size = some { cls := .type "tuple", data := .seq #[.int i tk, u'] } := (sb.2 _ (Nat.ne_of_gt hel)).trans hT
    have new : ObjOk X.prog X.w (upd H s.heap.objs.size (.tup [.int (i : Nat), x])) h'' s.heap.objs.size (.tup [.int (i : Nat), x]) :=
      ⟨by show 2 ≤ sizeLine; decide, [.int i tk, u'], .cons ⟨_, rfl⟩ (.cons ru .nil), ⟨_, hT2, rfl, _, rfl⟩⟩
    have I1 : Inv X pins σ (upd H s.heap.objs.size (.tup [.int (i : Nat), x])) { s with heap := h'', toks := tk + 1 } :=
      I.turnedNew (ch := [e, it]) (fun b ob hb q => (sb.2 b (fun z => hb (by simp [z]))).trans (hk b ob (fun z => hb (by simp [z])) (fun z => hb (by simp [z])) q)) hf (Nat.le_refl _) new
    refine ⟨.ref s.heap.objs.size, _, I1, rfl, ⟨_, x, rfl, I.hok.fresh (Nat.le_refl _), rfl, fun ys hy => by rw [I.tuple_inj hy hq]; exact hx⟩, ⟨⟨u', ?_⟩, hit'.at fun o q => (sb.2 it (Ne.symm hne)).trans q, hne, hna, hna2⟩, fun b hb => ?_⟩
    · have e1 : ((i + 1 : Nat) : Int) = (i : Int) + 1 := by omega
      rw [e1]; exact he'
    · have hb' : b < s.heap.objs.size := by
        have e' : b = e ∨ b = it := by simpa using hb
        rcases e' with z | z
        · rw [z]; exact hel
        · rw [z]; exact hil
      rw [upd_ne (Nat.ne_of_lt hb')]
      exact (hf b hb).1
  done := by
    intro X hP hw hK hc i pins s σ H E I hf st hg
    subst hP hw hK
    obtain ⟨⟨old, he⟩, hit, hne, hna, hna2⟩ := st
    obtain ⟨xs, hq, hx⟩ := hg
    obtain ⟨its, rv, p, hz⟩ := I.tuple hq
    obtain ⟨f0, f1, f2, f3, f4, f5⟩ := hf it (by simp)
    have hl := rv.length
    exact WT.pyNext_enumT_end (I.ok.hd hc) he hit p (by simp; omega) fun h' eb => ⟨rfl, I.turned (t' := s.toks) (fun b o hb q => eb b o hb q) f0 f1 f3 f4 f5⟩
  self := fun A i s Q E st h => let ⟨⟨_, he⟩, _⟩ := st; wpAny_pyIter_enum he h
def iEnumT (K : PySem.W.Frag) (ta : TA) : TI := fun σ H R => ta σ H fun vs H1 => ∃ a xs, vs = [.ref a] ∧ SqT K H1 a xs ∧ R (IteT K a) H1
theorem pi_enumT {X : Cx} {e : Expr} {ta : TA} {p pos tpos : Pos} {elts : List Expr} {kk : Nat} (hg : Gl X "enumerate") (hm : X.mg "enumerate" = none) (ha : PA X [e] ta) (hs : starEach [e] X.env = [(false, eval e X.env)] := by rfl) :
    PI X (.Tuple elts kk tpos) (.Call (.Name "enumerate" p) [e] [] pos) (iEnumT X.K ta) := by
  refine ⟨fun pins s σ H R I h => ?_⟩
  refine Call_ (ld_blt I hg hm boot_enumerate (PyProof.Rows.callWith_type1 (thn (ha.run pos pins s σ H _ I h) fun us s1 ⟨vs, H1, I1, r1, q1⟩ => ?_) hs rfl))
  obtain ⟨a, xs, ex, hq, q⟩ := q1
  subst ex
  cases r1 with
  | cons r rr =>
    cases rr
    cases r
    obtain ⟨its, rv, p', hz⟩ := I1.tuple hq
    have hal : a < s1.heap.objs.size := by obtain ⟨_, z, _⟩ := id p'; exact Heap.lt_size z
    refine WT.call_enumerate_tuple p' fun h' he hit hsz hk => wpAny_pyIter_enum he ?_
    have I2 : Inv X pins σ H1 { s1 with heap := h' } := I1.kept (t' := s1.toks) hk
    refine ⟨s1.heap.objs.size + 1, [s1.heap.objs.size + 1, s1.heap.objs.size], _, _, H1, rfl, I2, turn_enumT a (s1.heap.objs.size + 1) s1.heap.objs.size, ⟨⟨.none, he⟩, hit, Nat.succ_ne_self _, Nat.ne_of_lt hal, Nat.ne_of_lt (Nat.lt_succ_of_lt hal)⟩, fun b hb => ?_, q⟩
    have e' : b = s1.heap.objs.size + 1 ∨ b = s1.heap.objs.size := by simpa using hb
    have hle : s1.heap.objs.size ≤ b := by
      rcases e' with z | z
      · rw [z]; exact Nat.le_add_right _ _
      · rw [z]; exact Nat.le_refl _
    exact I1.fpOk hle (I1.hok.fresh hle)
theorem walk_enumT {K : PySem.W.Frag} {a : Addr} {xs : List V} : Walk (IteT K a) xs.length (fun H => SqT K H a xs) (YPair (fun i => some (.int (i : Nat))) (fun i => xs[i]?)) := by
  refine ⟨fun i _ hi q => ⟨xs, xs[i], q, by simp [hi]⟩, fun _ q => ⟨xs, q, Nat.le_refl _⟩, fun i H v H' _ q y => ?_⟩
  obtain ⟨T, x, h1, h2, h3, h4⟩ := y
  exact ⟨T, .int (i : Nat), x, h1, h2, h3, rfl, h4 xs q⟩
/-- bool(o) by an own __bool__ -/
theorem call_boolO (O : Own X.K C "__bool__" f) (F : FnR X.prog X.w X.K X.mg X.base CX k f sp) (hr : Room (k + 2) X.A) (hx : ∀ σ, PassesAt CX X σ E0) :
    CallR X (.type "bool") (fun xs H Q => ∃ x, xs = [x] ∧ rTruO C sp x H fun b H' => Q (.bl b) H') := by
  intro pins s σ H xs us Q I r h
  obtain ⟨x, rfl, q⟩ := h
  obtain ⟨u, rfl, rx⟩ := vals1 r
  refine WT.call_boolG (wpAny_mono (truO (A := X.A.in1.in1) O F (Room.in1 (Room.in1 hr)) rfl hx I rx q) (fun b s' z => ?_) fun _ _ z => z)
  obtain ⟨H', I', q'⟩ := z
  exact ⟨.bl b, H', I', rfl, q'⟩
end
end WR
set_option Elab.async false
set_option linter.all false
set_option maxRecDepth 100000
set_option maxHeartbeats 4000000
/-! BadOrder(place): an own error over an own error over ValueError; its __init__ says super().__init__('..'), then self.place = place -/
namespace PySem
namespace OrdX
open PySem.W PySem.Calls PyProof.Rows PySem.HandSPX
def oA : Arguments := { posonlyargs := [], args := [{ arg := "self", annotation := none, pos := ⟨16, 17, 16, 21⟩ }, { arg := "place", annotation := none, pos := ⟨16, 23, 16, 28⟩ }], vararg := none, kwonlyargs := [], kw_defaults := [], kwarg := none, defaults := [] }
def oB : List Stmt :=
  [.Expr (.Call (.Attribute (.Call (.Name "super" ⟨17, 8, 17, 13⟩) [] [] ⟨17, 8, 17, 15⟩) "__init__" ⟨17, 8, 17, 24⟩) [.Constant (.str "not an order") 0 ⟨17, 25, 17, 39⟩] [] ⟨17, 8, 17, 40⟩) ⟨17, 8, 17, 40⟩,
   .Assign [.Attribute (.Name "self" ⟨18, 8, 18, 12⟩) "place" ⟨18, 8, 18, 18⟩] (.Name "place" ⟨18, 21, 18, 26⟩) ⟨18, 8, 18, 26⟩]
def oS : Scope := { kind := .function, names := [(PySem.Str.ofString "self", .local), (PySem.Str.ofString "place", .local), (PySem.Str.ofString "__class__", .free), (PySem.Str.ofString "super", .globalImplicit)], isGenerator := false, isCoroutine := false, more := [] }
abbrev iVE : String := "ValueError.__init__"
/-- what the written part says of BadOrder, at C, and of its __init__, at fI -/
structure OrdTxt (P : Program) (K : Frag) (mg : Str → Option Value) (C fI : Addr) : Prop where
  gC : mg "BadOrder" = some (.ref C)
  cls : ∃ nm q N bs bm sn sub ab col dd k0 k1 k2 k3 k5, K.lookup C = some (excClassObj nm q C N bs bm true sn sub ab col dd k0 k1 k2 k3 k5 "ValueError.__new__") ∧ refsVE bm = true
  sa : findIn K (.ref C) "__setattr__" = some (some (.builtin "object.__setattr__"))
  ga : findIn K (.ref C) "__getattribute__" = some (some (.builtin "BaseException.__getattribute__"))
  gg : findIn K (.ref C) "__getattr__" = some none
  noN : findIn K (.ref C) "place" = some none
  iC : findIn K (.ref C) "__init__" = some (some (.ref fI))
  tC : typeIn K (.ref fI) = some (.type "function")
  kC : keepIn K (.ref C) = true
  exC : subIn K (.ref C) (.type "BaseException") = some true
  veC : subIn K (.ref C) (.type "ValueError") = some true
  tyC : typeIn K (.ref C) = some (.type "type")
  hdC : hasDictIn K C = true
  te : exmOne K (.ref C) (.ref C) = some true
  self : mroIn K C (.ref C) = some true
  sup : ks_superIn K C C "__init__" = some (some (.builtin iVE))
  noG : nsIn K mainGlobals "super" = some none
  mgS : mg "super" = none
  opq : nsIn K cStatics "thirdparty.any" = some none
  htop : (P.main.scope.names.lookup ("super" : Str)).isSome = false
  fn : ∃ (oc : Value) (od : Option Addr) (dV kV doc pm : Value) (an : Option Addr) (cda cc : Addr) (ct : Value) (osl : Array (Option Value)),
    K.lookup fI = some ⟨oc, od, .func (ksFn "__init__" "BadOrder.__init__" oA oB oS dV kV doc pm an (.ref cda) ct cc), osl⟩ ∧ codeIn K (.ref cda) "BadOrder.__init__" = true ∧
    (∃ ccl cdd vs ccs file tf, K.lookup cda = some ⟨ccl, cdd, .fields vs, ccs⟩ ∧ vs[2]? = some (.str file tf) ∧ ((P.main.file : Str) == file) = true) ∧
    (∃ cl cld csl, K.lookup cc = some ⟨cl, cld, .cell (some (.ref C)), csl⟩) ∧
    (∀ (s : Shared) (u v : Value), BindsTo s (ksFn "__init__" "BadOrder.__init__" oA oB oS dV kV doc pm an (.ref cda) ct cc) ⟨[u, v], []⟩ [("self", u), ("place", v)])
theorem one_size (v : Value) : [v].length ≤ sizeLine := by
  rw [sizeLine_eq]
  exact (by decide : 1 ≤ 16777216)
/-- what __init__ leaves of a fresh exception at x -/
structure InitEnd (h h' : Heap) (x C dx t1 : Addr) (v : Value) : Prop where
  keep : ∀ b o, b ≠ x → h.get? b = some o → h'.get? b = some o
  obj : h'.get? x = some { cls := .ref C, dict := some dx, data := .fields #[.ref t1, .none, .none, .none, .bool false, .none] }
  dbig : h.objs.size ≤ dx
  dne : dx ≠ x
  ns : h'.Ns1 dx (fun y => if y = "place" then some v else none)
structure OwnMade (h h' : Heap) (e C d : Addr) (v : Value) : Prop where
  keep : ∀ b o, h.get? b = some o → h'.get? b = some o
  new : h.objs.size ≤ e
  obj : ∃ oe vs, h'.get? e = some oe ∧ oe.cls = .ref C ∧ oe.dict = some d ∧ oe.data = .fields vs ∧ vs[1]? = some .none
  dbig : h.objs.size ≤ d
  dne : d ≠ e
  ns : h'.Ns1 d (fun y => if y = "place" then some v else none)
section
variable {prog : Program} {w : World} {A : Around} {E : Value → Shared → Prop} {R : Result → Shared → Prop} {K : Frag} {mg mb : Str → Option Value} {C fI : Addr}
/-- the bound ValueError.__init__ is called: the args are laid anew -/
theorem call_mw {h : Heap} {g : Array GenState} {d : Drawn} {t : Nat} {os : OsState} {nm q : Str} {N : Addr} {bs bm : List Value} {sn : List Str} {sub : List Value} {ab : Bool} {col : Option Bool} {dd : Option Addr} {k0 k1 k2 k3 k5 : Option Value} {u e t0 : Addr} {rest : List Value} {Q : Value → Shared → Prop}
    (hC : h.get? C = some (excClassObj nm q C N bs bm true sn sub ab col dd k0 k1 k2 k3 k5 "ValueError.__new__")) (he : h.get? e = some (excO C t0)) (hu : h.get? u = some (kxs_mw iVE e)) (hrest : rest.length ≤ sizeLine)
    (hq : ∀ h' t1, (∀ b o, b ≠ e → h.get? b = some o → h'.get? b = some o) → h'.get? e = some (excO C t1) → Q .none ⟨h', g, d, t, os⟩) :
    wpAny (model prog w) A (call (.ref u) rest) Q E ⟨h, g, d, t, os⟩ := by
  refine wpAny_call (codeAny_of_tree ?_)
  show wpAny _ A.in1 (callAny (.ref u) ⟨rest, []⟩) _ _ _
  simp only [callAny]
  refine wpAny_bind (wpAny_load hu ?_)
  simp only [kxs_mw, show (Value.type "method-wrapper" == Value.type "method" || Value.type "method-wrapper" == Value.type "builtin_function_or_method" || Value.type "method-wrapper" == Value.type "method-wrapper") = true by decide, if_true]
  refine KFB.if_so (by decide) ?_
  refine wpAny_bind (check_bound_init F.excBase_ValueError.toExcCallFacts hC he rfl ?_)
  refine wpAny_bind (wpAny_pure (wpAny_pure ?_))
  refine ⟨plainId_quiet F.excBase_ValueError.init.plain _, codeAny_builtin F.excBase_ValueError.initEntry ?_⟩
  rw [Around.under_plainId F.excBase_ValueError.init.plain _]
  exact exc_init_tree (cls := .ref C) (t0 := t0) (dv := none) (c2 := .none) (c3 := .none) (b4 := .bool false) he hrest fun h' k e' _ => hq h' _ k e'
theorem ord_init {s : Shared} (T : OrdTxt prog K mg C fI) {x t0 : Addr} {v : Value} (X : K.In s.heap) (hG : s.heap.Ns mainGlobals mg) (hB : s.heap.Ns builtinsNs mb) (hb : mb "super" = bootBuiltins "super") (hlim : s.heap.NoLimit) (hx : s.heap.get? x = some (excO C t0)) (hnx : K.lookup x = none) (hroom : A.depth < recursionLimit)
    (hq : ∀ h' tk dx t1, InitEnd s.heap h' x C dx t1 v → R (.ok (.ret .none)) { s with heap := h', toks := tk }) :
    codeAny (model prog w) A (.call (.ref fI) ⟨[.ref x, v], []⟩) R s := by
  obtain ⟨oc, od, dV, kV, doc, pm, an, cda, cc, ct, osl, ho, hcd, ⟨ccl, cdd, vs, ccs, file, tf, hcode, hvs, hfile⟩, ⟨cl, cld, csl, hcell⟩, hbind⟩ := T.fn
  obtain ⟨nm, q, N, bs, bm, sn, sub, ab, col, dd, k0, k1, k2, k3, k5, hC, hbm⟩ := T.cls
  have hcl : clsIn K C = some { name := nm, bases := bs, mro := .ref C :: bm, ns := N, qualname := q, hasDict := true, slotNames := sn, subclasses := sub, abstract := ab, collection := col, hasDel := false } := by unfold clsIn; rw [hC] <;> rfl
  refine ks_codeAny_call_defAt (fd := ksFn "__init__" "BadOrder.__init__" oA oB oS dV kV doc pm an (.ref cda) ct cc) (body := oB) (binds := [("self", .ref x), ("place", v)]) hroom (X _ _ ho) rfl hlim (codeRec_of X hcd) rfl (hbind s _ _)
    (by show ∀ x ∈ oS.names, x.2 ≠ NameKind.cell; decide) (fun y hy => ?_) (fun h₁ hns hk₁ => ?_) rfl rfl rfl
  · rcases List.mem_cons.mp hy with rfl | hy
    · rfl
    · rcases List.mem_cons.mp hy with rfl | hy
      · rfl
      · cases hy
  obtain ⟨hp, g, d, tk, os⟩ := s
  have hxL : hp.objs.size ≠ x := Nat.ne_of_gt (Heap.lt_size hx)
  have X₁ : K.In h₁ := X.keeps hk₁
  have hx₁ := hk₁ _ _ hx
  have hC₁ : h₁.get? C = some _ := X₁ _ _ hC
  generalize hE : callEnv (ksFn "__init__" "BadOrder.__init__" oA oB oS dV kV doc pm an (.ref cda) ct cc) hp.objs.size fI = env
  have hsc : env.scope = oS := by rw [← hE]; rfl
  have hlo : env.locals = hp.objs.size := by rw [← hE]; rfl
  have hgl : env.globals = mainGlobals := by rw [← hE]; rfl
  have hbl : env.builtins = builtinsNs := by rw [← hE]; rfl
  have hfu : env.func = some fI := by rw [← hE]; rfl
  have hco : env.code = .ref cda := by rw [← hE]; rfl
  have hce : env.cells.lookup ("__class__" : Str) = some cc := by rw [← hE]; rfl
  have hkf : env.scope.kind = .function := by rw [hsc]; rfl
  have hks : env.kindOf "super" = some .globalImplicit := by show env.scope.names.lookup _ = _; rw [hsc]; decide +kernel
  have hkc : env.kindOf "__class__" = some .free := by show env.scope.names.lookup _ = _; rw [hsc]; decide +kernel
  have hka : env.kindOf "self" = some .local := by show env.scope.names.lookup _ = _; rw [hsc]; decide +kernel
  have hkp : env.kindOf "place" = some .local := by show env.scope.names.lookup _ = _; rw [hsc]; decide +kernel
  have hns' : h₁.Ns env.locals (fun y => ([("self", Value.ref x), ("place", v)] : List (Str × Value)).reverse.lookup y) := by rw [hlo]; exact hns
  unfold oB
  refine ks_wpAt_execs_cons (ks_wpAt_Expr_any (ks_wpAt_MethodCall ?_ (by rw [← hE]; rfl)) (by unfold interactive; rw [hkf]; rfl) rfl)
  refine ks_wpAt_super_base (env := env) hks hkc (by decide) hfu (X₁ _ _ ho) rfl rfl hco (X₁ _ _ hcode) rfl hvs hfile T.htop ?_
  refine ks_loadName_global hkf hks (loadGlobal_builtin (env := env) (by rw [hgl]; exact hG.keeps hk₁) T.mgS (by rw [hbl]; exact hB.keeps hk₁) (hb.trans PyProof.Rows.Boot.super) ⟨rfl, ?_⟩)
  refine wpAny_loadName_free hkf hkc hce ⟨_, X₁ _ _ hcell, rfl⟩ ?_
  refine wpAny_loadName_local hkf hka hns' (v := .ref x) (by first | rfl | with_unfolding_all rfl | kernel_rfl) ?_
  refine ks_wpAny_isType_cls hC₁ rfl ⟨rfl, ?_⟩
  refine ks_wpAny_call_super hC₁ rfl hx₁ rfl (fun c e => by cases e) (looks_mroIn X₁ T.self) (fun h₂ e₂ k₂ => ?_)
  have X₂ : K.In h₂ := X₁.keeps k₂
  have hx₂ := k₂ _ _ hx₁
  have I₂ : InstAt h₂ x (excO C t0) C none := ⟨hx₂, rfl, rfl, trivial⟩
  have hxC : x ≠ C := ks_ne X₂ I₂ hcl
  have hsup := T.sup
  unfold ks_superIn at hsup
  rw [hcl] at hsup
  refine kxs_getMethod (KF := kxs_ValueError) e₂ (looks_opaque X₂ T.opq) (l₀ := .ref C :: bm) (fun A Q E s k q => wpAny_bind ((looks_clsIn X₂ hcl) A _ E s k (wpAny_pure q))) rfl X₂ hsup (I₂.type.andThen (looks_subIn X₂ T.veC)) hxC (by decide) ?_
  have k₃ : ∀ b o, h₂.get? b = some o → (h₂.push (kxs_mw iVE x)).get? b = some o := fun b o e => Heap.get?_push_of_some _ e
  have hu₃ : (h₂.push (kxs_mw iVE x)).get? h₂.objs.size = some (kxs_mw iVE x) := Heap.get?_push_at rfl rfl
  show wpAny _ _ (callWith ⟨17, 8, 17, 40⟩ (.ref h₂.objs.size) [] ((false, eval (Expr.Constant (Const.str "not an order") 0 ⟨17, 25, 17, 39⟩) env) :: backTo ⟨17, 8, 17, 40⟩ []) []) _ _ _
  refine kxs_callWith (i := iVE) (x := x) rfl ?_
  refine evalArgs_plain (spliced_cons ?_)
  refine Calls.Constant_str ?_
  refine spliced_nil ⟨hu₃, ?_⟩
  refine call_mw (k₃ _ _ (X₂ _ _ hC)) (k₃ _ _ hx₂) hu₃ (one_size _) fun h₄ t1 k₄ hx₄ => ?_
  -- self.place = place
  have k14 : ∀ b o, b ≠ x → h₁.get? b = some o → h₄.get? b = some o := fun b o hb e => k₄ b o hb (k₃ b o (k₂ b o e))
  have kn : ∀ {b : Addr} {o : Obj}, K.lookup b = some o → b ≠ x := fun {b o} e z => by rw [z, hnx] at e; cases e
  have X₄ : K.In h₄ := fun b o e => k14 b o (kn e) (X₁ b o e)
  have hns₄ : h₄.Ns env.locals (fun y => ([("self", Value.ref x), ("place", v)] : List (Str × Value)).reverse.lookup y) := by
    obtain ⟨o, es, ep, eo, r⟩ := hns'
    exact ⟨o, es, ep, k14 _ _ (by rw [hlo]; exact hxL) eo, r⟩
  refine wpAt_of_wpAny (wpAny_execs_cons (plainObj_wpAny_Assign_Attribute ?_))
  refine wpAny_Name (wpAny_loadName_local hkf hkp hns₄ (v := v) (by first | rfl | with_unfolding_all rfl | kernel_rfl) ?_) (by decide)
  refine wpAny_Name (wpAny_loadName_local hkf hka hns₄ (v := .ref x) (by first | rfl | with_unfolding_all rfl | kernel_rfl) ?_) (by decide)
  refine set_plain X₄ (ox := excO C t1) (od := none) ⟨hx₄, rfl, rfl, trivial⟩ T.sa ?_
  refine exc_osa X₄ hx₄ hcl (show refsVE (.ref C :: bm) = true from hbm) rfl T.noN (fun h₅ tk₅ dx k₅ dn dne hx₅ hn₅ => ?_)
  refine wpAny_execs_nil (hq h₅ tk₅ dx t1 ⟨fun b o hb e => k₅ b o hb (k14 b o hb (hk₁ b o e)), hx₅, ?_, dne, hn₅⟩)
  exact Nat.le_trans (Nat.le_of_lt (by rw [← hlo]; exact hns₄.lt)) dn
theorem ord_made {s : Shared} (T : OrdTxt prog K mg C fI) {v : Value} (X : K.In s.heap) (hG : s.heap.Ns mainGlobals mg) (hB : s.heap.Ns builtinsNs mb) (hb : mb "super" = bootBuiltins "super") (hlim : s.heap.NoLimit) (hroom : A.depth + 1 < recursionLimit)
    (hq : ∀ h' tk e d, OwnMade s.heap h' e C d v → R (.ok (.ret (.ref e))) { s with heap := h', toks := tk }) :
    codeAny (model prog w) A (.call (.ref C) ⟨[v], []⟩) R s := by
  obtain ⟨nm, q, N, bs, bm, sn, sub, ab, col, dd, k0, k1, k2, k3, k5, hC, hbm⟩ := T.cls
  obtain ⟨hp, g, dr, tk, os⟩ := s
  have k : ∀ b o, hp.get? b = some o → ((hp.push (kdv_tup [v])).push (excO C hp.objs.size)).get? b = some o := fun b o e => Heap.get?_push_of_some _ (Heap.get?_push_of_some _ e)
  have hget : ((hp.push (kdv_tup [v])).push (excO C hp.objs.size)).get? (hp.objs.size + 1) = some (excO C hp.objs.size) := by heap_get
  have hnx : K.lookup (hp.objs.size + 1) = none := by
    cases e : K.lookup (hp.objs.size + 1) with
    | none => rfl
    | some o =>
      have z : hp.get? (hp.objs.size + 1) = some o := X _ _ e
      exact absurd (Nat.lt_of_succ_lt (Heap.lt_size z)) (Nat.lt_irrefl _)
  refine call_own F.excBase_ValueError (fun X => refsVE_contains X bm hbm) (X _ _ hC) (looks_findIn X T.iC) (fun self => bind_fn X self T.tC) (one_size v) ?_
  refine ord_init (s := ⟨(hp.push (kdv_tup [v])).push (excO C hp.objs.size), g, dr, tk, os⟩) T (X.keeps k) (hG.keeps k) (hB.keeps k) hb (hlim.keeps k) hget hnx ?_ fun h' tk' dx t1 ⟨k', hx, dn, dne, hns⟩ => ?_
  · show A.depth + 1 < recursionLimit
    exact hroom
  · have old : ∀ b o, hp.get? b = some o → h'.get? b = some o := fun b o e => k' b o (Nat.ne_of_lt (Nat.lt_succ_of_lt (Heap.lt_size e))) (k b o e)
    have z : hp.objs.size + 1 + 1 ≤ dx := by
      first
        | (simpa only [Heap.size_push] using dn)
        | exact dn
        | (have q := dn; rw [Heap.size_push, Heap.size_push] at q; exact q)
    exact ⟨rfl, hq h' tk' (hp.objs.size + 1) dx ⟨old, Nat.le_succ _, ⟨_, _, hx, rfl, rfl, rfl, rfl⟩, Nat.le_trans (Nat.le_trans (Nat.le_succ _) (Nat.le_succ _)) z, dne, hns⟩⟩
end
end OrdX
end PySem
namespace WR
open PySem PySem.Spec PyProof.Rows L2
theorem relO_place {v : V} {v' : Value} (r : RelV v v') (f : Str) : RelO (List.lookup f [(("place" : Str), v)]) (if f = "place" then some v' else none) := by
  by_cases hw : f = "place"
  · subst hw
    rw [if_pos rfl]
    have q : List.lookup ("place" : Str) [(("place" : Str), v)] = some v := by simp [List.lookup]
    rw [q]
    exact r
  · rw [if_neg hw]
    have qw : (f == ("place" : Str)) = false := by simpa using hw
    have q2 : List.lookup f [(("place" : Str), v)] = none := by simp [List.lookup, qw]
    rw [q2]
    trivial
section
variable {X : Cx} {C fI : Addr}
/-- BadOrder(e) -/
def tMkOrd (C : Addr) (ta : TA) : L2.St → Hp → XK → Prop := fun σ H Q => ta σ H fun vs H1 => ∃ v, vs = [v] ∧ ∀ d, H1 d = none → Q (.ref C) (some d) (upd H1 d (.xd [(("place" : Str), v)]))
theorem pmk_ord {a : Expr} {ta : TA} {p pos : Pos} {k : Nat} (T : PySem.OrdX.OrdTxt X.prog X.K X.mg C fI) (hr : Room k X.A) (ha : PA X [a] ta) (hg : Gl X "BadOrder" := by rfl)
    (he : starEach (a :: []) X.env = (false, eval a X.env) :: starEach [] X.env := by rfl) (hpl : (backTo pos (starEach [] X.env)).any (·.1) = false := by rfl) :
    PMk X (.Call (.Name "BadOrder" p) [a] [] pos) (tMkOrd C ta) := by
  intro pins s σ H Q I h
  refine wpAny_Call_Name_kw (ld_glob I hg T.gC ?_)
  refine PySem.W.callWith_K (h₀ := X.base) I.ok.mod.kin T.kC (thn (ha.run pos pins s σ H _ I h) fun us s1 hh => ?_) he hpl
  obtain ⟨vs, H1, I1, r1, v, ev, q1⟩ := hh
  subst ev
  refine ⟨I1.kIn, ?_⟩
  cases r1 with
  | cons rv rn =>
    rename_i v' us'
    cases rn
    show wpAny _ _ (call (.ref C) [v']) _ _ _
    have hlim := I1.nolimit
    obtain ⟨mb, hB, hbb⟩ := I1.mod.blt
    have hBs := hB.keeps I1.bk
    have hGs := I1.mod.glob.keeps I1.bk
    obtain ⟨hp, g, dr, tk, os⟩ := s1
    refine wpAny_call (PySem.OrdX.ord_made T I1.kIn hGs hBs (hbb "super" (by decide +kernel)) hlim (by have := hr.dp; omega) fun h' tk' e d M => ?_)
    show MkP X pins σ Q (.ref e) ⟨h', g, dr, tk', os⟩
    obtain ⟨oe, fv, hoe, hc, hd, hdat, h1⟩ := M.obj
    have hns := M.ns
    obtain ⟨G', g1, g2⟩ := restrict h' fun b => decide (b ≠ e)
    have gk : ∀ b, b ≠ e → G'.get? b = h'.get? b := fun b hb => g1 b (decide_eq_true hb)
    have ge : G'.get? e = none := g2 e (by simp)
    have old : ∀ b o, hp.get? b = some o → G'.get? b = some o := fun b o q => (gk b (Nat.ne_of_lt (Nat.lt_of_lt_of_le (Heap.lt_size q) M.new))).trans (M.keep b o q)
    have ob : ObjOk X.prog X.w (upd H1 d (.xd [(("place" : Str), v)])) G' d (.xd [(("place" : Str), v)]) :=
      ⟨_, hns.at (fun o q => (gk d M.dne).trans q), fun f => relO_place rv f⟩
    have J : Inv X pins σ (upd H1 d (.xd [(("place" : Str), v)])) ⟨G', g, dr, tk', os⟩ := I1.laid (t' := tk') old M.dbig ob
    refine ⟨e, oe, fv, ⟨G', g, dr, tk', os⟩, _, .ref C, some d, rfl, J, fun b o q => ?_, ge, hoe, ⟨hc, hd⟩, hdat, h1, ?_, rfl, I1.bare, raises_own T.exC T.tyC, q1 d (I1.hok.fresh M.dbig)⟩
    · by_cases hb : b = e
      · have q' : G'.get? b = some o := q
        rw [hb, ge] at q'; cases q'
      · exact (gk b hb).symm.trans q
    · rw [upd_ne (Ne.symm M.dne)]
      exact I1.hok.fresh M.new
/-- raise BadOrder(e) -/
def tRaiseOrd (C : Addr) (W : WX) (ta : TA) : TS := fun _ σ H => tMkOrd C ta σ H fun cls d H' => W cls d σ H'
theorem ps_raiseOrd {a : Expr} {ta : TA} {W : WX} {p pos pos2 : Pos} {k : Nat} (hc : X.calm = true) (T : PySem.OrdX.OrdTxt X.prog X.K X.mg C fI) (hr : Room k X.A) (tk : Takes X W) (ha : PA X [a] ta) (hg : Gl X "BadOrder" := by rfl)
    (he : starEach (a :: []) X.env = (false, eval a X.env) :: starEach [] X.env := by rfl) (hpl : (backTo pos (starEach [] X.env)).any (·.1) = false := by rfl) :
    PS X (.Raise (some (.Call (.Name "BadOrder" p) [a] [] pos)) none pos2) (tRaiseOrd C W ta) := ps_raise hc tk (pmk_ord T hr ha hg he hpl)
/-- error.place, error the exception that the suite holds (at a; its class cls, its dict d) -/
def tByOrd (C : Addr) (a : Addr) (cls : Value) (d : Option Addr) (te : TE) : TE := fun σ H Q => te σ H fun x H1 => x = .ref a ∧ cls = .ref C ∧ ∃ (dd : Addr) (v : V), d = some dd ∧ H1 dd = some (.xd [(("place" : Str), v)]) ∧ Q v H1
theorem pe_byOrd {a : Addr} {oe : Obj} {cls : Value} {d : Option Addr} {pn : List (Addr × Obj)} {e : Expr} {te : TE} {pos : Pos} (T : PySem.OrdX.OrdTxt X.prog X.K X.mg C fI) (hz : Zc cls d oe) (hf : ∃ vs, oe.data = .fields vs) (he : PE (X.suite a ((a, oe) :: pn)) e te)
    (hb : attributeBase e "place" X.env (eval e X.env) = eval e X.env := by rfl) :
    PE (X.suite a ((a, oe) :: pn)) (.Attribute e "place" pos) (tByOrd C a cls d te) := by
  refine ⟨fun pins s σ H Q I h => ?_⟩
  refine attr_of hb (thn (he.run pins s σ H _ I h) fun u s1 hh => ?_)
  obtain ⟨x, H1, I1, rx, ex, ec, dd, v, ed, ea, q⟩ := hh
  subst ex
  obtain rfl : u = Value.ref a := rx
  subst ec
  subst ed
  obtain ⟨ha, _⟩ := I1.pin (a, oe) (List.mem_append_left _ List.mem_cons_self)
  obtain ⟨vs, hd⟩ := hf
  have hx : ObjOk X.prog X.w H1 s1.heap dd (.xd [(("place" : Str), v)]) := I1.hok dd _ ea
  obtain ⟨mA, hns, hr⟩ := hx
  obtain ⟨od, ho, hl⟩ := lookIn_ns hns
  have l : List.lookup ("place" : Str) [(("place" : Str), v)] = some v := by simp [List.lookup]
  obtain ⟨u, hu, ru⟩ := RelO.some_of (v := v) (o := mA "place") (by rw [← l]; exact hr "place")
  have J : PySem.W.InstAt s1.heap a oe C (some od) := ⟨ha, hz.1, by unfold PySem.W.notCls; rw [hd] <;> rfl, by rw [hz.2]; exact ho⟩
  exact HandSPX.exc_get I1.kIn J T.ga T.gg T.exC (PySem.W.findObj_own T.hdC T.noN rfl (by rw [hl, hu])) (handed_of ru) ⟨v, H1, I1.tok _, ru, q⟩
end
end WR
set_option Elab.async false
set_option linter.all false
set_option maxRecDepth 100000
set_option maxHeartbeats 4000000
namespace WR
open PySem PySem.Spec PyProof.Rows L2
open Evl (Ex Ev EvL EvU EvT EvA EvO RV ex_l ex_t)
abbrev Hpr := V → Hp → Prop
/-! ### an evaluation with a promise about the value -/
def Evp (te : TE) (σ : L2.St) (H : Hp) (P : Hpr) : Prop := ∀ H1, Ex H H1 → ∀ Q : VK, (∀ v H2, Ex H1 H2 → P v H2 → Q v H2) → te σ H1 Q
def Evpa (ta : TA) (σ : L2.St) (H : Hp) (P : List V → Hp → Prop) : Prop := ∀ H1, Ex H H1 → ∀ Q : List V → Hp → Prop, (∀ v H2, Ex H1 H2 → P v H2 → Q v H2) → ta σ H1 Q
class Mon (P : Hpr) : Prop where
  mo : ∀ v H H', Ex H H' → P v H → P v H'
section
variable {σ : L2.St} {H H' : Hp} {ta tb te : TE} {P R : Hpr} {v : V}
theorem Evp.mono (e : Ex H H') (h : Evp te σ H P) : Evp te σ H' P := fun H1 a Q q => h H1 (e.trans a) Q q
theorem Evp.imp (h : Evp te σ H P) (k : ∀ v H1, Ex H H1 → P v H1 → R v H1) : Evp te σ H R := fun H1 a Q q => h H1 a Q fun v H2 e p => q v H2 e (k v H2 (a.trans e) p)
theorem Evp.of (h : Ev te σ H v) (hp : ∀ H1, Ex H H1 → P v H1) : Evp te σ H P := fun H1 a Q q => h H1 a Q fun H2 e => q v H2 e (hp H2 (a.trans e))
theorem Evp.var {i : Nat} (h : σ[i]? = some (some v)) (hp : P v H) [m : Mon P] : Evp (tVar i) σ H P := .of (Evl.ev_var h) fun H1 e => m.mo _ _ _ e hp
theorem Evp.ev (h : Evp te σ H fun x _ => x = v) : Ev te σ H v := fun H1 a Q q => h H1 a Q fun x H2 e p => by subst p; exact q H2 e
theorem ev_evp (h : Ev te σ H v) : Evp te σ H fun x _ => x = v := .of h fun _ _ => rfl
theorem eap_nil : Evpa tNil σ H fun vs _ => vs = [] := fun H1 _ _ q => q [] H1 (Ex.refl H1) rfl
theorem eap_cons {tr : TA} {S : List V → Hp → Prop} (h : Evp ta σ H P) (hr : Evpa tr σ H S) [m : Mon P] : Evpa (tCons ta tr) σ H fun vs H' => ∃ x us, vs = x :: us ∧ P x H' ∧ S us H' := fun H1 a Q q =>
  h H1 a _ fun v H2 e p => hr H2 (a.trans e) _ fun us H3 e3 s => q _ H3 (e.trans e3) ⟨v, us, rfl, m.mo _ _ _ e3 p, s⟩
theorem eap1 (h : Evp ta σ H P) [m : Mon P] : Evpa (tCons ta tNil) σ H fun vs H' => ∃ x, vs = [x] ∧ P x H' := fun H1 a Q q =>
  h H1 a _ fun v H2 e p => q _ H2 e ⟨v, rfl, p⟩
theorem eap2 (h : Evp ta σ H P) (h2 : Evp tb σ H R) [m : Mon P] : Evpa (tCons ta (tCons tb tNil)) σ H fun vs H' => ∃ x y, vs = [x, y] ∧ P x H' ∧ R y H' := fun H1 a Q q =>
  h H1 a _ fun v H2 e p => h2 H2 (a.trans e) _ fun y H3 e3 s => q _ H3 (e.trans e3) ⟨v, y, rfl, m.mo _ _ _ e3 p, s⟩
theorem eap3 {tc : TE} {S : Hpr} (h : Evp ta σ H P) (h2 : Evp tb σ H R) (h3 : Evp tc σ H S) [m : Mon P] [m2 : Mon R] : Evpa (tCons ta (tCons tb (tCons tc tNil))) σ H fun vs H' => ∃ x y z, vs = [x, y, z] ∧ P x H' ∧ R y H' ∧ S z H' := fun H1 a Q q =>
  h H1 a _ fun v H2 e p => h2 H2 (a.trans e) _ fun y H3 e3 s => h3 H3 ((a.trans e).trans e3) _ fun z H4 e4 u => q _ H4 ((e.trans e3).trans e4) ⟨v, y, z, rfl, m.mo _ _ _ (e3.trans e4) p, m2.mo _ _ _ e4 s, u⟩
theorem eap_ea {t : TA} {vs : List V} (h : EvA t σ H vs) : Evpa t σ H fun us _ => us = vs := fun H1 a Q q => h H1 a Q fun H2 e => q _ H2 e rfl
instance mon_eq {v : V} : Mon (fun x _ => x = v) := ⟨fun _ _ _ _ h => h⟩

/-! ### promises in their usual form -/
def spS {A : Type} (pre : A → List V → Hp → Prop) (post : A → Hpr) : Sp := fun vs H Q _ => ∃ a, pre a vs H ∧ ∀ v H', Ex H H' → post a v H' → Q v H'
theorem evp_cl {A : Type} {pre : A → List V → Hp → Prop} {post : A → Hpr} (a : A) {E : L2.St → XK} {t : TA} {S : List V → Hp → Prop} (h : Evpa t σ H S) (hp : ∀ vs H1, Ex H H1 → S vs H1 → pre a vs H1) : Evp (tCl (spS pre post) E t) σ H (post a) :=
  fun H1 e Q q => h H1 e _ fun vs H2 e2 s => ⟨a, hp vs H2 (e.trans e2) s, fun v H3 e3 p => q v H3 (e2.trans e3) p⟩
theorem evp_mt {A : Type} {pre : A → List V → Hp → Prop} {post : A → Hpr} (a : A) {C : Addr} {m : Str} {E : L2.St → XK} {t : TA} {S : List V → Hp → Prop} (ho : Evp te σ H P) (h : Evpa t σ H S)
    (hins : ∀ x H1, Ex H H1 → P x H1 → ∃ r dx fs, x = .ref r ∧ H1 r = some (.ins C dx fs) ∧ fs.lookup m = none) (hp : ∀ x vs H1, Ex H H1 → P x H1 → S vs H1 → pre a (x :: vs) H1) [mm : Mon P] : Evp (tMt C m (spS pre post) E te t) σ H (post a) :=
  fun H1 e Q q => ho H1 e _ fun x H2 e2 px => by
    obtain ⟨r, dx, fs, rfl, h1, h2⟩ := hins x H2 (e.trans e2) px
    exact ⟨r, dx, fs, rfl, h1, h2, h H2 (e.trans e2) _ fun vs H3 e3 s => ⟨a, hp _ vs H3 ((e.trans e2).trans e3) (mm.mo _ _ _ e3 px) s, fun v H4 e4 p => q v H4 ((e2.trans e3).trans e4) p⟩⟩
/-! ### statements -/
variable {D : Ends} {tz tu tw : TS} {t : TT}
theorem sp_set {i : Nat} (h : Evp te σ H P) (k : ∀ v H1, Ex H H1 → P v H1 → tz D (σ.set i (some v)) H1) : tSeq (tAsg te (gName i)) tz D σ H := h H (Ex.refl H) _ fun v H1 e p => k v H1 e p
theorem sp_set1 {i : Nat} (h : Evp te σ H P) (k : ∀ v H1, Ex H H1 → P v H1 → D.nx (σ.set i (some v)) H1) : tAsg te (gName i) D σ H := h H (Ex.refl H) _ fun v H1 e p => k v H1 e p
theorem sp_ret (h : Evp te σ H P) (k : ∀ v H1, Ex H H1 → P v H1 → D.rt v H1) : tRet te D σ H := h H (Ex.refl H) _ fun v H1 e p => k v H1 e p
theorem sp_drop (h : Evp te σ H P) (k : ∀ v H1, Ex H H1 → P v H1 → tz D σ H1) : tSeq (tDrop te) tz D σ H := h H (Ex.refl H) _ fun v H1 e p => k v H1 e p
theorem sp_par {i j : Nat} {t : TA} {S : List V → Hp → Prop} (h : Evpa t σ H S) (k : ∀ vs H1, Ex H H1 → S vs H1 → ∃ v w, vs = [v, w] ∧ tz D ((σ.set i (some v)).set j (some w)) H1) : tSeq (tPar i j t) tz D σ H :=
  h H (Ex.refl H) _ fun vs H1 e p => k vs H1 e p
theorem evp_if {b : Bool} (h : EvT t σ H b) (h1 : b = true → Evp ta σ H P) (h2 : b = false → Evp tb σ H P) : Evp (tIf t ta tb) σ H P := fun H1 e Q q => h H1 e _ fun H2 e2 => by
  cases b with
  | true => exact h1 rfl H2 (e.trans e2) Q fun v H3 e3 => q v H3 (e2.trans e3)
  | false => exact h2 rfl H2 (e.trans e2) Q fun v H3 e3 => q v H3 (e2.trans e3)
/-- a written tuple -/
theorem evp_tup {t : TA} {S : List V → Hp → Prop} (h : Evpa t σ H S) (hl : ∀ vs H1, S vs H1 → vs.length ≤ sizeLine) (k : ∀ vs H1 p, Ex H H1 → S vs H1 → H1 p = none → P (.ref p) (upd H1 p (.tup vs))) : Evp (tTup t) σ H P :=
  fun H1 e Q q => h H1 e _ fun vs H2 e2 s => ⟨hl vs H2 s, fun p hp => q _ _ (e2.trans (Ex.new hp)) (k vs H2 p (e.trans e2) s hp)⟩
end

/-! ### fractions in the heap -/
section
variable {K : PySem.W.Frag} {H H' : Hp} {v : V} {n d : Int} {q : Rat} {σ : L2.St}
def PrAt (K : PySem.W.Frag) (n d : Int) : Hpr := fun v H => ∃ a, v = .ref a ∧ SqT K H a [.int n, .int d]
abbrev FrAt (K : PySem.W.Frag) (q : Rat) : Hpr := PrAt K q.num q.den
theorem PrAt.mono (e : Ex H H') (h : PrAt K n d v H) : PrAt K n d v H' := by
  obtain ⟨a, r, s⟩ := h
  exact ⟨a, r, ex_t e s⟩
instance mon_pr : Mon (PrAt K n d) := ⟨fun _ _ _ e h => h.mono e⟩
theorem FrAt.cast {p : Rat} (h : FrAt K q v H) (e : q = p) : FrAt K p v H := by rw [← e]; exact h
theorem Evp.cast {te : TE} {p : Rat} (h : Evp te σ H (FrAt K q)) (e : q = p) : Evp te σ H (FrAt K p) := by rw [← e]; exact h
/-- x[j] of a pair -/
def tAt (K : PySem.W.Frag) (i : Nat) (j : Int) : TE := tOp (rIxT K) (tVar i) (tC (.int j))
theorem ev_fst {i : Nat} (hs : σ[i]? = some (some v)) (h : PrAt K n d v H) : Ev (tAt K i 0) σ H (.int n) := by
  obtain ⟨a, rfl, s⟩ := h
  exact Evl.ev_op (Evl.ev_var hs) Evl.ev_c (Evl.rv_ixT s (atI_nat (j := 0) rfl))
theorem ev_snd {i : Nat} (hs : σ[i]? = some (some v)) (h : PrAt K n d v H) : Ev (tAt K i 1) σ H (.int d) := by
  obtain ⟨a, rfl, s⟩ := h
  exact Evl.ev_op (Evl.ev_var hs) Evl.ev_c (Evl.rv_ixT s (atI_nat (j := 1) rfl))
theorem evp_fst {te : TE} (h : Evp te σ H (PrAt K n d)) : Ev (tOp (rIxT K) te (tC (.int 0))) σ H (.int n) := fun H1 e Q q => h H1 e _ fun v H2 e2 p => by
  obtain ⟨a, rfl, s⟩ := p
  exact ⟨a, _, 0, _, rfl, rfl, s, atI_nat (j := 0) rfl, q H2 e2⟩
theorem evp_snd {te : TE} (h : Evp te σ H (PrAt K n d)) : Ev (tOp (rIxT K) te (tC (.int 1))) σ H (.int d) := fun H1 e Q q => h H1 e _ fun v H2 e2 p => by
  obtain ⟨a, rfl, s⟩ := p
  exact ⟨a, _, 1, _, rfl, rfl, s, atI_nat (j := 1) rfl, q H2 e2⟩
theorem ev_mulW {ta tb : TE} {i j : Int} (ha : Ev ta σ H (.int i)) (hb : Ev tb σ H (.int j)) (h1 : i.natAbs < 2 ^ 400000) (h2 : j.natAbs < 2 ^ 400000) : Ev (tOp (rI CMulW fun i j => .int (i * j)) ta tb) σ H (.int (i * j)) :=
  Evl.ev_op ha hb (Evl.rv_I (wide_mul h1 h2 (by decide) (by decide) (by decide)))
def Frs (K : PySem.W.Frag) (H : Hp) (xs : List V) (qs : List Rat) : Prop := Paired (fun v q => FrAt K q v H) xs qs
theorem Frs.mono (e : Ex H H') {xs : List V} {qs : List Rat} (h : Frs K H xs qs) : Frs K H' xs qs := Paired.mapP h fun _ _ p => p.mono e
def FrsT (K : PySem.W.Frag) (qs : List Rat) : Hpr := fun v H => ∃ a xs, v = .ref a ∧ SqT K H a xs ∧ Frs K H xs qs
def FrsL (K : PySem.W.Frag) (qs : List Rat) : Hpr := fun v H => ∃ a xs, v = .ref a ∧ SqL K H a xs ∧ Frs K H xs qs
instance mon_frsT {qs : List Rat} : Mon (FrsT K qs) := ⟨fun _ _ _ e ⟨a, xs, r, s, p⟩ => ⟨a, xs, r, ex_t e s, p.mono e⟩⟩
instance mon_frsL {qs : List Rat} : Mon (FrsL K qs) := ⟨fun _ _ _ e ⟨a, xs, r, s, p⟩ => ⟨a, xs, r, ex_l e s, p.mono e⟩⟩
def IntsT (K : PySem.W.Frag) (ns : List Int) : Hpr := fun v H => ∃ a, v = .ref a ∧ SqT K H a (ns.map V.int)
def IntsL (K : PySem.W.Frag) (ns : List Int) : Hpr := fun v H => ∃ a, v = .ref a ∧ SqL K H a (ns.map V.int)
instance mon_intsT {ns : List Int} : Mon (IntsT K ns) := ⟨fun _ _ _ e ⟨a, r, s⟩ => ⟨a, r, ex_t e s⟩⟩
instance mon_intsL {ns : List Int} : Mon (IntsL K ns) := ⟨fun _ _ _ e ⟨a, r, s⟩ => ⟨a, r, ex_l e s⟩⟩
theorem _root_.PySem.Paired.get' {α β : Type} {F : α → β → Prop} : ∀ {xs : List α} {qs : List β}, Paired F xs qs → ∀ {i : Nat} {x : α}, xs[i]? = some x → ∃ q, qs[i]? = some q ∧ F x q
  | _, _, .nil, i, x, h => by simp at h
  | _, _, .cons (a := a) (b := b) p r, 0, x, h => ⟨b, rfl, by cases (Option.some.inj h); exact p⟩
  | _, _, .cons p r, i + 1, x, h => r.get' (i := i) h
theorem _root_.PySem.Paired.getR {α β : Type} {F : α → β → Prop} : ∀ {xs : List α} {qs : List β}, Paired F xs qs → ∀ {i : Nat} {q : β}, qs[i]? = some q → ∃ x, xs[i]? = some x ∧ F x q
  | _, _, .nil, i, x, h => by simp at h
  | _, _, .cons (a := a) (b := b) p r, 0, x, h => ⟨a, rfl, by cases (Option.some.inj h); exact p⟩
  | _, _, .cons p r, i + 1, x, h => r.getR (i := i) h
theorem _root_.PySem.Paired.app {α β : Type} {F : α → β → Prop} : ∀ {xs ys : List α} {qs rs : List β}, Paired F xs qs → Paired F ys rs → Paired F (xs ++ ys) (qs ++ rs)
  | _, _, _, _, .nil, h => h
  | _, _, _, _, .cons p r, h => .cons p (r.app h)
theorem _root_.PySem.Paired.dropP {α β : Type} {F : α → β → Prop} : ∀ (k : Nat) {xs : List α} {qs : List β}, Paired F xs qs → Paired F (xs.drop k) (qs.drop k)
  | 0, _, _, h => by simpa using h
  | k + 1, _, _, .nil => by simpa using .nil
  | k + 1, _, _, .cons p r => by simpa using r.dropP k
theorem _root_.PySem.Paired.takeP {α β : Type} {F : α → β → Prop} : ∀ (k : Nat) {xs : List α} {qs : List β}, Paired F xs qs → Paired F (xs.take k) (qs.take k)
  | 0, _, _, h => by simpa using .nil
  | k + 1, _, _, .nil => by simpa using .nil
  | k + 1, _, _, .cons p r => by simpa using .cons p (r.takeP k)
end

/-! ### calls by promise -/
def Cal (P : Program) (w : World) (K : PySem.W.Frag) (mg : Str → Option Value) (base : Heap) (CX : CXT) (k : Nat) (x : Str) (sp : Sp) : Prop :=
  ∃ f, FnR P w K mg base CX k f sp ∧ mg x = some (.ref f) ∧ PySem.W.keepIn K (.ref f) = true
def CalM (P : Program) (w : World) (K : PySem.W.Frag) (mg : Str → Option Value) (base : Heap) (CX : CXT) (k : Nat) (C : Addr) (m : Str) (sp : Sp) : Prop :=
  ∃ f, FnR P w K mg base CX k f sp ∧ Meth K C m f
section
variable {X : Cx} {k : Nat} {sp : Sp} {C : Addr}
theorem pe_c0 {x : Str} {p pos : Pos} {e : Expr} {es : List Expr} {t : TA} (c : Cal X.prog X.w X.K X.mg X.base CX0 k x sp) (hr : Room k X.A) (ha : PA X (e :: es) t) (hg : Gl X x := by rfl) (hdb : (x == ("__debug__" : Str)) = false := by decide)
    (he : starEach (e :: es) X.env = (false, eval e X.env) :: starEach es X.env := by rfl) (hpl : (backTo pos (starEach es X.env)).any (·.1) = false := by rfl) : PE X (.Call (.Name x p) (e :: es) [] pos) (tCl sp (fun _ => E0) t) := by
  obtain ⟨f, F, hm, hk⟩ := c
  exact pe_cl (CX := CX0) F hr hm hk (fun _ _ _ _ _ _ _ h => h.elim) ha hg hdb he hpl
theorem pe_cX {x : Str} {p pos : Pos} {e : Expr} {es : List Expr} {t : TA} (c : Cal X.prog X.w X.K X.mg X.base (L2.CX X.prog X.w) k x sp) (hr : Room k X.A) (ha : PA X (e :: es) t) (hg : Gl X x := by rfl) (hdb : (x == ("__debug__" : Str)) = false := by decide)
    (he : starEach (e :: es) X.env = (false, eval e X.env) :: starEach es X.env := by rfl) (hpl : (backTo pos (starEach es X.env)).any (·.1) = false := by rfl) : PE X (.Call (.Name x p) (e :: es) [] pos) (tCl sp (fun _ => E0) t) := by
  obtain ⟨f, F, hm, hk⟩ := c
  exact pe_cl F hr hm hk (fun σ pins H s e s' I h => passL pins σ H s e s' I h) ha hg hdb he hpl
theorem pe_m0 {m : Str} {o e : Expr} {es : List Expr} {ta : TE} {t : TA} {apos pos : Pos} {pl : Sem Bool} (he : PE X o ta) (cl : Cls X.K C) (c : CalM X.prog X.w X.K X.mg X.base CX0 k C m sp) (hr : Room k X.A) (ha : PA X (e :: es) t)
    (hst : starEach (e :: es) X.env = (false, eval e X.env) :: starEach es X.env := by rfl) (hpl : (backTo pos (starEach es X.env)).any (·.1) = false := by rfl)
    (ht : eval (.Call (.Attribute o m apos) (e :: es) [] pos) X.env = (do
      let ov ← eval o X.env
      standAt apos.atName
      let (f, first) ← holding [ov] (getMethod ov m pl)
      callWith pos f first (backTo pos (starEach (e :: es) X.env)) (backToKw pos (keywordEach [] X.env))) := by rfl) :
    PE X (.Call (.Attribute o m apos) (e :: es) [] pos) (tMt C m sp (fun _ => E0) ta t) := by
  obtain ⟨f, F, hm⟩ := c
  exact pe_mt he cl hm (CX := CX0) F hr (fun _ _ _ _ _ _ _ h => h.elim) ha hst hpl ht
theorem pe_m00 {m : Str} {o : Expr} {ta : TE} {apos pos : Pos} {pl : Sem Bool} (he : PE X o ta) (cl : Cls X.K C) (c : CalM X.prog X.w X.K X.mg X.base CX0 k C m sp) (hr : Room k X.A)
    (ht : eval (.Call (.Attribute o m apos) [] [] pos) X.env = (do
      let ov ← eval o X.env
      standAt apos.atName
      let (f, first) ← holding [ov] (getMethod ov m pl)
      callWith pos f first (backTo pos (starEach [] X.env)) (backToKw pos (keywordEach [] X.env))) := by rfl) :
    PE X (.Call (.Attribute o m apos) [] [] pos) (tMt C m sp (fun _ => E0) ta tNil) := by
  obtain ⟨f, F, hm⟩ := c
  exact pe_mt0 he cl hm (CX := CX0) F hr (fun _ _ _ _ _ _ _ h => h.elim) ht
theorem pe_at (i : Nat) {x : Str} {j : Int} {p1 p2 pos : Pos} {j' : Nat} (h : PE X (.Name x p1) (tVar i)) : PE X (.Subscript (.Name x p1) (.Constant (.int j) j' p2) pos) (tAt X.K i j) := pe_ix ix_tup h pe_int (fun _ _ => rfl)
end
end WR
namespace WR
open PySem PySem.Spec PyProof.Rows L2
section
variable {X : Cx} {k : Nat} {sp : Sp} {C : Addr}
theorem pe_cE {W : WX} {x : Str} {p pos : Pos} {e : Expr} {es : List Expr} {t : TA} (tk : Takes X W) (c : Cal X.prog X.w X.K X.mg X.base (L2.CX X.prog X.w) k x sp) (hr : Room k X.A) (ha : PA X (e :: es) t) (hg : Gl X x := by rfl) (hdb : (x == ("__debug__" : Str)) = false := by decide)
    (he : starEach (e :: es) X.env = (false, eval e X.env) :: starEach es X.env := by rfl) (hpl : (backTo pos (starEach es X.env)).any (·.1) = false := by rfl) : PE X (.Call (.Name x p) (e :: es) [] pos) (tCl sp (WE W) t) := by
  obtain ⟨f, F, hm, hk⟩ := c
  exact pe_cl F hr hm hk (fun σ => passAt tk σ) ha hg hdb he hpl
end
/-- the built-in names stay built-in -/
structure Bl (mg : Str → Option Value) : Prop where
  abs : mg "abs" = none
  isi : mg "isinstance" = none
  int : mg "int" = none
  bool : mg "bool" = none
  tup : mg "tuple" = none
  lst : mg "list" = none
  len : mg "len" = none
  sum : mg "sum" = none
  rng : mg "range" = none
  zip : mg "zip" = none
  all : mg "all" = none
  any : mg "any" = none
  srt : mg "sorted" = none
  enu : mg "enumerate" = none
end WR
set_option Elab.async false
set_option linter.all false
set_option maxRecDepth 100000
set_option maxHeartbeats 4000000
/-! loops and comprehensions over anything that walks, by promises -/
namespace WR
open PySem PySem.Spec PyProof.Rows L2
open Evl (Ex Ev EvL EvU EvT EvA EvO RV ex_l ex_t)
abbrev Yl := Nat → Hp → V → Hp → Prop
/-- what is walked: n turns, each giving what Y tells; from H on -/
def WiP (wi : TI) (σ : L2.St) (H : Hp) (n : Nat) (Y : Yl) : Prop := ∀ H1, Ex H H1 → ∀ R : It → Hp → Prop, (∀ J H2 G, Ex H1 H2 → Walk J n G Y → (∀ H3, Ex H2 H3 → G H3) → R J H2) → wi σ H1 R
section
variable {K : PySem.W.Frag} {σ : L2.St} {H H' : Hp} {ta tb te tl : TE} {n : Nat} {Y : Yl} {wi : TI}
theorem wi_list {xs : List V} (h : Evp tl σ H fun v H => ∃ a, v = .ref a ∧ SqL K H a xs) : WiP (iList K tl) σ H xs.length (YAt xs) := fun H1 e R q => h H1 e _ fun v H2 e2 ⟨a, e3, s⟩ =>
  ⟨a, e3, ⟨xs, s⟩, q _ H2 _ e2 (walk_list (K := K) (a := a) (xs := xs)) fun H3 e4 => ex_l e4 s⟩
theorem wi_tup {xs : List V} (h : Evp tl σ H fun v H => ∃ a, v = .ref a ∧ SqT K H a xs) : WiP (iTup K tl) σ H xs.length (YAt xs) := fun H1 e R q => h H1 e _ fun v H2 e2 ⟨a, e3, s⟩ =>
  ⟨a, e3, ⟨xs, s⟩, q _ H2 _ e2 (walk_tup (K := K) (a := a) (xs := xs)) fun H3 e4 => ex_t e4 s⟩
theorem wi_r1 {m : Nat} (h : Ev ta σ H (.int m)) (hm : m ≤ 100000) : WiP (iRng1 (tCons ta tNil)) σ H m (YFn fun i => .int i) := fun H1 e R q => h H1 e _ fun H2 e2 => ⟨m, rfl, by omega, by omega, by
  refine q _ H2 _ e2 ((walk_range (lo := 0) (n := m)).mono (fun _ h => h) fun i H x H' _ _ y => ⟨y.1, ?_⟩) fun _ _ => trivial
  have := y.2
  simpa using this⟩
theorem wi_r2 {lo m : Nat} (h1 : Ev ta σ H (.int lo)) (h2 : Ev tb σ H (.int m)) (hl : lo ≤ 100000) (hm : m ≤ 100000) : WiP (iRng2 (tCons ta (tCons tb tNil))) σ H (m - lo) (YFn fun i => .int ((lo + i : Nat) : Int)) := fun H1 e R q => h1 H1 e _ fun H2 e2 => h2 H2 (e.trans e2) _ fun H3 e3 =>
  ⟨lo, m, rfl, ⟨by omega, by omega, by omega, by omega⟩, by
    have en : ((m : Int) - (lo : Int)).toNat = m - lo := by omega
    rw [en]
    refine q _ H3 _ (e2.trans e3) ((walk_range (lo := (lo : Int)) (n := m - lo)).mono (fun _ h => h) fun i H x H' _ _ y => ⟨y.1, ?_⟩) fun _ _ => trivial
    rw [y.2]
    simp⟩
theorem wi_zipT {xs ys : List V} {S : List V → Hp → Prop} {t : TA} (h : Evpa t σ H S) (hs : ∀ vs H1, S vs H1 → ∃ a b, vs = [.ref a, .ref b] ∧ SqT K H1 a xs ∧ SqT K H1 b ys) (hn : xs.length = ys.length) :
    WiP (RZ.iZipA K t) σ H xs.length (YPair (fun i => xs[i]?) (fun i => ys[i]?)) := fun H1 e R q => h H1 e _ fun vs H2 e2 s => by
  obtain ⟨a, b, rfl, s1, s2⟩ := hs vs H2 s
  exact ⟨a, b, xs, ys, rfl, .inr ⟨s1, s2, q _ H2 _ e2 (walk_zipT (K := K) (a := a) (b := b) (xs := xs) (ys := ys) (by omega)) fun H3 e4 => ⟨ex_t e4 s1, ex_t e4 s2⟩⟩⟩
theorem wi_zipL {xs ys : List V} {S : List V → Hp → Prop} {t : TA} (h : Evpa t σ H S) (hs : ∀ vs H1, S vs H1 → ∃ a b, vs = [.ref a, .ref b] ∧ SqL K H1 a xs ∧ SqL K H1 b ys) :
    WiP (RZ.iZipA K t) σ H (min xs.length ys.length) (YPair (fun i => xs[i]?) (fun i => ys[i]?)) := fun H1 e R q => h H1 e _ fun vs H2 e2 s => by
  obtain ⟨a, b, rfl, s1, s2⟩ := hs vs H2 s
  exact ⟨a, b, xs, ys, rfl, .inl ⟨s1, s2, q _ H2 _ e2 (walk_zip (K := K) (a := a) (b := b) (xs := xs) (ys := ys) rfl) fun H3 e4 => ⟨ex_l e4 s1, ex_l e4 s2⟩⟩⟩
theorem wi_enumL {xs : List V} (h : Evp tl σ H fun v H => ∃ a, v = .ref a ∧ SqL K H a xs) : WiP (iEnum K (tCons tl tNil)) σ H xs.length (YPair (fun i => some (.int (i : Nat))) (fun i => xs[i]?)) := fun H1 e R q => h H1 e _ fun v H2 e2 ⟨a, e3, s⟩ =>
  ⟨a, xs, by rw [e3], s, q _ H2 _ e2 (walk_enum (K := K) (a := a) (xs := xs)) fun H3 e4 => ex_l e4 s⟩
theorem wi_enumT {xs : List V} (h : Evp tl σ H fun v H => ∃ a, v = .ref a ∧ SqT K H a xs) : WiP (iEnumT K (tCons tl tNil)) σ H xs.length (YPair (fun i => some (.int (i : Nat))) (fun i => xs[i]?)) := fun H1 e R q => h H1 e _ fun v H2 e2 ⟨a, e3, s⟩ =>
  ⟨a, xs, by rw [e3], s, q _ H2 _ e2 (walk_enumT (K := K) (a := a) (xs := xs)) fun H3 e4 => ex_t e4 s⟩
theorem YPair.use {f g : Nat → Option V} {i : Nat} {x : V} {H' : Hp} (y : YPair f g i H x H') : Ex H H' ∧ ∃ T u v, x = .ref T ∧ SqT K H' T [u, v] ∧ f i = some u ∧ g i = some v := by
  obtain ⟨T, u, v, rfl, hn, rfl, h1, h2⟩ := y
  exact ⟨Ex.new hn, T, u, v, rfl, SqT.of upd_same, h1, h2⟩
/-- (a, b) = a pair, both names -/
theorem gtup2 {T : Addr} {u v : V} {i j : Nat} {R : L2.St → Hp → Prop} (h : SqT K H T [u, v]) (q : R ((σ.set i (some u)).set j (some v)) H) : gTup K 2 (gCons (gName i) (gCons (gName j) gNil)) (.ref T) σ H R :=
  ⟨T, [u, v], rfl, h, rfl, u, [v], rfl, v, [], rfl, rfl, q⟩
/-! ### comprehensions -/
/-- a promise that no list's growing breaks -/
class Lf (P : Hpr) : Prop where
  lf : ∀ v H D xs ys, H D = some (.lst xs) → P v H → P v (upd H D (.lst ys))
theorem sqT_lf {a D : Addr} {zs xs ys : List V} (hD : H D = some (.lst xs)) (h : SqT K H a zs) : SqT K (upd H D (.lst ys)) a zs := by
  rcases h with (h | ⟨o, h⟩) | h
  · exact .inl (.inl (by rw [upd_ne (ne_of h hD (by intro q; cases q))]; exact h))
  · exact .inl (.inr ⟨o, by rw [upd_ne (ne_of h hD (by intro q; cases q))]; exact h⟩)
  · exact .inr h
instance lf_pr {n d : Int} : Lf (PrAt K n d) := ⟨fun v H D xs ys hD ⟨a, r, s⟩ => ⟨a, r, sqT_lf hD s⟩⟩
instance lf_intsT {ns : List Int} : Lf (IntsT K ns) := ⟨fun v H D xs ys hD ⟨a, r, s⟩ => ⟨a, r, sqT_lf hD s⟩⟩
instance lf_frsT {qs : List Rat} : Lf (FrsT K qs) := ⟨fun v H D xs ys hD ⟨a, zs, r, s, p⟩ => ⟨a, zs, r, sqT_lf hD s, Paired.mapP p fun _ _ h => lf_pr.lf _ _ _ _ _ hD h⟩⟩
instance lf_eq {v : V} : Lf (fun x _ => x = v) := ⟨fun _ _ _ _ _ _ h => h⟩
/-- a new list of n items, the i-th as F i tells -/
def LstP (n : Nat) (F : Nat → Hpr) : Hpr := fun v H => ∃ a xs, v = .ref a ∧ H a = some (.lst xs) ∧ xs.length = n ∧ ∀ i x, xs[i]? = some x → F i x H
theorem evp_lc {vs : List Nat} {g : TG} (hw : WiP wi σ H n Y) (F : Nat → Hpr) (mF : ∀ i, Mon (F i)) (lF : ∀ i, Lf (F i)) (hn : n ≤ 10000)
    (hs : ∀ i x H1 H2, i < n → Ex H H1 → Y i H1 x H2 → Ex H1 H2 ∧ ∃ σ2, (∀ R : L2.St → Hp → Prop, R σ2 H2 → g x (wipe σ vs) H2 R) ∧ wipe σ2 vs = wipe σ vs ∧ Evp te σ2 H2 (F i)) :
    Evp (tLc wi g tYes te vs) σ H (LstP n F) := fun H0 e0 Q q => hw H0 e0 _ fun J H1 G e1 W hG D hD => by
  refine lc_it W (fun i H' => Ex H1 H' ∧ ∃ xs, H' D = some (.lst xs) ∧ xs.length = i ∧ ∀ j x, xs[j]? = some x → F j x H') ⟨Ex.new hD, [], upd_same, rfl, fun j x h => by simp at h⟩ (fun i H' _ p => hG H' p.1) ?_ ?_
  · rintro i x H2 H3 hi ⟨e, xs, hx, hl, hF⟩ y
    obtain ⟨e3, σ2, hR, hwp, ht⟩ := hs i x H2 H3 hi ((e0.trans e1).trans e) y
    refine hR _ ⟨hwp, ?_⟩
    unfold tYes
    dsimp only
    rw [if_pos rfl]
    refine ht H3 (Ex.refl _) _ fun z H4 e4 pz => ?_
    have hx4 : H4 D = some (.lst xs) := e4 D _ (e3 D _ hx)
    refine ⟨xs, hx4, Nat.lt_of_lt_of_le (by omega : xs.length < 100000) (by decide), Ex.mut ((e.trans e3).trans e4) hD, xs ++ [z], upd_same, by simp [hl], fun j u hj => ?_⟩
    by_cases hjl : j < xs.length
    · rw [List.getElem?_append_left hjl] at hj
      exact (lF j).lf _ _ _ _ _ hx4 ((mF j).mo _ _ _ (e3.trans e4) (hF j u hj))
    · have h1 := (List.getElem?_eq_some_iff.mp hj).1
      rw [List.length_append, List.length_singleton] at h1
      have ej : j = xs.length := by omega
      subst ej
      rw [List.getElem?_append_right (Nat.le_refl _)] at hj
      simp at hj
      subst hj
      rw [hl]
      exact (lF i).lf _ _ _ _ _ hx4 pz
  · rintro H2 ⟨e, xs, hx, hl, hF⟩
    exact q _ H2 (e1.trans e) ⟨D, xs, rfl, hx, hl, hF⟩
/-- with a test, exact values -/
theorem evl_lcF {vs : List Nat} {g : TG} {tt : TT} (hw : WiP wi σ H n Y) (f : Nat → Bool) (v : Nat → V) (hn : n ≤ 10000)
    (hs : ∀ i x H1 H2, i < n → Ex H H1 → Y i H1 x H2 → Ex H1 H2 ∧ ∃ σ2, (∀ R : L2.St → Hp → Prop, R σ2 H2 → g x (wipe σ vs) H2 R) ∧ wipe σ2 vs = wipe σ vs ∧ EvT tt σ2 H2 (f i) ∧ (f i = true → Ev te σ2 H2 (v i))) :
    EvL (tLc wi g tt te vs) σ H (Evl.given n f v) := fun H0 e0 Q q => hw H0 e0 _ fun J H1 G e1 W hG D hD => by
  refine lc_it W (fun i H' => Ex H1 H' ∧ H' D = some (.lst (Evl.given i f v))) ⟨Ex.new hD, upd_same⟩ (fun i H' _ p => hG H' p.1) ?_ ?_
  · rintro i x H2 H3 hi ⟨e, hx⟩ y
    obtain ⟨e3, σ2, hR, hwp, ht, hv⟩ := hs i x H2 H3 hi ((e0.trans e1).trans e) y
    refine hR _ ⟨hwp, ht H3 (Ex.refl _) _ fun H4 e4 => ?_⟩
    cases hf : f i with
    | true =>
      rw [if_pos rfl]
      refine hv hf H4 e4 _ fun H5 e5 => ⟨Evl.given i f v, e5 D _ (e4 D _ (e3 D _ hx)), ?_, Ex.mut (((e.trans e3).trans e4).trans e5) hD, ?_⟩
      · have := Evl.given_len i f v
        exact Nat.lt_of_lt_of_le (by omega : _ < 100000) (by decide)
      · rw [Evl.given_yes hf]
        exact upd_same
    | false =>
      rw [if_neg (by decide)]
      refine ⟨(e.trans e3).trans e4, ?_⟩
      rw [Evl.given_no hf]
      exact e4 D _ (e3 D _ hx)
  · rintro H2 ⟨e, hx⟩
    exact q D H2 (Evl.fresh_back e1 hD) (e1.trans e) hx
/-! ### loops that only lay objects -/
variable {D : Ends} {tz tu : TS} {g : TG}
theorem sp_for (hw : WiP wi σ H n Y) (Pv : Nat → L2.St → Hp → Prop) (h0 : ∀ H1, Ex H H1 → Pv 0 σ H1) (hs : ∀ i x σ' H' H2 (N : L2.St → Hp → Prop), i < n → Ex H H' → Pv i σ' H' → Y i H' x H2 → (∀ σ3 H4, Ex H' H4 → Pv (i + 1) σ3 H4 → N σ3 H4) → g x σ' H2 fun σ2 H3 => tu { D with nx := N, ct := N, bk := tz D } σ2 H3)
    (hd : ∀ σ' H', Ex H H' → Pv n σ' H' → tz D σ' H') : tSeq (tFor wi g tu) tz D σ H := by
  refine hw H (Ex.refl H) _ fun J H1 G e1 W hG => for_it W (fun i σ' H' => Ex H1 H' ∧ Pv i σ' H') ⟨Ex.refl _, h0 H1 e1⟩ (fun i σ' H' _ p => hG H' p.1) (fun i x σ' H' H2 hi p y => ?_) (fun σ' H' p => hd σ' H' (e1.trans p.1) p.2)
  exact hs i x σ' H' H2 _ hi (e1.trans p.1) p.2 y fun σ3 H4 e4 p4 => ⟨p.1.trans e4, p4⟩
/-- the same at a block's end -/
theorem sp_for1 (hw : WiP wi σ H n Y) (Pv : Nat → L2.St → Hp → Prop) (h0 : ∀ H1, Ex H H1 → Pv 0 σ H1) (hs : ∀ i x σ' H' H2 (N : L2.St → Hp → Prop), i < n → Ex H H' → Pv i σ' H' → Y i H' x H2 → (∀ σ3 H4, Ex H' H4 → Pv (i + 1) σ3 H4 → N σ3 H4) → g x σ' H2 fun σ2 H3 => tu { D with nx := N, ct := N, bk := D.nx } σ2 H3)
    (hd : ∀ σ' H', Ex H H' → Pv n σ' H' → D.nx σ' H') : tFor wi g tu D σ H := by
  refine hw H (Ex.refl H) _ fun J H1 G e1 W hG => for_it W (fun i σ' H' => Ex H1 H' ∧ Pv i σ' H') ⟨Ex.refl _, h0 H1 e1⟩ (fun i σ' H' _ p => hG H' p.1) (fun i x σ' H' H2 hi p y => ?_) (fun σ' H' p => hd σ' H' (e1.trans p.1) p.2)
  exact hs i x σ' H' H2 _ hi (e1.trans p.1) p.2 y fun σ3 H4 e4 p4 => ⟨p.1.trans e4, p4⟩
/-! ### from a made list of fractions -/
theorem LstP.frs {qs : List Rat} {v : V} {n : Nat} (hn : n = qs.length) (h : LstP n (fun i => FrAt K (qs.getD i 0)) v H) : ∃ a xs, v = .ref a ∧ H a = some (.lst xs) ∧ Frs K H xs qs := by
  obtain ⟨a, xs, r, hx, hl, hF⟩ := h
  refine ⟨a, xs, r, hx, ?_⟩
  have : ∀ (xs : List V) (qs : List Rat), xs.length = qs.length → (∀ i x, xs[i]? = some x → FrAt K (qs.getD i 0) x H) → Frs K H xs qs := by
    intro xs
    induction xs with
    | nil => intro qs h _; cases qs with
      | nil => exact .nil
      | cons => cases h
    | cons x xs ih => intro qs h hF; cases qs with
      | nil => cases h
      | cons q qs => exact .cons (hF 0 x rfl) (ih qs (by simpa using h) fun i y hy => hF (i + 1) y hy)
  exact this xs qs (by omega) hF
end
end WR
namespace WR
open PySem PySem.Spec PyProof.Rows L2
open Evl (Ex Ev EvL EvU EvT EvA EvO RV ex_l ex_t)
/-! ### a name that holds a list or a tuple, walked -/
def SqA (K : PySem.W.Frag) (H : Hp) (a : Addr) (xs : List V) : Prop := SqL K H a xs ∨ SqT K H a xs
theorem SqA.ex {K : PySem.W.Frag} {H H' : Hp} {a : Addr} {xs : List V} (e : Ex H H') (h : SqA K H a xs) : SqA K H' a xs := h.elim (fun h => .inl (ex_l e h)) fun h => .inr (ex_t e h)
def iSeqV (K : PySem.W.Frag) (i : Nat) : TI := fun σ H R => ∃ a, σ[i]? = some (some (.ref a)) ∧ ((∃ xs, SqL K H a xs ∧ R (Itl K a) H) ∨ (∃ xs, SqT K H a xs ∧ R (Itt K a) H))
theorem pi_seq {X : Cx} {tg : Expr} {x : Str} {p : Pos} (i : Nat) (h : PE X (.Name x p) (tVar i)) : PI X tg (.Name x p) (iSeqV X.K i) := by
  refine ⟨fun pins s σ H R I hh => ?_⟩
  obtain ⟨a, ha, hq⟩ := hh
  rcases hq with ⟨xs, hx, r⟩ | ⟨xs, hx, r⟩
  · exact (pi_list (tg := tg) h).run pins s σ H R I ⟨_, ha, a, rfl, ⟨xs, hx⟩, r⟩
  · exact (pi_tup (tg := tg) h).run pins s σ H R I ⟨_, ha, a, rfl, ⟨xs, hx⟩, r⟩
theorem wi_seq {K : PySem.W.Frag} {σ : L2.St} {H : Hp} {i : Nat} {a : Addr} {xs : List V} (hs : σ[i]? = some (some (.ref a))) (h : SqA K H a xs) : WiP (iSeqV K i) σ H xs.length (YAt xs) := fun H1 e R q => by
  rcases h with h | h
  · exact ⟨a, hs, .inl ⟨xs, ex_l e h, q _ H1 _ (Ex.refl _) (walk_list (K := K) (a := a) (xs := xs)) fun H3 e4 => ex_l e4 (ex_l e h)⟩⟩
  · exact ⟨a, hs, .inr ⟨xs, ex_t e h, q _ H1 _ (Ex.refl _) (walk_tup (K := K) (a := a) (xs := xs)) fun H3 e4 => ex_t e4 (ex_t e h)⟩⟩
def iEnumV (K : PySem.W.Frag) (i : Nat) : TI := fun σ H R => ∃ a, σ[i]? = some (some (.ref a)) ∧ ((∃ xs, SqL K H a xs ∧ R (Ite K a) H) ∨ (∃ xs, SqT K H a xs ∧ R (IteT K a) H))
theorem pi_enumV {X : Cx} {x : Str} {p p1 pos tpos : Pos} {elts : List Expr} {kk : Nat} (i : Nat) (hg : Gl X "enumerate") (hm : X.mg "enumerate" = none) (h : PE X (.Name x p) (tVar i)) (hs : starEach [.Name x p] X.env = [(false, eval (.Name x p) X.env)] := by rfl) :
    PI X (.Tuple elts kk tpos) (.Call (.Name "enumerate" p1) [.Name x p] [] pos) (iEnumV X.K i) := by
  refine ⟨fun pins s σ H R I hh => ?_⟩
  obtain ⟨a, ha, hq⟩ := hh
  rcases hq with ⟨xs, hx, r⟩ | ⟨xs, hx, r⟩
  · exact (pi_enum hg hm (pa_cons h pa_nil) hs).run pins s σ H R I ⟨_, ha, a, xs, rfl, hx, r⟩
  · exact (pi_enumT hg hm (pa_cons h pa_nil) hs).run pins s σ H R I ⟨_, ha, a, xs, rfl, hx, r⟩
theorem wi_enumV {K : PySem.W.Frag} {σ : L2.St} {H : Hp} {i : Nat} {a : Addr} {xs : List V} (hs : σ[i]? = some (some (.ref a))) (h : SqA K H a xs) : WiP (iEnumV K i) σ H xs.length (YPair (fun i => some (.int (i : Nat))) (fun i => xs[i]?)) := fun H1 e R q => by
  rcases h with h | h
  · exact ⟨a, hs, .inl ⟨xs, ex_l e h, q _ H1 _ (Ex.refl _) (walk_enum (K := K) (a := a) (xs := xs)) fun H3 e4 => ex_l e4 (ex_l e h)⟩⟩
  · exact ⟨a, hs, .inr ⟨xs, ex_t e h, q _ H1 _ (Ex.refl _) (walk_enumT (K := K) (a := a) (xs := xs)) fun H3 e4 => ex_t e4 (ex_t e h)⟩⟩
/-! ### {x: True for x in ints} of rising ints, and sorted of it -/
def trues (ls : List Int) : List (Key × V) := ls.map fun l => (Sum.inl l, V.bl true)
theorem put_new {kvs : List (Key × V)} {k : Key} {z : V} (h : ∀ p ∈ kvs, p.1 ≠ k) : putK kvs k z = kvs ++ [(k, z)] := by
  unfold putK
  rw [if_neg]
  intro q
  obtain ⟨p, hp, e⟩ := List.any_eq_true.mp q
  exact h p hp (of_decide_eq_true e)
theorem take_trues {ls : List Int} {i : Nat} {l : Int} (hp : ls.Pairwise (· < ·)) (h : ls[i]? = some l) : putK (trues (ls.take i)) (Sum.inl l) (.bl true) = trues (ls.take (i + 1)) := by
  rw [put_new, List.take_add_one, h]
  · simp [trues]
  · intro p hp' e
    obtain ⟨m, hm, rfl⟩ := List.mem_map.mp hp'
    have e : m = l := by simpa using e
    subst e
    obtain ⟨j, hj⟩ := List.getElem?_of_mem hm
    rw [List.getElem?_take] at hj
    split at hj
    · rename_i hji
      obtain ⟨h1, h1'⟩ := List.getElem?_eq_some_iff.mp hj
      obtain ⟨h2, h2'⟩ := List.getElem?_eq_some_iff.mp h
      have := List.pairwise_iff_getElem.mp hp j i h1 h2 hji
      omega
    · cases hj
theorem evp_dcI {K : PySem.W.Frag} {σ : L2.St} {H : Hp} {wi : TI} {ls : List Int} {j : Nat} {vs : List Nat} (hw : WiP wi σ H ls.length (YAt (ls.map V.int))) (hl : ls.length ≤ 1000) (hp : ls.Pairwise (· < ·)) (hv : ∀ x, wipe ((wipe σ vs).set j (some x)) vs = wipe σ vs) (hj : j < (wipe σ vs).length) :
    Evp (tDc wi (gName j) tYes (tVar j) (tC (.bl true)) vs) σ H (fun v H' => ∃ a, v = .ref a ∧ H' a = some (.dK (trues ls))) := fun H0 e0 Q q => hw H0 e0 _ fun J H1 G e1 W hG D hD => by
  refine ⟨fun i m H' => m = ls.length - i ∧ i ≤ ls.length ∧ Ex H1 H' ∧ H' D = some (.dK (trues (ls.take i))), ⟨ls.length, by simp, Nat.zero_le _, Ex.new hD, upd_same⟩, ?_⟩
  rintro i m H' ⟨rfl, hi, e, hx⟩
  by_cases hlt : i < ls.length
  · refine .inr ⟨W.goes i H' hlt (hG H' e), fun H' => Ex H1 H' ∧ H' D = some (.dK (trues (ls.take (i + 1)))), fun H2 p => ⟨ls.length - (i + 1), by omega, rfl, hlt, p.1, p.2⟩, fun x H2 y => ?_⟩
    obtain ⟨rfl, hx2⟩ := W.yields i H' x H2 hlt (hG H' e) y
    have hli : ls[i]? = some ls[i] := List.getElem?_eq_getElem hlt
    rw [List.getElem?_map, hli] at hx2
    have hx2 : V.int ls[i] = x := Option.some.inj hx2
    subst hx2
    refine ⟨hv _, ?_⟩
    unfold tYes
    dsimp only
    rw [if_pos rfl]
    refine ⟨.int ls[i], List.getElem?_set_self hj, _, Sum.inl ls[i], rfl, hx, ?_, Ex.mut e hD, ?_⟩
    · have : (trues (ls.take i)).length ≤ 1000 := by simp [trues]; omega
      exact Nat.lt_of_lt_of_le (by omega : _ < 100000) (by decide)
    · rw [upd_same, take_trues hp hli]
  · have : i = ls.length := by omega
    subst this
    rw [List.take_length] at hx
    exact .inl ⟨W.stops H' (hG H' e), q _ H' (e1.trans e) ⟨D, rfl, hx⟩⟩
def rSortD : List V → Hp → VK → Prop := fun xs H Q => ∃ (a : Addr) (kvs : List (Key × V)) (ks : List Int), xs = [.ref a] ∧ Rd H a (.dK kvs) ∧ kvs.map (·.1) = ks.map Sum.inl ∧ ks.length < 64 ∧
    ∀ (ys : List Int) (p : Addr), ys.Perm ks → ys.Pairwise (· ≤ ·) → H p = none → Q (.ref p) (upd H p (.lst (ys.map V.int)))
theorem perm_sorted {xs ys : List Int} (h : ys.Perm xs) (h1 : ys.Pairwise (· ≤ ·)) (h2 : xs.Pairwise (· < ·)) : ys = xs :=
  List.Perm.eq_of_pairwise (le := (· ≤ ·)) (fun a b _ _ h1 h2 => Int.le_antisymm h1 h2) h1 (h2.imp fun h => Int.le_of_lt h) h
theorem evp_sortD {σ : L2.St} {H : Hp} {ta : TE} {ls : List Int} (h : Evp ta σ H fun v H' => ∃ a, v = .ref a ∧ H' a = some (.dK (trues ls))) (hl : ls.length < 64) (hp : ls.Pairwise (· < ·)) :
    Evp (tCB rSortD (tCons ta tNil)) σ H (fun v H' => ∃ a, v = .ref a ∧ H' a = some (.lst (ls.map V.int))) := fun H1 e Q q => h H1 e _ fun v H2 e2 ⟨a, ev, ha⟩ =>
  ⟨a, trues ls, ls, by rw [ev], .inl ha, by simp [trues, Function.comp_def], hl, fun ys p hpm hs hpn => by
    have := perm_sorted hpm hs hp
    subst this
    exact q _ _ (e2.trans (Ex.new hpn)) ⟨p, rfl, upd_same⟩⟩
/-- tuple(a new list) -/
def rTupOf (K : PySem.W.Frag) : List V → Hp → VK → Prop := fun xs H Q => ∃ p ys, xs = [.ref p] ∧ ((SqL K H p ys ∧ ∀ l, H l = none → Q (.ref l) (upd H l (.tup ys))) ∨ (SqT K H p ys ∧ Q (.ref p) H))
theorem evp_tupOf {K : PySem.W.Frag} {σ : L2.St} {H : Hp} {ta : TE} {P R : Hpr} (h : Evp ta σ H P) (k : ∀ v H', Ex H H' → P v H' → ∃ a xs, v = .ref a ∧ SqL K H' a xs ∧ ∀ p, H' p = none → R (.ref p) (upd H' p (.tup xs))) : Evp (tCB (rTupOf K) (tCons ta tNil)) σ H R := fun H1 e Q q =>
  h H1 e _ fun v H2 e2 pv => by
    obtain ⟨a, xs, rfl, ha, hr⟩ := k v H2 (e.trans e2) pv
    exact ⟨a, xs, rfl, .inl ⟨ha, fun p hp => q _ _ (e2.trans (Ex.new hp)) (hr p hp)⟩⟩
end WR
set_option Elab.async false
set_option linter.all false
set_option maxRecDepth 100000
set_option maxHeartbeats 4000000
/-! data compared: ints, fractions, pairs -/
namespace WR
open PySem PySem.Spec PyProof.Rows L2
open Evl (Ex Ev EvL EvU EvT EvA EvO RV ex_l ex_t)
def GA (k : Nat) (ds : List PyData) : Prop := PyData.canLayAll0 ds = true ∧ PyData.depthAll ds ≤ k
theorem GA.nil {k : Nat} : GA k [] := ⟨by simp [PyData.canLayAll0], by simp [PyData.depthAll]⟩
theorem GA.cons {k : Nat} {d : PyData} {ds : List PyData} (h : d.canLay0 = true) (h2 : d.depth ≤ k) (g : GA k ds) : GA k (d :: ds) := ⟨by rw [PyData.canLayAll0, h, g.1]; rfl, by rw [PyData.depthAll]; exact Nat.max_le.mpr ⟨h2, g.2⟩⟩
theorem GA.map {α : Type} {k : Nat} {f : α → PyData} (h : ∀ a, (f a).canLay0 = true ∧ (f a).depth ≤ k) : ∀ l : List α, GA k (l.map f)
  | [] => .nil
  | a :: l => .cons (h a).1 (h a).2 (GA.map h l)
theorem GA.tup {k : Nat} {ds : List PyData} (g : GA k ds) : (PyData.tuple ds).canLay0 = true ∧ (PyData.tuple ds).depth ≤ k + 1 := ⟨by rw [PyData.canLay0]; exact g.1, by rw [PyData.depth]; exact Nat.succ_le_succ g.2⟩
theorem GA.lst {k : Nat} {ds : List PyData} (g : GA k ds) : (PyData.list ds).canLay0 = true ∧ (PyData.list ds).depth ≤ k + 1 := ⟨by rw [PyData.canLay0]; exact g.1, by rw [PyData.depth]; exact Nat.succ_le_succ g.2⟩
theorem int_ok (i : Int) : (PyData.int i).canLay0 = true ∧ (PyData.int i).depth ≤ 0 := ⟨by simp [PyData.canLay0], by simp [PyData.depth]⟩
theorem shaped_of {k : Nat} {d : PyData} (h : d.canLay0 = true ∧ d.depth ≤ k) (hk : k ≤ 64) : SeqAt.shaped d = true := by
  unfold SeqAt.shaped
  rw [h.1, decide_eq_true (Nat.le_trans h.2 hk)]
  rfl
def dq (q : Rat) : PyData := .tuple [.int q.num, .int q.den]
theorem dq_ok (q : Rat) : (dq q).canLay0 = true ∧ (dq q).depth ≤ 1 := GA.tup (k := 0) (.cons (int_ok _).1 (int_ok _).2 (.cons (int_ok _).1 (int_ok _).2 .nil))
def dz (p : Nat × Nat) : PyData := .tuple [.int p.1, .int p.2]
theorem dz_ok (p : Nat × Nat) : (dz p).canLay0 = true ∧ (dz p).depth ≤ 1 := GA.tup (k := 0) (.cons (int_ok _).1 (int_ok _).2 (.cons (int_ok _).1 (int_ok _).2 .nil))
theorem eqvAll_map {α : Type} [DecidableEq α] {f : α → PyData} (h : ∀ a b, PyData.eqv (f a) (f b) = decide (a = b)) : ∀ l m : List α, PyData.eqvAll (l.map f) (m.map f) = decide (l = m)
  | [], [] => by simp [PyData.eqvAll]
  | [], b :: m => by simp [PyData.eqvAll]
  | a :: l, [] => by simp [PyData.eqvAll]
  | a :: l, b :: m => by
    rw [List.map_cons, List.map_cons, PyData.eqvAll, h, eqvAll_map h l m]
    by_cases e : a = b <;> simp [e]
theorem eqv_int (a b : Int) : PyData.eqv (.int a) (.int b) = decide (a = b) := by
  rw [PyData.eqv, Bool.beq_eq_decide_eq]
theorem rat_eq {p q : Rat} : p = q ↔ p.num = q.num ∧ p.den = q.den := ⟨fun e => by rw [e]; exact ⟨rfl, rfl⟩, fun ⟨a, b⟩ => Rat.ext a b⟩
theorem eqv_dq (p q : Rat) : PyData.eqv (dq p) (dq q) = decide (p = q) := by
  rw [dq, dq, PyData.eqv, PyData.eqvAll, PyData.eqvAll, PyData.eqvAll, eqv_int, eqv_int, Bool.and_true, ← Bool.decide_and]
  apply decide_eq_decide.mpr
  rw [rat_eq]
  constructor
  · rintro ⟨a, b⟩
    exact ⟨a, by omega⟩
  · rintro ⟨a, b⟩
    exact ⟨a, by omega⟩
theorem eqv_dz (p q : Nat × Nat) : PyData.eqv (dz p) (dz q) = decide (p = q) := by
  obtain ⟨a, b⟩ := p
  obtain ⟨c, d⟩ := q
  rw [dz, dz, PyData.eqv, PyData.eqvAll, PyData.eqvAll, PyData.eqvAll, eqv_int, eqv_int, Bool.and_true, ← Bool.decide_and]
  apply decide_eq_decide.mpr
  rw [Prod.mk.injEq]
  show (a : Int) = (c : Int) ∧ (b : Int) = (d : Int) ↔ _
  omega
section
variable {K : PySem.W.Frag} {H H' : Hp} {v : V} {σ : L2.St}
theorem dp_ints : ∀ ns : List Int, DpAll K H (ns.map V.int) (ns.map PyData.int)
  | [] => .nil
  | n :: ns => .cons (.int n) (dp_ints ns)
theorem dp_pr {n d : Int} (h : PrAt K n d v H) : Dp K H v (.tuple [.int n, .int d]) := by
  obtain ⟨a, rfl, s⟩ := h
  exact .tup s (.cons (.int n) (.cons (.int d) .nil))
theorem dp_fr {q : Rat} (h : FrAt K q v H) : Dp K H v (dq q) := dp_pr h
theorem dp_frs : ∀ {xs : List V} {qs : List Rat}, Frs K H xs qs → DpAll K H xs (qs.map dq)
  | _, _, .nil => .nil
  | _, _, .cons p r => .cons (dp_fr p) (dp_frs r)
def Prs (K : PySem.W.Frag) (H : Hp) (xs : List V) (ps : List (Nat × Nat)) : Prop := Paired (fun v p => PrAt K (p.1 : Nat) (p.2 : Nat) v H) xs ps
theorem dp_prs : ∀ {xs : List V} {ps : List (Nat × Nat)}, Prs K H xs ps → DpAll K H xs (ps.map dz)
  | _, _, .nil => .nil
  | _, _, .cons p r => .cons (dp_pr p) (dp_prs r)
/-- comparisons of such data -/
theorem rv_eqD {x y : V} {d e : PyData} {b : Bool} (hx : ∀ H1, Ex H H1 → Dp K H1 x d) (hy : ∀ H1, Ex H H1 → Dp K H1 y e) (sd : SeqAt.shaped d = true) (se : SeqAt.shaped e = true) (h : PyData.eqv d e = b) : RV (rEqD K) x y H (.bl b) := fun H1 ex Q q =>
  ⟨d, e, hx H1 ex, hy H1 ex, sd, se, by rw [h]; exact q H1 (Ex.refl _)⟩
/-- both sides by their promises -/
theorem evp_eqD {ta tb : TE} {S R : Hpr} {d e : PyData} {b : Bool} (ha : Evp ta σ H S) (hb : Evp tb σ H R) (mS : Mon S) (hS : ∀ v H1, S v H1 → Dp K H1 v d) (hR : ∀ v H1, R v H1 → Dp K H1 v e) (sd : SeqAt.shaped d = true) (se : SeqAt.shaped e = true) (h : PyData.eqv d e = b) :
    Ev (tOp (rEqD K) ta tb) σ H (.bl b) := fun H1 ex Q q => ha H1 ex _ fun v H2 e2 sv => hb H2 (ex.trans e2) _ fun u H3 e3 ru => ⟨d, e, hS v H3 (mS.mo _ _ _ e3 sv), hR u H3 ru, sd, se, by rw [h]; exact q H3 (e2.trans e3)⟩
theorem evp_neD {ta tb : TE} {S R : Hpr} {d e : PyData} {b : Bool} (ha : Evp ta σ H S) (hb : Evp tb σ H R) (mS : Mon S) (hS : ∀ v H1, S v H1 → Dp K H1 v d) (hR : ∀ v H1, R v H1 → Dp K H1 v e) (sd : SeqAt.shaped d = true) (se : SeqAt.shaped e = true) (h : (!PyData.eqv d e) = b) :
    Ev (tOp (rNeD K) ta tb) σ H (.bl b) := fun H1 ex Q q => ha H1 ex _ fun v H2 e2 sv => hb H2 (ex.trans e2) _ fun u H3 e3 ru => ⟨d, e, hS v H3 (mS.mo _ _ _ e3 sv), hR u H3 ru, sd, se, by rw [h]; exact q H3 (e2.trans e3)⟩
end
end WR
set_option Elab.async false
set_option linter.all false
set_option maxRecDepth 100000
set_option maxHeartbeats 4000000
namespace WR
open PySem PySem.Spec PyProof.Rows L2
/-- xs[i] as the read of xs[i] += e, i from the front -/
def rGetL : V → V → Hp → VK → Prop := fun x y H Q => ∃ p xs j v, x = .ref p ∧ y = .int ((j : Nat) : Int) ∧ H p = some (.lst xs) ∧ xs[j]? = some v ∧ Q v H
theorem pget_list {X : Cx} : PGet X rGetL := by
  intro pins s σ H x y v u Q I rx ry h
  obtain ⟨p, xs, j, z, rfl, rfl, hp, he, q⟩ := h
  cases rx
  obtain ⟨t, rfl⟩ := ry
  obtain ⟨its, r, pl, hz⟩ := I.list (SqL.of hp)
  obtain ⟨w, ew, rw'⟩ := r.get he
  have hl := r.length
  have hn := line63
  have hj := (List.getElem?_eq_some_iff.mp he).1
  exact wpAny_getItem_list pl.isList (by omega) (by rw [hl] at hj; omega) (by simpa using ew) ⟨z, H, I, rw', q⟩
end WR
set_option Elab.async false
set_option linter.all false
set_option maxRecDepth 100000
set_option maxHeartbeats 4000000
set_option exponentiation.threshold 500000
namespace WD
open PySem PySem.Spec PyProof.Rows L2 WR WK
open Evl (Ex Ev EvL EvU EvT EvA EvO RV ex_l ex_t)
def top (i : Nat) : Stmt := PySem.Challenge.pw_weirlines_k43_whole_loops.main.body.getD i (.Pass ⟨0, 0, 0, 0⟩)
section
variable {P : Program} {w : World} {K : PySem.W.Frag} {mg : Str → Option Value} {base : Heap} {H : Hp} {σ : L2.St}
/-! ### common -/
def spCommon : Sp := spS (A := Nat × Nat) (fun a vs _ => vs = [.int a.1, .int a.2]) (fun a v _ => v = .int (Nat.gcd a.1 a.2 : Nat))
abbrev sCommon : Stmt := top 14
theorem scCommon : FnScope ["one", "other"] ["one", "other"] (defScope sCommon) := ⟨rfl, rfl, rfl, by decide +kernel, rfl, by decide +kernel, by decide +kernel⟩
theorem ok_common {f : Addr} {fd : FuncData} (F : Fun K "common" "common" sCommon f fd) : FnOk P w K mg base CX0 1 f fd ["one", "other"] spCommon := by
  refine F.ok scCommon (fun vs H Q E h => ?_) (fun cdv A outer s H vs Q E hr h => ?_)
  · obtain ⟨a, rfl, _⟩ := h
    rfl
  · obtain ⟨⟨a, b⟩, rfl, k⟩ := h
    refine ⟨_, pss_cons (ps_while PassesOwn.never (pt_cmpR op_ne (pv 1) pe_int (nomark _)) (pss_one (ps_par (i := 0) (j := 1) rfl scCommon.nd rfl rfl (by decide) rfl rfl (pa_cons (pv 1) (pa_cons (pe_op op_mod (pv 0) (pv 1)) pa_nil)) (by rfl)))) (pss_one (ps_ret (pv 0))), ?_⟩
    refine Evl.q_while (fun m σ H' => ∃ x y : Nat, σ = [some (.int x), some (.int y)] ∧ y = m ∧ Nat.gcd x y = Nat.gcd a b ∧ Ex H H') b ⟨a, b, rfl, rfl, rfl, Ex.refl H⟩ ?_
    rintro m σ H1 ⟨x, y, rfl, rfl, hg, e1⟩
    refine ⟨_, Evl.et_test (Evl.ev_op (Evl.ev_var rfl) Evl.ev_c (Evl.rv_ne rfl)), fun hb H2 e2 => ?_, fun hb H2 e2 => ?_⟩
    · have hy : y ≠ 0 := fun z => by subst z; simp at hb
      refine ⟨fun σ2 H3 => σ2 = [some (.int (y : Nat)), some (.int (x % y : Nat))] ∧ Ex H H3, fun σ2 H3 ⟨e, e3⟩ => ⟨x % y, Nat.mod_lt _ (by omega), y, x % y, e, rfl, by rw [Nat.gcd_comm, ← hg, Nat.gcd_comm x y, Nat.gcd_rec y x], e3⟩, ?_⟩
      refine Evl.ea_cons (H := H2) (Evl.ev_var rfl) (Evl.ea_cons (Evl.ev_op (Evl.ev_var rfl) (Evl.ev_var rfl) (Evl.rv_I (by show (0 : Int) < y; omega))) Evl.ea_nil) H2 (Ex.refl _) _ fun H3 e3 => ?_
      exact ⟨_, _, rfl, rfl, (e1.trans e2).trans e3⟩
    · have hy : y = 0 := by
        by_cases z : y = 0
        · exact z
        · exfalso
          have : ¬ ((y : Int) = 0) := by omega
          simp at hb
          omega
      subst hy
      refine Evl.s_ret (Evl.ev_var rfl) fun H3 e3 => k _ _ ((e1.trans e2).trans e3) ?_
      show V.int _ = V.int _
      rw [← hg, Nat.gcd_zero_right]
theorem ev_common {ta tb : TE} {x y : Nat} (ha : Ev ta σ H (.int x)) (hb : Ev tb σ H (.int y)) : Ev (tCl spCommon (fun _ => E0) (tCons ta (tCons tb tNil))) σ H (.int (Nat.gcd x y : Nat)) :=
  (evp_cl (x, y) (eap_ea (Evl.ea_cons ha (Evl.ea_cons hb Evl.ea_nil))) fun vs H1 _ e => e).ev
/-! ### part -/
def spPart (K : PySem.W.Frag) : Sp := spS (A := Int × Int) (fun a vs _ => vs = [.int a.1, .int a.2] ∧ 0 < a.2 ∧ a.1.natAbs < 2 ^ 4500 ∧ a.2.natAbs < 2 ^ 4500) (fun a => FrAt K (rt a.1 a.2))
def rAbs : List V → Hp → VK → Prop := fun xs H Q => ∃ i, xs = [.int i] ∧ Q (.int (if i < 0 then -i else i)) H
theorem ev_abs {ta : TE} {i : Int} (ha : Ev ta σ H (.int i)) : Ev (tCB rAbs (tCons ta tNil)) σ H (.int (i.natAbs : Nat)) := fun H1 e Q q =>
  ha H1 e _ fun H2 e2 => ⟨i, rfl, by
    have : (if i < 0 then -i else i) = (i.natAbs : Int) := by split <;> omega
    rw [this]
    exact q H2 e2⟩
abbrev sPart : Stmt := top 15
theorem scPart : FnScope ["top", "below", "least"] ["top", "below"] (defScope sPart) := ⟨rfl, rfl, rfl, by decide +kernel, rfl, by decide +kernel, by decide +kernel⟩
theorem pow_le_9000 {n : Nat} (h : n < 2 ^ 4500) : n < 2 ^ 9000 := Nat.lt_of_lt_of_le h (Nat.pow_le_pow_right (by decide) (by decide))
theorem gcd_small {t b : Int} (h0 : 0 < b) (hb : b.natAbs < 2 ^ 4500) : 0 < ((Nat.gcd t.natAbs b.natAbs : Nat) : Int) ∧ ((Nat.gcd t.natAbs b.natAbs : Nat) : Int).natAbs < 2 ^ 9000 := by
  have h1 : 0 < Nat.gcd t.natAbs b.natAbs := Nat.gcd_pos_of_pos_right _ (by omega)
  have h2 : Nat.gcd t.natAbs b.natAbs ≤ b.natAbs := Nat.le_of_dvd (by omega) (Nat.gcd_dvd_right _ _)
  refine ⟨by omega, pow_le_9000 ?_⟩
  rw [Int.natAbs_natCast]
  omega
theorem ok_part {dvs kws f fd} (F : FunD K "part" "part" (defArgs sPart) (defBody sPart) (defScope sPart) dvs kws f fd) (B : Bl mg) (cC : Cal P w K mg base CX0 1 "common" spCommon) : FnOk P w K mg base CX0 2 f fd ["top", "below"] (spPart K) := by
  refine F.ok scPart (fun vs H Q E h => ?_) (fun cdv A outer s H vs Q E hr h => ?_)
  · obtain ⟨a, ⟨rfl, _⟩, _⟩ := h
    rfl
  · obtain ⟨⟨t, b⟩, ⟨rfl, h0, ht, hb⟩, k⟩ := h
    have h0 : 0 < b := h0
    have hb : b.natAbs < 2 ^ 4500 := hb
    refine ⟨_, PSs.nox (pss_cons (ps_if (pt_cmpR op_lt (pv 1) pe_int (nomark _)) (pss_one ps_never) pss_nil)
      (pss_cons (ps_set (i := 2) scPart.nd rfl (Or.inl rfl) (pe_c0 cC hr (pa_cons (pe_callB call_abs rfl B.abs (by decide +kernel) (pa_cons (pv 0) pa_nil)) (pa_cons (pv 1) pa_nil))))
      (pss_one (ps_ret (pe_tup (pa_cons (pe_op op_fdivW (pv 0) (pv 2)) (pa_cons (pe_op op_fdivW (pv 1) (pv 2)) pa_nil))))))), ?_⟩
    refine Evl.q_if (Evl.et_test (Evl.ev_op (Evl.ev_var rfl) Evl.ev_c Evl.rv_I0)) (fun hh => by exfalso; have := of_decide_eq_true hh; omega) (fun _ H1 e1 => ?_)
    have eb : V.int b = V.int ((b.natAbs : Nat) : Int) := by congr 1; omega
    refine Evl.q_asg (ev_common (x := t.natAbs) (y := b.natAbs) (ev_abs (Evl.ev_var rfl)) (Evl.ev_is (Evl.ev_var rfl) eb)) fun H2 e2 => ?_
    obtain ⟨g1, g2⟩ := gcd_small (t := t) h0 hb
    refine Evl.s_retU (Evl.eu_tup (Evl.ea_cons (Evl.ev_op (Evl.ev_var rfl) (Evl.ev_var rfl) (Evl.rv_I (wide_div g1 g2 (by decide) (by decide)))) (Evl.ea_cons (Evl.ev_op (Evl.ev_var rfl) (Evl.ev_var rfl) (Evl.rv_I (wide_div g1 g2 (by decide) (by decide)))) Evl.ea_nil)) (by show 2 ≤ 100000; decide)) fun p H3 hp e3 h3 => ?_
    refine k _ _ ((e1.trans e2).trans e3) ⟨p, rfl, ?_⟩
    rw [rt_num t b h0, rt_den t b h0]
    exact SqT.of h3
theorem evp_part {ta tb : TE} {t b : Int} (ha : Ev ta σ H (.int t)) (hb : Ev tb σ H (.int b)) (h0 : 0 < b) (h1 : t.natAbs < 2 ^ 4500) (h2 : b.natAbs < 2 ^ 4500) : Evp (tCl (spPart K) (fun _ => E0) (tCons ta (tCons tb tNil))) σ H (FrAt K (rt t b)) :=
  evp_cl (t, b) (eap_ea (Evl.ea_cons ha (Evl.ea_cons hb Evl.ea_nil))) fun vs H1 _ e => ⟨e, h0, h1, h2⟩
/-! ### plus, minus, times, over -/
def Sm (n : Int) : Prop := n.natAbs < 2 ^ 2200
theorem Sm.mul {a b : Int} (ha : Sm a) (hb : Sm b) : (a * b).natAbs < 2 ^ 4400 := by
  rw [Int.natAbs_mul]
  exact pow_mul_lt ha hb
theorem big_mul {a b c d : Int} (h : (a * b).natAbs < 2 ^ 4400) (h' : (c * d).natAbs < 2 ^ 4400) : (a * b + c * d).natAbs < 2 ^ 4500 ∧ (a * b - c * d).natAbs < 2 ^ 4500 := by
  have e : (2 : Nat) ^ 4400 + 2 ^ 4400 ≤ 2 ^ 4500 := by decide +kernel
  omega
theorem big1 {n : Nat} (h : n < 2 ^ 4400) : n < 2 ^ 4500 := Nat.lt_of_lt_of_le h (Nat.pow_le_pow_right (by decide) (by decide))
theorem Sm.wd {a : Int} (ha : Sm a) : a.natAbs < 2 ^ 400000 := Nat.lt_of_lt_of_le ha (Nat.pow_le_pow_right (by decide) (by decide))
theorem Sm.mk {a : Int} {k : Nat} (h : a.natAbs < 2 ^ k) (hk : k ≤ 2200) : Sm a := Nat.lt_of_lt_of_le h (Nat.pow_le_pow_right (by decide) hk)
def spBin (K : PySem.W.Frag) (f : Rat → Rat → Rat) : Sp := spS (A := (Int × Int) × (Int × Int)) (fun a vs H => ∃ x y, vs = [x, y] ∧ PrAt K a.1.1 a.1.2 x H ∧ PrAt K a.2.1 a.2.2 y H ∧ 0 < a.1.2 ∧ 0 < a.2.2 ∧ Sm a.1.1 ∧ Sm a.1.2 ∧ Sm a.2.1 ∧ Sm a.2.2)
  (fun a => FrAt K (f (rt a.1.1 a.1.2) (rt a.2.1 a.2.2)))
/-- over: the second above 0 -/
def spOver (K : PySem.W.Frag) : Sp := spS (A := (Int × Int) × (Int × Int)) (fun a vs H => ∃ x y, vs = [x, y] ∧ PrAt K a.1.1 a.1.2 x H ∧ PrAt K a.2.1 a.2.2 y H ∧ 0 < a.1.2 ∧ 0 < a.2.2 ∧ 0 < a.2.1 ∧ Sm a.1.1 ∧ Sm a.1.2 ∧ Sm a.2.1 ∧ Sm a.2.2)
  (fun a => FrAt K (rt a.1.1 a.1.2 / rt a.2.1 a.2.2))
theorem evp_bin {g : Rat → Rat → Rat} {ta tb : TE} {a b c d : Int} (ha : Evp ta σ H (PrAt K a b)) (hb : Evp tb σ H (PrAt K c d)) (h1 : 0 < b) (h2 : 0 < d) (sa : Sm a) (sb : Sm b) (sc : Sm c) (sd : Sm d) :
    Evp (tCl (spBin K g) (fun _ => E0) (tCons ta (tCons tb tNil))) σ H (FrAt K (g (rt a b) (rt c d))) :=
  evp_cl ((a, b), (c, d)) (eap2 ha hb) fun vs H1 _ ⟨x, y, e, px, py⟩ => ⟨x, y, e, px, py, h1, h2, sa, sb, sc, sd⟩
theorem Bk.sm {k : Nat} {q : Rat} (h : Bk k q) (hk : k ≤ 2200) : Sm q.num ∧ Sm q.den := ⟨.mk h.n hk, .mk (k := k) (by rw [Int.natAbs_natCast]; exact h.d) hk⟩
theorem evp_binF {g : Rat → Rat → Rat} {ta tb : TE} {p q : Rat} (ha : Evp ta σ H (FrAt K p)) (hb : Evp tb σ H (FrAt K q)) (bp : Bk 2200 p) (bq : Bk 2200 q) :
    Evp (tCl (spBin K g) (fun _ => E0) (tCons ta (tCons tb tNil))) σ H (FrAt K (g p q)) := by
  have s1 := Bk.sm bp (Nat.le_refl _)
  have s2 := Bk.sm bq (Nat.le_refl _)
  have := evp_bin (g := g) ha hb (den_pos' p) (den_pos' q) s1.1 s1.2 s2.1 s2.2
  rw [rt_self, rt_self] at this
  exact this
theorem evp_overF {ta tb : TE} {p q : Rat} (ha : Evp ta σ H (FrAt K p)) (hb : Evp tb σ H (FrAt K q)) (h0 : 0 < q) (bp : Bk 2200 p) (bq : Bk 2200 q) :
    Evp (tCl (spOver K) (fun _ => E0) (tCons ta (tCons tb tNil))) σ H (FrAt K (p / q)) := by
  have s1 := Bk.sm bp (Nat.le_refl _)
  have s2 := Bk.sm bq (Nat.le_refl _)
  have := evp_cl (E := fun _ => E0) (pre := fun a vs H => ∃ x y, vs = [x, y] ∧ PrAt K a.1.1 a.1.2 x H ∧ PrAt K a.2.1 a.2.2 y H ∧ 0 < a.1.2 ∧ 0 < a.2.2 ∧ 0 < a.2.1 ∧ Sm a.1.1 ∧ Sm a.1.2 ∧ Sm a.2.1 ∧ Sm a.2.2) (post := fun a => FrAt K (rt a.1.1 a.1.2 / rt a.2.1 a.2.2)) ((p.num, (p.den : Int)), (q.num, (q.den : Int))) (eap2 ha hb)
    fun vs H1 _ ⟨x, y, e, px, py⟩ => ⟨x, y, e, px, py, den_pos' p, den_pos' q, (num_pos_iff q).mpr h0, s1.1, s1.2, s2.1, s2.2⟩
  rw [show rt p.num p.den = p from rt_self p, show rt q.num q.den = q from rt_self q] at this
  exact this
abbrev sPlus : Stmt := top 18
theorem scPlus : FnScope ["one", "other"] ["one", "other"] (defScope sPlus) := ⟨rfl, rfl, rfl, by decide +kernel, rfl, by decide +kernel, by decide +kernel⟩
theorem ok_plus {f : Addr} {fd : FuncData} (F : Fun K "plus" "plus" sPlus f fd) (cP : Cal P w K mg base CX0 2 "part" (spPart K)) : FnOk P w K mg base CX0 3 f fd ["one", "other"] (spBin K (· + ·)) := by
  refine F.ok scPlus (fun vs H Q E h => ?_) (fun cdv A outer s H vs Q E hr h => ?_)
  · obtain ⟨a, ⟨x, y, rfl, _⟩, _⟩ := h
    rfl
  · obtain ⟨⟨⟨a, b⟩, c, d⟩, ⟨x, y, rfl, px, py, h1, h2, sa, sb, sc, sd⟩, k⟩ := h
    have h1 : 0 < b := h1
    have h2 : 0 < d := h2
    refine ⟨_, pss_one (ps_ret (pe_c0 cP hr (pa_cons (pe_op op_add (pe_op op_mulW (pe_at 0 (pv 0)) (pe_at 1 (pv 1))) (pe_op op_mulW (pe_at 1 (pv 1)) (pe_at 0 (pv 0)))) (pa_cons (pe_op op_mulW (pe_at 0 (pv 0)) (pe_at 1 (pv 1))) pa_nil)))), ?_⟩
    refine sp_ret (evp_part (t := a * d + c * b) (b := b * d) (Evl.ev_op (ev_mulW (ev_fst rfl px) (ev_snd rfl py) sa.wd sd.wd) (ev_mulW (ev_fst rfl py) (ev_snd rfl px) sc.wd sb.wd) Evl.rv_I0) (ev_mulW (ev_snd rfl px) (ev_snd rfl py) sb.wd sd.wd)
      (Int.mul_pos h1 h2) (big_mul (sa.mul sd) (sc.mul sb)).1 (big1 (sb.mul sd))) fun v H1 e p => k v H1 e ?_
    rw [rt_add _ _ _ _ h1 h2] at p
    exact p
abbrev sMinus : Stmt := top 19
theorem scMinus : FnScope ["one", "other"] ["one", "other"] (defScope sMinus) := ⟨rfl, rfl, rfl, by decide +kernel, rfl, by decide +kernel, by decide +kernel⟩
theorem ok_minus {f : Addr} {fd : FuncData} (F : Fun K "minus" "minus" sMinus f fd) (cP : Cal P w K mg base CX0 2 "part" (spPart K)) : FnOk P w K mg base CX0 3 f fd ["one", "other"] (spBin K (· - ·)) := by
  refine F.ok scMinus (fun vs H Q E h => ?_) (fun cdv A outer s H vs Q E hr h => ?_)
  · obtain ⟨a, ⟨x, y, rfl, _⟩, _⟩ := h
    rfl
  · obtain ⟨⟨⟨a, b⟩, c, d⟩, ⟨x, y, rfl, px, py, h1, h2, sa, sb, sc, sd⟩, k⟩ := h
    have h1 : 0 < b := h1
    have h2 : 0 < d := h2
    refine ⟨_, pss_one (ps_ret (pe_c0 cP hr (pa_cons (pe_op op_sub (pe_op op_mulW (pe_at 0 (pv 0)) (pe_at 1 (pv 1))) (pe_op op_mulW (pe_at 1 (pv 1)) (pe_at 0 (pv 0)))) (pa_cons (pe_op op_mulW (pe_at 0 (pv 0)) (pe_at 1 (pv 1))) pa_nil)))), ?_⟩
    refine sp_ret (evp_part (t := a * d - c * b) (b := b * d) (Evl.ev_op (ev_mulW (ev_fst rfl px) (ev_snd rfl py) sa.wd sd.wd) (ev_mulW (ev_fst rfl py) (ev_snd rfl px) sc.wd sb.wd) Evl.rv_I0) (ev_mulW (ev_snd rfl px) (ev_snd rfl py) sb.wd sd.wd)
      (Int.mul_pos h1 h2) (big_mul (sa.mul sd) (sc.mul sb)).2 (big1 (sb.mul sd))) fun v H1 e p => k v H1 e ?_
    rw [rt_sub _ _ _ _ h1 h2] at p
    exact p
abbrev sTimes : Stmt := top 20
theorem scTimes : FnScope ["one", "other"] ["one", "other"] (defScope sTimes) := ⟨rfl, rfl, rfl, by decide +kernel, rfl, by decide +kernel, by decide +kernel⟩
theorem ok_times {f : Addr} {fd : FuncData} (F : Fun K "times" "times" sTimes f fd) (cP : Cal P w K mg base CX0 2 "part" (spPart K)) : FnOk P w K mg base CX0 3 f fd ["one", "other"] (spBin K (· * ·)) := by
  refine F.ok scTimes (fun vs H Q E h => ?_) (fun cdv A outer s H vs Q E hr h => ?_)
  · obtain ⟨a, ⟨x, y, rfl, _⟩, _⟩ := h
    rfl
  · obtain ⟨⟨⟨a, b⟩, c, d⟩, ⟨x, y, rfl, px, py, h1, h2, sa, sb, sc, sd⟩, k⟩ := h
    have h1 : 0 < b := h1
    have h2 : 0 < d := h2
    refine ⟨_, pss_one (ps_ret (pe_c0 cP hr (pa_cons (pe_op op_mulW (pe_at 0 (pv 0)) (pe_at 1 (pv 1))) (pa_cons (pe_op op_mulW (pe_at 0 (pv 0)) (pe_at 1 (pv 1))) pa_nil)))), ?_⟩
    refine sp_ret (evp_part (t := a * c) (b := b * d) (ev_mulW (ev_fst rfl px) (ev_fst rfl py) sa.wd sc.wd) (ev_mulW (ev_snd rfl px) (ev_snd rfl py) sb.wd sd.wd)
      (Int.mul_pos h1 h2) (big1 (sa.mul sc)) (big1 (sb.mul sd))) fun v H1 e p => k v H1 e ?_
    rw [rt_mul _ _ _ _ h1 h2] at p
    exact p
abbrev sOver : Stmt := top 21
theorem scOver : FnScope ["one", "other"] ["one", "other"] (defScope sOver) := ⟨rfl, rfl, rfl, by decide +kernel, rfl, by decide +kernel, by decide +kernel⟩
theorem ok_over {f : Addr} {fd : FuncData} (F : Fun K "over" "over" sOver f fd) (cP : Cal P w K mg base CX0 2 "part" (spPart K)) : FnOk P w K mg base CX0 3 f fd ["one", "other"] (spOver K) := by
  refine F.ok scOver (fun vs H Q E h => ?_) (fun cdv A outer s H vs Q E hr h => ?_)
  · obtain ⟨a, ⟨x, y, rfl, _⟩, _⟩ := h
    rfl
  · obtain ⟨⟨⟨a, b⟩, c, d⟩, ⟨x, y, rfl, px, py, h1, h2, h3, sa, sb, sc, sd⟩, k⟩ := h
    have h1 : 0 < b := h1
    have h2 : 0 < d := h2
    have h3 : 0 < c := h3
    refine ⟨_, pss_one (ps_ret (pe_c0 cP hr (pa_cons (pe_op op_mulW (pe_at 0 (pv 0)) (pe_at 1 (pv 1))) (pa_cons (pe_op op_mulW (pe_at 0 (pv 0)) (pe_at 1 (pv 1))) pa_nil)))), ?_⟩
    refine sp_ret (evp_part (t := a * d) (b := b * c) (ev_mulW (ev_fst rfl px) (ev_snd rfl py) sa.wd sd.wd) (ev_mulW (ev_snd rfl px) (ev_fst rfl py) sb.wd sc.wd)
      (Int.mul_pos h1 h3) (big1 (sa.mul sd)) (big1 (sb.mul sc))) fun v H1 e p => k v H1 e ?_
    rw [rt_div _ _ _ _ h1 h3 h2] at p
    exact p
/-! ### is_less -/
def spLess (K : PySem.W.Frag) : Sp := spS (A := (Int × Int) × (Int × Int)) (fun a vs H => ∃ x y, vs = [x, y] ∧ PrAt K a.1.1 a.1.2 x H ∧ PrAt K a.2.1 a.2.2 y H ∧ 0 < a.1.2 ∧ 0 < a.2.2 ∧ Sm a.1.1 ∧ Sm a.1.2 ∧ Sm a.2.1 ∧ Sm a.2.2)
  (fun a v _ => v = .bl (decide (rt a.1.1 a.1.2 < rt a.2.1 a.2.2)))
theorem ev_less {ta tb : TE} {a b c d : Int} (ha : Evp ta σ H (PrAt K a b)) (hb : Evp tb σ H (PrAt K c d)) (h1 : 0 < b) (h2 : 0 < d) (sa : Sm a) (sb : Sm b) (sc : Sm c) (sd : Sm d) :
    Ev (tCl (spLess K) (fun _ => E0) (tCons ta (tCons tb tNil))) σ H (.bl (decide (rt a b < rt c d))) :=
  (evp_cl ((a, b), (c, d)) (eap2 ha hb) fun vs H1 _ ⟨x, y, e, px, py⟩ => ⟨x, y, e, px, py, h1, h2, sa, sb, sc, sd⟩).ev
theorem ev_lessF {ta tb : TE} {p q : Rat} (ha : Evp ta σ H (FrAt K p)) (hb : Evp tb σ H (FrAt K q)) (bp : Bk 2200 p) (bq : Bk 2200 q) :
    Ev (tCl (spLess K) (fun _ => E0) (tCons ta (tCons tb tNil))) σ H (.bl (decide (p < q))) := by
  have s1 := Bk.sm bp (Nat.le_refl _)
  have s2 := Bk.sm bq (Nat.le_refl _)
  have := ev_less ha hb (den_pos' p) (den_pos' q) s1.1 s1.2 s2.1 s2.2
  rw [rt_self, rt_self] at this
  exact this
abbrev sLessT : Stmt := top 22
theorem scLess : FnScope ["one", "other"] ["one", "other"] (defScope sLessT) := ⟨rfl, rfl, rfl, by decide +kernel, rfl, by decide +kernel, by decide +kernel⟩
theorem ok_less {f : Addr} {fd : FuncData} (F : Fun K "is_less" "is_less" sLessT f fd) : FnOk P w K mg base CX0 1 f fd ["one", "other"] (spLess K) := by
  refine F.ok scLess (fun vs H Q E h => ?_) (fun cdv A outer s H vs Q E hr h => ?_)
  · obtain ⟨a, ⟨x, y, rfl, _⟩, _⟩ := h
    rfl
  · obtain ⟨⟨⟨a, b⟩, c, d⟩, ⟨x, y, rfl, px, py, h1, h2, sa, sb, sc, sd⟩, k⟩ := h
    have h1 : 0 < b := h1
    have h2 : 0 < d := h2
    refine ⟨_, pss_one (ps_ret (pe_cmpR op_lt (pe_op op_mulW (pe_at 0 (pv 0)) (pe_at 1 (pv 1))) (pe_op op_mulW (pe_at 1 (pv 1)) (pe_at 0 (pv 0))) (nomark _))), ?_⟩
    refine Evl.s_ret (Evl.ev_op (ev_mulW (ev_fst rfl px) (ev_snd rfl py) sa.wd sd.wd) (ev_mulW (ev_fst rfl py) (ev_snd rfl px) sc.wd sb.wd) Evl.rv_I0) fun H1 e => k _ H1 e ?_
    show V.bl _ = V.bl _
    congr 1
    exact decide_eq_decide.mpr (rt_lt _ _ _ _ h1 h2)
end
end WD
set_option Elab.async false
set_option linter.all false
set_option maxRecDepth 100000
set_option maxHeartbeats 4000000
set_option exponentiation.threshold 500000
namespace WD
open PySem PySem.Spec PyProof.Rows L2 WR WK
open Evl (Ex Ev EvL EvU EvT EvA EvO RV ex_l ex_t)
section
variable {P : Program} {w : World} {K : PySem.W.Frag} {mg : Str → Option Value} {base : Heap} {H : Hp} {σ : L2.St}
/-! ### isinstance, len -/
theorem tyx_tup {a : Addr} {xs : List V} (h : SqT K H a xs) : TyX K H (.ref a) (.type "tuple") := by
  rcases h with (h | ⟨o, h⟩) | ⟨o, its, n, h1, h2, _⟩
  · exact .base (.tup h)
  · exact .fTuple h
  · exact .kTuple h1 h2
theorem tyx_lst {a : Addr} {xs : List V} (h : SqL K H a xs) : TyX K H (.ref a) (.type "list") := by
  rcases h with (h | ⟨o, h⟩) | ⟨o, its, n, h1, h2, _⟩
  · exact .base (.lst h)
  · exact .base (.frz h)
  · exact .kList h1 h2
theorem ev_isi {ta : TE} {x : V} {t c : String} {b : Bool} (ha : Ev ta σ H x) (ht : ∀ H1, Ex H H1 → TyX K H1 x (.type t)) (hk : kitB t c = some b) : Ev (tCB (rIsi K) (tCons ta (tCons (tC (.ty c)) tNil))) σ H (.bl b) := fun H1 e Q q =>
  ha H1 e _ fun H2 e2 => ⟨x, _, .type t, .type c, b, rfl, .ty c, ht H2 (e.trans e2), kit_ty hk, q H2 e2⟩
theorem ev_lenT {ta : TE} {p : Addr} {xs : List V} (ha : Ev ta σ H (.ref p)) (h : SqT K H p xs) : Ev (tCB (Evl.rLenS K) (tCons ta tNil)) σ H (.int (xs.length : Int)) := fun H1 e Q q =>
  ha H1 e _ fun H2 e2 => ⟨p, xs, rfl, Or.inr (ex_t (e.trans e2) h), q H2 e2⟩
/-! ### size_of -/
def spSize (K : PySem.W.Frag) : Sp := spS (A := Rat) (fun q vs H => ∃ x, vs = [x] ∧ FrAt K q x H) (fun q => FrAt K (abR q))
theorem evp_size {ta : TE} {q : Rat} (ha : Evp ta σ H (FrAt K q)) : Evp (tCl (spSize K) (fun _ => E0) (tCons ta tNil)) σ H (FrAt K (abR q)) := evp_cl q (eap1 ha) fun vs H1 _ h => h
abbrev sSize : Stmt := top 24
theorem scSize : FnScope ["one"] ["one"] (defScope sSize) := ⟨rfl, rfl, rfl, by decide +kernel, rfl, by decide +kernel, by decide +kernel⟩
theorem ok_size {f fd} (F : Fun K "size_of" "size_of" sSize f fd) (B : Bl mg) : FnOk P w K mg base CX0 1 f fd ["one"] (spSize K) := by
  refine F.ok scSize (fun vs H Q E h => ?_) (fun cdv A outer s H vs Q E hr h => ?_)
  · obtain ⟨a, ⟨x, rfl, _⟩, _⟩ := h
    rfl
  · obtain ⟨q, ⟨x, rfl, px⟩, k⟩ := h
    refine ⟨_, pss_one (ps_ret (pe_tup (pa_cons (pe_callB call_abs rfl B.abs (by decide +kernel) (pa_cons (pe_at 0 (pv 0)) pa_nil)) (pa_cons (pe_at 0 (pv 0)) pa_nil)))), ?_⟩
    refine Evl.s_retU (Evl.eu_tup (Evl.ea_cons (ev_abs (ev_fst rfl px)) (Evl.ea_cons (ev_snd rfl px) Evl.ea_nil)) (by show 2 ≤ 100000; decide)) fun p H3 hp e3 h3 => ?_
    refine k _ _ e3 ⟨p, rfl, ?_⟩
    have e : (abR q).num = (q.num.natAbs : Int) := by
      rw [abR_num]
      split <;> omega
    rw [e, abR_den]
    exact SqT.of h3
/-! ### greatest -/
def spGreat (K : PySem.W.Frag) : Sp := spS (A := Rat × List Rat) (fun a vs H => (∃ x, vs = [x] ∧ FrsL K (a.1 :: a.2) x H) ∧ a.2.length < 10000 ∧ ∀ q ∈ a.1 :: a.2, Bk 2200 q) (fun a => FrAt K (a.2.foldl maxR a.1))
theorem maxR_lt {f d : Rat} (h : f < d) : maxR f d = d := if_pos h
theorem maxR_nlt {f d : Rat} (h : ¬ f < d) : maxR f d = f := if_neg h
abbrev sGreat : Stmt := top 23
theorem scGreat : FnScope ["parts", "found", "one"] ["parts"] (defScope sGreat) := ⟨rfl, rfl, rfl, by decide +kernel, rfl, by decide +kernel, by decide +kernel⟩
theorem ok_great {f fd} (F : Fun K "greatest" "greatest" sGreat f fd) (cL : Cal P w K mg base CX0 1 "is_less" (spLess K)) : FnOk P w K mg base CX0 2 f fd ["parts"] (spGreat K) := by
  refine F.ok scGreat (fun vs H Q E h => ?_) (fun cdv A outer s H vs Q E hr h => ?_)
  · obtain ⟨a, ⟨⟨x, rfl, _⟩, _⟩, _⟩ := h
    rfl
  · obtain ⟨⟨q0, qs⟩, ⟨⟨x, rfl, a, xs, rfl, ha, hq⟩, hlen, hb⟩, k⟩ := h
    refine ⟨_, pss_cons (ps_set (i := 1) scGreat.nd rfl (Or.inl rfl) (pe_ix ix_list (pv 0) pe_int (fun _ _ => rfl)))
      (pss_cons (ps_for PassesOwn.never rfl (pi_list (pe_slice sl_list (pv 0) (po_some pe_int) po_none)) (pg_name (i := 2) scGreat.nd rfl (Or.inl rfl))
        (pss_one (ps_set (i := 1) scGreat.nd rfl (Or.inl rfl) (pe_ifExp (pt_val (pe_c0 cL hr (pa_cons (pv 1) (pa_cons (pv 2) pa_nil)))) (pv 2) (pv 1)))))
      (pss_one (ps_ret (pv 1)))), ?_⟩
    cases hq with
    | @cons v0 _ vs' _ p0 ps =>
    refine Evl.q_asg (Evl.ev_op (Evl.ev_var rfl) Evl.ev_c (Evl.rv_ixL ha (atI_nat (j := 0) rfl))) fun H1 e1 => ?_
    have hcut : cutV (v0 :: vs') (some 1) none = vs' := by
      simp [cutV, HT.sIx]
    refine Evl.q_forNLn (Evl.el_sl (Evl.ev_var rfl) (Evl.eo_some Evl.ev_c) Evl.eo_none (ex_l e1 ha)) (fun p i σ' H' => ∃ v one, σ' = [some (.ref a), some v, one] ∧ FrAt K ((qs.take i).foldl maxR q0) v H' ∧ Ex H H' ∧ SqL K H' p (cutV (v0 :: vs') (some 1) none))
      (fun p H2 hp e2 h2 => ⟨v0, none, rfl, p0.mono (e1.trans e2), e1.trans e2, SqL.of h2⟩) (fun p i σ' H' _ ⟨_, _, _, _, _, h⟩ => h) ?_ ?_
    · rintro p i x σ' H' hx ⟨v, one, rfl, pv1, e', hp⟩
      rw [hcut] at hx
      obtain ⟨q, hq, px⟩ := Paired.get' ps hx
      have bq : Bk 2200 q := hb q (List.mem_cons_of_mem _ (List.mem_of_getElem? hq))
      have bf : Bk 2200 ((qs.take i).foldl maxR q0) := Bk.foldMax _ _ (hb q0 (List.mem_cons_self ..)) fun q hq => hb q (List.mem_cons_of_mem _ (List.mem_of_mem_take hq))
      have px := px.mono e'
      have es : (qs.take (i + 1)).foldl maxR q0 = maxR ((qs.take i).foldl maxR q0) q := by rw [List.take_add_one, hq, List.foldl_append]; rfl
      refine sp_set1 (P := FrAt K ((qs.take (i + 1)).foldl maxR q0)) (evp_if (Evl.et_B (ev_lessF (Evp.var rfl pv1) (Evp.var rfl px) bf bq)) (fun hb => ?_) (fun hb => ?_)) fun v2 H2 e2 p2 => ⟨v2, some x, rfl, p2, e'.trans e2, ex_l e2 hp⟩
      · refine (Evp.var (P := FrAt K q) rfl px).cast ?_
        rw [es, maxR_lt (of_decide_eq_true hb)]
      · refine (Evp.var (P := FrAt K _) rfl pv1).cast ?_
        rw [es, maxR_nlt (of_decide_eq_false hb)]
    · rintro p σ' H' ⟨v, one, rfl, pv1, e', hp⟩
      rw [hcut, ps.length, List.take_length] at pv1
      exact Evl.s_ret (Evl.ev_var rfl) fun H2 e2 => k _ _ (e'.trans e2) (pv1.mono e2)
/-! ### total: a tuple -/
def spTotal (K : PySem.W.Frag) : Sp := spS (A := List Rat) (fun qs vs H => (∃ x, vs = [x] ∧ FrsT K qs x H) ∧ qs.length ≤ 10 ∧ ∀ q ∈ qs, Bk 100 q) (fun qs => FrAt K qs.sum)
theorem sum_snoc (l : List Rat) (a : Rat) : (l ++ [a]).sum = l.sum + a := by
  induction l with
  | nil => simp; grind
  | cons b l ih => simp [ih]; grind
theorem sum_next {qs : List Rat} {i : Nat} {q : Rat} (h : qs[i]? = some q) : (qs.take (i + 1)).sum = (qs.take i).sum + q := by
  rw [List.take_add_one, h, ← sum_snoc]
  rfl
abbrev sTotal : Stmt := top 25
theorem scTotal : FnScope ["parts", "found", "one"] ["parts"] (defScope sTotal) := ⟨rfl, rfl, rfl, by decide +kernel, rfl, by decide +kernel, by decide +kernel⟩
theorem zero_pr {p : Addr} {H : Hp} (h : H p = some (.tup [.int 0, .int 1])) : FrAt K 0 (.ref p) H := ⟨p, rfl, SqT.of h⟩
theorem ok_total {f fd} (F : Fun K "total" "total" sTotal f fd) (cP : Cal P w K mg base CX0 3 "plus" (spBin K (· + ·))) : FnOk P w K mg base CX0 4 f fd ["parts"] (spTotal K) := by
  refine F.ok scTotal (fun vs H Q E h => ?_) (fun cdv A outer s H vs Q E hr h => ?_)
  · obtain ⟨a, ⟨⟨x, rfl, _⟩, _⟩, _⟩ := h
    rfl
  · obtain ⟨qs, ⟨⟨x, rfl, a, xs, rfl, ha, hq⟩, hlen, hb⟩, k⟩ := h
    refine ⟨_, pss_cons (ps_set (i := 1) scTotal.nd rfl (Or.inl rfl) (pe_tup (pa_cons pe_int (pa_cons pe_int pa_nil))))
      (pss_cons (ps_for PassesOwn.never rfl (pi_tup (pv 0)) (pg_name (i := 2) scTotal.nd rfl (Or.inl rfl))
        (pss_one (ps_set (i := 1) scTotal.nd rfl (Or.inl rfl) (pe_c0 cP hr (pa_cons (pv 1) (pa_cons (pv 2) pa_nil))))))
      (pss_one (ps_ret (pv 1)))), ?_⟩
    refine Evl.q_asgU (Evl.eu_tup (Evl.ea_cons Evl.ev_c (Evl.ea_cons Evl.ev_c Evl.ea_nil)) (by show 2 ≤ 100000; decide)) fun p0 H1 hp0 e1 h1 => ?_
    refine Evl.q_forT (a := a) (xs := xs) (Evl.ev_var rfl) (ex_t e1 ha) (fun i σ' H' => ∃ v one, σ' = [some (.ref a), some v, one] ∧ FrAt K ((qs.take i).sum) v H' ∧ Ex H H')
      (fun H2 e2 => ⟨_, none, rfl, (zero_pr h1).mono e2, e1.trans e2⟩) (fun i σ' H' _ ⟨_, _, _, _, e⟩ => ex_t e ha) ?_ ?_
    · rintro i x σ' H' hx ⟨v, one, rfl, pv1, e'⟩
      obtain ⟨q, hq', px⟩ := Paired.get' hq hx
      have bq : Bk 2200 q := (hb q (List.mem_of_getElem? hq')).mono (by decide)
      have hl : (qs.take i).length ≤ 10 := by
        have := hlen
        rw [List.length_take]
        omega
      have bf : Bk 2200 ((qs.take i).sum) := (Bk.sum (k := 100) _ fun q hq => hb q (List.mem_of_mem_take hq)).mono (by omega)
      have px := px.mono e'
      refine sp_set1 (P := FrAt K ((qs.take (i + 1)).sum)) ?_ fun v2 H2 e2 p2 => ⟨v2, some x, rfl, p2, e'.trans e2⟩
      rw [sum_next hq']
      exact evp_binF (g := (· + ·)) (Evp.var rfl pv1) (Evp.var rfl px) bf bq
    · rintro σ' H' ⟨v, one, rfl, pv1, e'⟩
      rw [hq.length, List.take_length] at pv1
      exact Evl.s_ret (Evl.ev_var rfl) fun H2 e2 => k _ _ (e'.trans e2) (pv1.mono e2)
/-! ### is_whole, is_part, as_part -/
inductive Th where
  | i (n : Int)
  | p (n d : Int)
  | no
def ThAt (K : PySem.W.Frag) : Th → Hpr
  | .i n => fun v _ => v = .int n
  | .p n d => PrAt K n d
  | .no => fun v _ => v = .non
instance mon_th {t : Th} : Mon (ThAt K t) := ⟨fun v H H' e h => by
  cases t with
  | i n => exact h
  | p n d => exact PrAt.mono e h
  | no => exact h⟩
def Th.isPart : Th → Bool
  | .i _ => true
  | .p _ d => decide (1 ≤ d)
  | .no => false
def Th.val : Th → Rat
  | .i n => rt n 1
  | .p n d => rt n d
  | .no => 0
def Th.small : Th → Prop
  | .i n => n.natAbs < 2 ^ 4500
  | .p n d => n.natAbs < 2 ^ 4500 ∧ d.natAbs < 2 ^ 4500
  | .no => True
def spWhole : Sp := spS (A := Option Int) (fun o vs _ => vs = [match o with | some i => .int i | none => .non]) (fun o v _ => v = .bl o.isSome)
theorem ev_whole {ta : TE} (o : Option Int) (ha : Ev ta σ H (match o with | some i => .int i | none => .non)) : Ev (tCl spWhole (fun _ => E0) (tCons ta tNil)) σ H (.bl o.isSome) :=
  (evp_cl o (eap_ea (Evl.ea_cons ha Evl.ea_nil)) fun vs H1 _ e => e).ev
abbrev sWhole : Stmt := top 13
theorem scWhole : FnScope ["thing"] ["thing"] (defScope sWhole) := ⟨rfl, rfl, rfl, by decide +kernel, rfl, by decide +kernel, by decide +kernel⟩
theorem ok_whole {f fd} (F : Fun K "is_whole" "is_whole" sWhole f fd) (B : Bl mg) : FnOk P w K mg base CX0 1 f fd ["thing"] spWhole := by
  refine F.ok scWhole (fun vs H Q E h => ?_) (fun cdv A outer s H vs Q E hr h => ?_)
  · obtain ⟨a, rfl, _⟩ := h
    rfl
  · obtain ⟨o, rfl, k⟩ := h
    refine ⟨_, pss_one (ps_ret (pe_and (pe_callB call_isi rfl B.isi (by decide +kernel) (pa_cons (pv 0) (pa_cons (pe_bltn rfl B.int (by decide +kernel) (v := .ty "int") rfl) pa_nil)))
      (pe_one (pe_not (pe_callB call_isi rfl B.isi (by decide +kernel) (pa_cons (pv 0) (pa_cons (pe_bltn rfl B.bool (by decide +kernel) (v := .ty "bool") rfl) pa_nil))))))), ?_⟩
    cases o with
    | some i =>
      refine Evl.s_ret (Evl.ev_andV (ev_isi (t := "int") (b := true) (Evl.ev_var rfl) (fun _ _ => .base (.int i)) (by decide +kernel)) fun _ => Evl.ev_notV (ev_isi (t := "int") (b := false) (Evl.ev_var rfl) (fun _ _ => .base (.int i)) (by decide +kernel))) fun H1 e => k _ H1 e rfl
    | none =>
      refine Evl.s_ret (Evl.ev_andV (b := false) (ev_isi (t := "NoneType") (b := false) (Evl.ev_var rfl) (fun _ _ => .base .non) (by decide +kernel)) fun h => by cases h) fun H1 e => k _ H1 e rfl
def spIsPart (K : PySem.W.Frag) : Sp := spS (A := Th) (fun t vs H => ∃ x, vs = [x] ∧ ThAt K t x H) (fun t v _ => v = .bl t.isPart)
theorem ev_isPart {ta : TE} {t : Th} (ha : Evp ta σ H (ThAt K t)) : Ev (tCl (spIsPart K) (fun _ => E0) (tCons ta tNil)) σ H (.bl t.isPart) := (evp_cl t (eap1 ha) fun vs H1 _ h => h).ev
abbrev sIsPart : Stmt := top 16
theorem scIsPart : FnScope ["thing"] ["thing"] (defScope sIsPart) := ⟨rfl, rfl, rfl, by decide +kernel, rfl, by decide +kernel, by decide +kernel⟩
theorem ok_isPart {f fd} (F : Fun K "is_part" "is_part" sIsPart f fd) (B : Bl mg) (cW : Cal P w K mg base CX0 1 "is_whole" spWhole) : FnOk P w K mg base CX0 2 f fd ["thing"] (spIsPart K) := by
  refine F.ok scIsPart (fun vs H Q E h => ?_) (fun cdv A outer s H vs Q E hr h => ?_)
  · obtain ⟨a, ⟨x, rfl, _⟩, _⟩ := h
    rfl
  · obtain ⟨t, ⟨x, rfl, hx⟩, k⟩ := h
    refine ⟨_, pss_cons (ps_if (pt_val (pe_callB call_isi rfl B.isi (by decide +kernel) (pa_cons (pv 0) (pa_cons (pe_bltn rfl B.tup (by decide +kernel) (v := .ty "tuple") rfl) pa_nil))))
      (pss_one (ps_ret (pe_and (pe_cmpR op_eq (pe_callB call_len_seq rfl B.len (by decide +kernel) (pa_cons (pv 0) pa_nil)) pe_int (nomark _)) (pe_and (pe_c0 cW hr (pa_cons (pe_at 0 (pv 0)) pa_nil)) (pe_and (pe_c0 cW hr (pa_cons (pe_at 0 (pv 0)) pa_nil)) (pe_one (pe_cmpR op_ge (pe_at 0 (pv 0)) pe_int (nomark _)))))))) pss_nil)
      (pss_one (ps_ret (pe_c0 cW hr (pa_cons (pv 0) pa_nil)))), ?_⟩
    cases t with
    | p n d =>
      have hx : PrAt K n d x H := hx
      obtain ⟨a, rfl, ha⟩ := id hx
      refine Evl.q_if (b := true) (Evl.et_B (ev_isi (t := "tuple") (Evl.ev_var rfl) (fun H1 e => tyx_tup (ex_t e ha)) (by decide +kernel))) (fun _ H1 e1 => ?_) (fun h => by cases h)
      have hx1 := hx.mono e1
      refine Evl.s_ret (Evl.ev_andV (a := true) (Evl.ev_is (Evl.ev_op (ev_lenT (Evl.ev_var rfl) (ex_t e1 ha)) Evl.ev_c (Evl.rv_eq rfl)) rfl) fun _ => Evl.ev_andV (ev_whole (some n) (ev_fst rfl hx1)) fun _ => Evl.ev_andV (ev_whole (some d) (ev_snd rfl hx1)) fun _ => Evl.ev_op (ev_snd rfl hx1) Evl.ev_c Evl.rv_I0) fun H2 e2 => k _ H2 (e1.trans e2) ?_
      show V.bl _ = V.bl (decide (1 ≤ d))
      simp
    | i n =>
      cases (show x = .int n from hx)
      refine Evl.q_if (b := false) (Evl.et_B (ev_isi (t := "int") (Evl.ev_var rfl) (fun H1 e => .base (.int n)) (by decide +kernel))) (fun h => by cases h) (fun _ H1 e1 => ?_)
      exact Evl.s_ret (ev_whole (some n) (Evl.ev_var rfl)) fun H2 e2 => k _ H2 (e1.trans e2) rfl
    | no =>
      cases (show x = .non from hx)
      refine Evl.q_if (b := false) (Evl.et_B (ev_isi (t := "NoneType") (Evl.ev_var rfl) (fun H1 e => .base .non) (by decide +kernel))) (fun h => by cases h) (fun _ H1 e1 => ?_)
      exact Evl.s_ret (ev_whole none (Evl.ev_var rfl)) fun H2 e2 => k _ H2 (e1.trans e2) rfl
/-- an own error of the base ValueError, without __init__ -/
structure ErrTxt (K : PySem.W.Frag) (mg : Str → Option Value) (x : Str) (C : Addr) : Prop where
  g : mg x = some (.ref C)
  xI : PySem.W.excIn K C [.type "ValueError", .type "Exception", .type "BaseException", .type "object"] "ValueError.__new__" = true
  kp : PySem.W.keepIn K (.ref C) = true
  b : PySem.W.subIn K (.ref C) (.type "BaseException") = some true
  t : PySem.W.typeIn K (.ref C) = some (.type "type")
  i : PySem.W.isClsIn K C = true
  s : PySem.W.subIn K (.ref C) (.ref C) = some true
def spAsPart (K : PySem.W.Frag) (CN : Addr) : Sp := fun vs H Q E => ∃ x t, vs = [x] ∧ ThAt K t x H ∧ t.small ∧ (t.isPart = true → ∀ v H', Ex H H' → FrAt K t.val v H' → Q v H') ∧ (t.isPart = false → ∀ H', Ex H H' → E (.ref CN) none H')
abbrev sAsPart : Stmt := top 17
theorem scAsPart : FnScope ["thing"] ["thing"] (defScope sAsPart) := ⟨rfl, rfl, rfl, by decide +kernel, rfl, by decide +kernel, by decide +kernel⟩
def spPart1 (K : PySem.W.Frag) : Sp := spS (A := Int) (fun a vs _ => vs = [.int a] ∧ a.natAbs < 2 ^ 4500) (fun a => FrAt K (rt a 1))
theorem evp_part1 {ta : TE} {t : Int} (ha : Ev ta σ H (.int t)) (h1 : t.natAbs < 2 ^ 4500) : Evp (tCl (spPart1 K) (fun _ => E0) (tCons ta tNil)) σ H (FrAt K (rt t 1)) :=
  evp_cl t (eap_ea (Evl.ea_cons ha Evl.ea_nil)) fun vs H1 _ e => ⟨e, h1⟩
theorem ok_asPart {f fd CN} (F : Fun K "as_part" "as_part" sAsPart f fd) (B : Bl mg) (T : ErrTxt K mg "BadNumber" CN) (cI : Cal P w K mg base CX0 2 "is_part" (spIsPart K)) (cP : Cal P w K mg base CX0 2 "part" (spPart K)) (cP1 : Cal P w K mg base CX0 2 "part" (spPart1 K)) :
    FnOk P w K mg base (L2.CX P w) 3 f fd ["thing"] (spAsPart K CN) := by
  refine F.okX scAsPart (fun vs H Q E h => ?_) (fun cdv A outer s H vs Q E hr h => ?_)
  · obtain ⟨a, t, rfl, _⟩ := h
    rfl
  · obtain ⟨x, t, rfl, hx, hs, k1, k2⟩ := h
    refine ⟨_, pss_cons (ps_if (pt_not (pt_val (pe_c0 cI hr (pa_cons (pv 0) pa_nil)))) (pss_one (ps_raise rfl (takes_of rfl rfl rfl rfl) (pmk_own PySem.F.excBase_ValueError T.xI T.g T.kp (raises_own T.b T.t) rfl))) pss_nil)
      (PSs.nox (pss_one (ps_ret (pe_ifExp (pt_val (pe_callB call_isi rfl B.isi (by decide +kernel) (pa_cons (pv 0) (pa_cons (pe_bltn rfl B.tup (by decide +kernel) (v := .ty "tuple") rfl) pa_nil))))
        (pe_c0 cP hr (pa_cons (pe_at 0 (pv 0)) (pa_cons (pe_at 0 (pv 0)) pa_nil))) (pe_c0 cP1 hr (pa_cons (pv 0) pa_nil)))))), ?_⟩
    refine Evl.q_if (Evl.et_not (Evl.et_B (ev_isPart (Evp.var rfl hx)))) (fun hb H1 e1 => ?_) (fun hb H1 e1 => ?_)
    · exact k2 (by simpa using hb) H1 e1
    · have hb : t.isPart = true := by simpa using hb
      cases t with
      | p n d =>
        have hx : PrAt K n d x H := hx
        obtain ⟨a, rfl, ha⟩ := id hx
        have hd : 1 ≤ d := of_decide_eq_true hb
        exact sp_ret (evp_if (P := FrAt K (rt n d)) (b := true) (Evl.et_B (ev_isi (t := "tuple") (Evl.ev_var rfl) (fun H2 e => tyx_tup (ex_t (e1.trans e) ha)) (by decide +kernel))) (fun _ => evp_part (ev_fst rfl (hx.mono e1)) (ev_snd rfl (hx.mono e1)) (by omega) hs.1 hs.2) (fun h => by cases h)) fun v H2 e2 p => k1 hb v H2 (e1.trans e2) p
      | i n =>
        cases (show x = .int n from hx)
        exact sp_ret (evp_if (P := FrAt K (rt n 1)) (b := false) (Evl.et_B (ev_isi (t := "int") (Evl.ev_var rfl) (fun H2 e => .base (.int n)) (by decide +kernel))) (fun h => by cases h) (fun _ => evp_part1 (Evl.ev_var rfl) hs)) fun v H2 e2 p => k1 hb v H2 (e1.trans e2) p
      | no => cases hb
end
end WD
set_option Elab.async false
set_option linter.all false
set_option maxRecDepth 100000
set_option maxHeartbeats 4000000
set_option exponentiation.threshold 500000
namespace WD
open PySem PySem.Spec PyProof.Rows L2 WR WK
open Evl (Ex Ev EvL EvU EvT EvA EvO RV ex_l ex_t)
section
variable {P : Program} {w : World} {K : PySem.W.Frag} {mg : Str → Option Value} {base : Heap} {H H' : Hp} {σ : L2.St} {C : Addr}
/-! ### small pieces -/
theorem ev_intsLen {ta : TE} {as : List Int} (ha : Evp ta σ H (IntsT K as)) : Ev (tCB (Evl.rLenS K) (tCons ta tNil)) σ H (.int (as.length : Int)) := fun H1 e Q q =>
  ha H1 e _ fun v H2 e2 ⟨a, ev, s⟩ => ⟨a, as.map V.int, by rw [ev], .inr s, by rw [List.length_map]; exact q H2 e2⟩
theorem ev_all {ta : TE} {bs : List Bool} (h : Evp ta σ H fun v H => ∃ a, v = .ref a ∧ SqL K H a (bs.map V.bl)) : Ev (tCB (rAll K) (tCons ta tNil)) σ H (.bl (bs.all id)) := fun H1 e Q q =>
  h H1 e _ fun v H2 e2 ⟨a, ev, s⟩ => ⟨a, bs, by rw [ev], s, q H2 e2⟩
theorem LstP.trues {n : Nat} {v : V} (h : LstP n (fun _ v _ => v = .bl true) v H) : ∃ a, v = .ref a ∧ SqL K H a ((List.replicate n true).map V.bl) := by
  obtain ⟨a, xs, r, hx, hl, hF⟩ := h
  refine ⟨a, r, SqL.of ?_⟩
  rw [hx]
  congr 2
  apply List.ext_getElem (by simp [hl])
  intro i h1 h2
  have := hF i xs[i] (List.getElem?_eq_getElem h1)
  simp [this]
theorem all_rep (n : Nat) : (List.replicate n true).all id = true := by simp
theorem ev_chain {r r' : R2} {ta tb tc : TE} {x y z : V} {b c : Bool} (ha : Ev ta σ H x) (hb : Ev tb σ H y) (hr : RV r x y H (.bl b)) (hc : b = true → Ev tc σ H z) (hr' : b = true → RV r' y z H (.bl c)) : Ev (tChain r r' ta tb tc) σ H (.bl (b && c)) := fun H1 e Q q =>
  ha H1 e _ fun H2 e2 => hb H2 (e.trans e2) _ fun H3 e3 => hr H3 ((e.trans e2).trans e3) _ fun H4 e4 => ⟨b, rfl, by
    cases b with
    | true => exact hc rfl H4 (((e.trans e2).trans e3).trans e4) _ fun H5 e5 => hr' rfl H5 ((((e.trans e2).trans e3).trans e4).trans e5) Q fun H6 e6 => q H6 ((((e2.trans e3).trans e4).trans e5).trans e6)
    | false => exact q H4 ((e2.trans e3).trans e4)⟩
/-! ### is_areas -/
def spAreas (K : PySem.W.Frag) : Sp := spS (A := List Int) (fun as vs H => (∃ x, vs = [x] ∧ IntsT K as x H) ∧ 1 ≤ as.length ∧ as.length ≤ 24 ∧ ∀ a ∈ as, 1 ≤ a ∧ a ≤ 1000) (fun _ v _ => v = .bl true)
/-- the module's numbers -/
structure Nums (mg : Str → Option Value) : Prop where
  bas : ∃ t, mg "MOST_BASINS" = some (.int 24 t)
  are : ∃ t, mg "MOST_AREA" = some (.int 1000 t)
  ord : ∃ t, mg "MOST_ORDER" = some (.int 20000 t)
  rnd : ∃ t, mg "MOST_ROUNDS" = some (.int 300 t)
abbrev sAreas : Stmt := top 30
theorem scAreas : FnScope ["thing", "one"] ["thing"] (defScope sAreas) := ⟨rfl, rfl, rfl, by decide +kernel, rfl, by decide +kernel, by decide +kernel⟩
theorem ok_areas {f fd} (F : Fun K "is_areas" "is_areas" sAreas f fd) (B : Bl mg) (N : Nums mg) (cW : Cal P w K mg base CX0 1 "is_whole" spWhole) : FnOk P w K mg base CX0 2 f fd ["thing"] (spAreas K) := by
  obtain ⟨t1, n1⟩ := N.bas
  obtain ⟨t2, n2⟩ := N.are
  refine F.ok scAreas (fun vs H Q E h => ?_) (fun cdv A outer s H vs Q E hr h => ?_)
  · obtain ⟨a, ⟨⟨x, rfl, _⟩, _⟩, _⟩ := h
    rfl
  · obtain ⟨as, ⟨⟨x, rfl, a, rfl, ha⟩, h1, h24, hA⟩, k⟩ := h
    refine ⟨_, pss_cons (ps_if (PW.pt (pw_or (pt_not (pt_val (pe_callB call_isi rfl B.isi (by decide +kernel) (pa_cons (pv 0) (pa_cons (pe_bltn rfl B.tup (by decide +kernel) (v := .ty "tuple") rfl) pa_nil)))))
        (pw_or1 (pt_not (pt_chain op_le op_le pe_int (pe_callB call_len_seq rfl B.len (by decide +kernel) (pa_cons (pv 0) pa_nil)) (pe_glob rfl n1 (v := .int 24) ⟨_, rfl⟩)))))) (pss_one ps_never) pss_nil)
      (pss_one (ps_ret (pe_callB (cr_all rfl) rfl B.all (by decide +kernel) (pa_cons (pe_lc (own := [("one", 1)]) (g := gName 1) (tt := tYes) rfl scAreas.nd (pi_tup (pv 0)) (blkOk_by (N := ["thing", "one"]) (sc := defScope sAreas) (by decide +kernel))
        (fun _ _ _ _ _ => pg_name (i := 1) scAreas.nd rfl (Or.inl rfl)) (fun _ _ _ _ _ => pts_nil)
        (fun _ _ _ _ _ => pe_and (pe_c0 cW hr (pa_cons (pv 1) pa_nil)) (pe_one (pe_chain op_le op_le pe_int (pv 1) (pe_glob rfl n2 (v := .int 1000) ⟨_, rfl⟩))))) pa_nil)))), ?_⟩
    refine Evl.q_if (b := false) (Evl.et_is (Evl.et_or (Evl.et_not (Evl.et_B (ev_isi (b := true) (t := "tuple") (Evl.ev_var rfl) (fun H1 e => tyx_tup (ex_t e ha)) (by decide +kernel))))
      (fun _ => Evl.et_not (Evl.et_test (ev_chain Evl.ev_c (ev_intsLen (as := as) (.var rfl ⟨a, rfl, ha⟩)) Evl.rv_I0 (fun _ => Evl.ev_c) (fun _ => Evl.rv_I0))))) ?_) (fun h => by cases h) (fun _ H1 e1 => ?_)
    · have h1' : (1 : Int) ≤ (as.length : Int) := by omega
      have h2' : (as.length : Int) ≤ 24 := by omega
      simp [h1', h2']
    · refine Evl.s_ret (ev_all (bs := List.replicate (as.map V.int).length true) ((evp_lc (wi_tup (xs := as.map V.int) (.var rfl (P := fun v H => ∃ b, v = .ref b ∧ SqT K H b (as.map V.int)) ⟨a, rfl, ex_t e1 ha⟩ (m := mon_intsT))) (fun _ v _ => v = .bl true) (fun _ => mon_eq) (fun _ => lf_eq) (by rw [List.length_map]; omega) ?_).imp fun v H2 _ h => LstP.trues h)) fun H2 e2 => k _ H2 (e1.trans e2) (by rw [all_rep])
      rintro i x H2 H3 hi e2 ⟨rfl, hx⟩
      rw [List.getElem?_map] at hx
      obtain ⟨n, hn, rfl⟩ := Option.map_eq_some_iff.mp hx
      have hA' := hA n (List.mem_of_getElem? hn)
      refine ⟨Ex.refl _, _, fun R r => r, rfl, ev_evp (Evl.ev_is (Evl.ev_andV (ev_whole (some n) (Evl.ev_var rfl)) fun _ => ev_chain Evl.ev_c (Evl.ev_var rfl) Evl.rv_I0 (fun _ => Evl.ev_c) (fun _ => Evl.rv_I0)) ?_)⟩
      simp [hA'.1, hA'.2]
end
end WD
set_option Elab.async false
set_option linter.all false
set_option maxRecDepth 100000
set_option maxHeartbeats 4000000
set_option exponentiation.threshold 500000
namespace WD
open PySem PySem.Spec PyProof.Rows L2 WR WK
open Evl (Ex Ev EvL EvU EvT EvA EvO RV ex_l ex_t)
/-! ### a row in the heap -/
def rowF (aa av al : Addr) : List (Str × V) := [("areas", .ref aa), ("volumes", .ref av), ("locks", .ref al)]
theorem n_av : ¬ ("areas" : Str) = "volumes" := by decide +kernel
theorem n_al : ¬ ("areas" : Str) = "locks" := by decide +kernel
theorem n_vl : ¬ ("volumes" : Str) = "locks" := by decide +kernel
theorem rowF_put (aa av al : Addr) : putF "locks" (.ref al) (putF "volumes" (.ref av) (putF "areas" (.ref aa) [])) = rowF aa av al := by
  show putF "locks" (.ref al) (if ("areas" : Str) = "volumes" then _ else (("areas" : Str), V.ref aa) :: [(("volumes" : Str), V.ref av)]) = _
  rw [if_neg n_av]
  show (if ("areas" : Str) = "locks" then _ else (("areas" : Str), V.ref aa) :: (if ("volumes" : Str) = "locks" then _ else (("volumes" : Str), V.ref av) :: [(("locks" : Str), V.ref al)])) = _
  rw [if_neg n_al, if_neg n_vl]
  rfl
theorem rowF_a (aa av al : Addr) : (rowF aa av al).lookup ("areas" : Str) = some (.ref aa) := by rw [← rowF_put, lookup_putF, if_neg (by decide +kernel), lookup_putF, if_neg (by decide +kernel), lookup_putF, if_pos rfl]
theorem rowF_v (aa av al : Addr) : (rowF aa av al).lookup ("volumes" : Str) = some (.ref av) := by rw [← rowF_put, lookup_putF, if_neg (by decide +kernel), lookup_putF, if_pos rfl]
theorem rowF_l (aa av al : Addr) : (rowF aa av al).lookup ("locks" : Str) = some (.ref al) := by rw [← rowF_put, lookup_putF, if_pos rfl]
theorem rowF_no (aa av al : Addr) {m : Str} (h1 : ¬ m = "areas") (h2 : ¬ m = "volumes") (h3 : ¬ m = "locks") : (rowF aa av al).lookup m = none := by
  rw [← rowF_put, lookup_putF, if_neg h3, lookup_putF, if_neg h2, lookup_putF, if_neg h1]
  rfl
def RowAt (K : PySem.W.Frag) (C : Addr) (as : List Int) (qs : List Rat) (ls : List Int) : Hpr := fun v H => ∃ r dx aa av al xs, v = .ref r ∧ H r = some (.ins C dx (rowF aa av al)) ∧ SqT K H aa (as.map V.int) ∧ SqT K H av xs ∧ Frs K H xs qs ∧ SqT K H al (ls.map V.int)
/-- the class Row as the top leaves it -/
structure RowTxt (K : PySem.W.Frag) (mg : Str → Option Value) (C fI : Addr) : Prop where
  cl : Cls K C
  na : NoAttr K C "areas"
  nv : NoAttr K C "volumes"
  nl : NoAttr K C "locks"
  g : mg "Row" = some (.ref C)
  mc : Mk K C fI
section
variable {P : Program} {w : World} {K : PySem.W.Frag} {mg : Str → Option Value} {base : Heap} {H H' : Hp} {σ : L2.St} {C fI : Addr} {as ls : List Int} {qs : List Rat} {te : TE}
instance mon_row : Mon (RowAt K C as qs ls) := ⟨fun v H H' e ⟨r, dx, aa, av, al, xs, h1, h2, h3, h4, h5, h6⟩ => ⟨r, dx, aa, av, al, xs, h1, e _ _ h2, ex_t e h3, ex_t e h4, h5.mono e, ex_t e h6⟩⟩
instance lf_row : Lf (RowAt K C as qs ls) := ⟨fun v H D xs' ys hD ⟨r, dx, aa, av, al, xs, h1, h2, h3, h4, h5, h6⟩ => ⟨r, dx, aa, av, al, xs, h1, by rw [upd_ne (ne_of h2 hD (by intro q; cases q))]; exact h2, sqT_lf hD h3, sqT_lf hD h4, Paired.mapP h5 fun _ _ h => lf_pr.lf _ _ _ _ _ hD h, sqT_lf hD h6⟩⟩
theorem evp_areas (T : RowTxt K mg C fI) (h : Evp te σ H (RowAt K C as qs ls)) : Evp (tFld K te "areas") σ H (IntsT K as) := fun H1 e Q q => h H1 e _ fun v H2 e2 ⟨r, dx, aa, av, al, xs, h1, h2, h3, h4, h5, h6⟩ =>
  ⟨r, C, dx, _, _, h1, h2, T.cl, T.na, rowF_a aa av al, q _ H2 e2 ⟨aa, rfl, h3⟩⟩
theorem evp_vols (T : RowTxt K mg C fI) (h : Evp te σ H (RowAt K C as qs ls)) : Evp (tFld K te "volumes") σ H (FrsT K qs) := fun H1 e Q q => h H1 e _ fun v H2 e2 ⟨r, dx, aa, av, al, xs, h1, h2, h3, h4, h5, h6⟩ =>
  ⟨r, C, dx, _, _, h1, h2, T.cl, T.nv, rowF_v aa av al, q _ H2 e2 ⟨av, xs, rfl, h4, h5⟩⟩
theorem evp_locks (T : RowTxt K mg C fI) (h : Evp te σ H (RowAt K C as qs ls)) : Evp (tFld K te "locks") σ H (IntsT K ls) := fun H1 e Q q => h H1 e _ fun v H2 e2 ⟨r, dx, aa, av, al, xs, h1, h2, h3, h4, h5, h6⟩ =>
  ⟨r, C, dx, _, _, h1, h2, T.cl, T.nl, rowF_l aa av al, q _ H2 e2 ⟨al, rfl, h6⟩⟩
theorem RowAt.ins {v : V} (h : RowAt K C as qs ls v H) : ∃ r dx fs, v = .ref r ∧ H r = some (.ins C dx fs) := by
  obtain ⟨r, dx, aa, av, al, xs, h1, h2, _⟩ := h
  exact ⟨r, dx, _, h1, h2⟩
/-! ### the heap without an instance -/
def era (p : Addr) (H : Hp) : Hp := fun b => if b = p then none else H b
theorem era_ex (p : Addr) (H : Hp) : Ex (era p H) H := fun b o h => by
  unfold era at h
  split at h
  · cases h
  · exact h
theorem era_at {p b : Addr} {o : HO} (h : H b = some o) (hb : b ≠ p) : era p H b = some o := by
  unfold era
  rw [if_neg hb]
  exact h
theorem era_t {p a dx : Addr} {fs : List (Str × V)} {xs : List V} (hp : H p = some (.ins C dx fs)) (h : SqT K H a xs) : SqT K (era p H) a xs := by
  rcases h with (h | ⟨o, h⟩) | h
  · exact .inl (.inl (era_at h (ne_of h hp (by intro q; cases q))))
  · exact .inl (.inr ⟨o, era_at h (ne_of h hp (by intro q; cases q))⟩)
  · exact .inr h
theorem era_l {p a dx : Addr} {fs : List (Str × V)} {xs : List V} (hp : H p = some (.ins C dx fs)) (h : SqL K H a xs) : SqL K (era p H) a xs := by
  rcases h with (h | ⟨o, h⟩) | h
  · exact .inl (.inl (era_at h (ne_of h hp (by intro q; cases q))))
  · exact .inl (.inr ⟨o, era_at h (ne_of h hp (by intro q; cases q))⟩)
  · exact .inr h
theorem ins_t {p a dx : Addr} {fs : List (Str × V)} {o : HO} {xs : List V} (hp : H p = some (.ins C dx fs)) (h : SqT K H a xs) : SqT K (upd H p o) a xs := by
  rcases h with (h | ⟨o', h⟩) | h
  · exact .inl (.inl (by rw [upd_ne (ne_of h hp (by intro q; cases q))]; exact h))
  · exact .inl (.inr ⟨o', by rw [upd_ne (ne_of h hp (by intro q; cases q))]; exact h⟩)
  · exact .inr h
theorem ins_frs {p dx : Addr} {fs : List (Str × V)} {o : HO} {xs : List V} {qs : List Rat} (hp : H p = some (.ins C dx fs)) (h : Frs K H xs qs) : Frs K (upd H p o) xs qs := Paired.mapP h fun v q ⟨a, r, s⟩ => ⟨a, r, ins_t hp s⟩
theorem era_upd {G H1 : Hp} {p : Addr} {o : HO} (e : Ex G H1) (hp : G p = none) : Ex G (upd H1 p o) := Ex.mut e hp
theorem era_none (p : Addr) (H : Hp) : era p H p = none := by
  unfold era
  rw [if_pos rfl]
theorem s_fld {P : Hpr} {D : Ends} {i : Nat} {f : Str} {p dx : Addr} {fs : List (Str × V)} (h : Evp te σ H P) (ho : σ[i]? = some (some (.ref p))) (hp : H p = some (.ins C dx fs)) (cl : Cls K C) (na : NoAttr K C f) (hl : fs.length < 1000)
    (k : ∀ v H1, Ex H H1 → P v H1 → D.nx σ (upd H1 p (.ins C dx (putF f v fs)))) : sFld K (tVar i) te f D σ H := h H (Ex.refl H) _ fun v H1 e pv => ⟨_, ho, p, C, dx, fs, rfl, e _ _ hp, cl, na, hl, k v H1 e pv⟩
theorem q_fld {P : Hpr} {D : Ends} {tz : TS} {i : Nat} {f : Str} {p dx : Addr} {fs : List (Str × V)} (h : Evp te σ H P) (ho : σ[i]? = some (some (.ref p))) (hp : H p = some (.ins C dx fs)) (cl : Cls K C) (na : NoAttr K C f) (hl : fs.length < 1000)
    (k : ∀ v H1, Ex H H1 → P v H1 → tz D σ (upd H1 p (.ins C dx (putF f v fs)))) : tSeq (sFld K (tVar i) te f) tz D σ H := s_fld (D := { D with nx := tz D }) h ho hp cl na hl k
/-! ### Row.__init__ -/
def Ths (K : PySem.W.Frag) (H : Hp) (xs : List V) (ts : List Th) : Prop := Paired (fun v t => ThAt K t v H) xs ts
structure RowOk (as : List Int) (ts : List Th) (ls : List Int) : Prop where
  n1 : 1 ≤ as.length
  n24 : as.length ≤ 24
  ar : ∀ a ∈ as, 1 ≤ a ∧ a ≤ 1000
  nt : ts.length = as.length
  pt : ∀ t ∈ ts, t.isPart = true ∧ t.small ∧ 0 ≤ t.val.num
  up : ls.Pairwise (· < ·)
  lk : ∀ l ∈ ls, 1 ≤ l ∧ l < (as.length : Int)
  nl : ls.length < 64
def spInit (K : PySem.W.Frag) (C : Addr) : Sp := fun vs H Q _ => ∃ (p dx aa av al : Addr) (as ls : List Int) (ts : List Th) (xs : List V), vs = [.ref p, .ref aa, .ref av, .ref al] ∧ H p = some (.ins C dx []) ∧
  SqT K H aa (as.map V.int) ∧ SqT K H av xs ∧ Ths K H xs ts ∧ SqA K H al (ls.map V.int) ∧ RowOk as ts ls ∧ ∀ H', Ex (era p H) H' → RowAt K C as (ts.map Th.val) ls (.ref p) H' → Q .non H'
abbrev sInit : Stmt := inClass (top 31) 0
theorem scInit : FnScope ["self", "areas", "volumes", "locks", "lock", "one"] ["self", "areas", "volumes", "locks"] (defScope sInit) := ⟨rfl, rfl, rfl, by decide +kernel, rfl, by decide +kernel, by decide +kernel⟩
theorem tyx_seq {a : Addr} {xs : List V} (h : SqA K H a xs) : ∃ t, TyX K H (.ref a) (.type t) ∧ PySem.W.kitAny K (.type t) [.type "list", .type "tuple"] = some true := by
  rcases h with h | h
  · exact ⟨"list", tyx_lst h, kitAny_cons (b := true) (kit_ty (by decide +kernel)) (fun q => by cases q) (fun _ => rfl)⟩
  · exact ⟨"tuple", tyx_tup h, kitAny_cons (b := false) (kit_ty (by decide +kernel)) (fun _ => kitAny_cons (b := true) (kit_ty (by decide +kernel)) (fun q => by cases q) (fun _ => rfl)) (fun q => by cases q)⟩
theorem ev_isLT {ta : TE} {a : Addr} {xs : List V} (ha : Ev ta σ H (.ref a)) (hx : SqA K H a xs) : Ev (tCB (rIsiT K) (tCons ta (tCons (tTup (tCons (tC (.ty "list")) (tCons (tC (.ty "tuple")) tNil))) tNil))) σ H (.bl true) := fun H1 e Q q =>
  ha H1 e _ fun H2 e2 => ⟨(by show 2 ≤ sizeLine; decide), fun p hp => by
    obtain ⟨t, h1, h2⟩ := tyx_seq (hx.ex ((e.trans e2).trans (Ex.new (o := .tup [.ty "list", .ty "tuple"]) hp)))
    exact ⟨_, p, _, .type t, [.type "list", .type "tuple"], true, rfl, upd_same, .cons (.ty "list") (.cons (.ty "tuple") .nil), h1, h2, q _ (e2.trans (Ex.new hp))⟩⟩
def rowV (s a v l : Addr) (k o : Option V) : L2.St := [some (.ref s), some (.ref a), some (.ref v), some (.ref l), k, o]
theorem evp_asPart {CN : Addr} {t : Th} (h : Evp te σ H (ThAt K t)) (h1 : t.isPart = true) (h2 : t.small) : Evp (tCl (spAsPart K CN) (fun _ => E0) (tCons te tNil)) σ H (FrAt K t.val) := fun H1 e Q q => h H1 e _ fun v H2 e2 pv =>
  ⟨v, t, rfl, pv, h2, fun _ v' H3 e3 p => q v' H3 (e2.trans e3) p, fun z => by rw [h1] at z; cases z⟩
theorem ths_frs {n : Nat} {ts : List Th} {v : V} (hn : n = ts.length) (h : LstP n (fun i => FrAt K ((ts.map Th.val).getD i 0)) v H) : ∃ a xs, v = .ref a ∧ H a = some (.lst xs) ∧ Frs K H xs (ts.map Th.val) := LstP.frs (by rw [List.length_map]; exact hn) h
theorem ok_init {dvs kws f fd CN} (F : FunD K "__init__" "Row.__init__" (defArgs sInit) (defBody sInit) (defScope sInit) dvs kws f fd) (B : Bl mg) (T : RowTxt K mg C fI) (cA : Cal P w K mg base CX0 2 "is_areas" (spAreas K)) (cW : Cal P w K mg base CX0 1 "is_whole" spWhole)
    (cI : Cal P w K mg base CX0 2 "is_part" (spIsPart K)) (cP : Cal P w K mg base (L2.CX P w) 3 "as_part" (spAsPart K CN)) : FnOk P w K mg base CX0 4 f fd ["self", "areas", "volumes", "locks"] (spInit K C) := by
  refine F.ok scInit (fun vs H Q E h => ?_) (fun cdv A outer s H vs Q E hr h => ?_)
  · obtain ⟨p, dx, aa, av, al, as, ls, ts, xs, rfl, _⟩ := h
    rfl
  · obtain ⟨p, dx, aa, av, al, as, ls, ts, xs, rfl, hp, ha, hv, ht, hl, ok, k⟩ := h
    have hr2 : Room 2 _ := hr.mono (by decide)
    have hr1 : Room 1 _ := hr.mono (by decide)
    refine ⟨_, PSs.nox (pss_cons (ps_if (PW.pt (pw_or (pt_not (pt_val (pe_c0 cA hr2 (pa_cons (pv 1) pa_nil)))) (pw_or (pt_not (pt_val (pe_callB call_isi rfl B.isi (by decide +kernel) (pa_cons (pv 2) (pa_cons (pe_bltn rfl B.tup (by decide +kernel) (v := .ty "tuple") rfl) pa_nil)))))
        (pw_or1 (pt_cmpR op_ne (pe_callB call_len_seq rfl B.len (by decide +kernel) (pa_cons (pv 2) pa_nil)) (pe_callB call_len_seq rfl B.len (by decide +kernel) (pa_cons (pv 1) pa_nil)) (nomark _)))))) (pss_one ps_never) pss_nil)
      (pss_cons (ps_if (pt_not (pt_val (pe_callB (cr_all rfl) rfl B.all (by decide +kernel) (pa_cons (pe_lc (own := [("one", 5)]) (g := gName 5) (tt := tYes) rfl scInit.nd (pi_tup (pv 2)) (blkOk_by (N := ["self", "areas", "volumes", "locks", "lock", "one"]) (sc := defScope sInit) (by decide +kernel))
          (fun _ _ _ _ _ => pg_name (i := 5) scInit.nd rfl (Or.inl rfl)) (fun _ _ _ _ _ => pts_nil)
          (fun _ _ _ _ _ => pe_and (pe_c0 cI hr2 (pa_cons (pv 5) pa_nil)) (pe_one (pe_cmpR op_ge (pe_ix (r := rIxT K) ix_tup (pe_cX cP hr (pa_cons (pv 5) pa_nil)) pe_int (fun _ _ => rfl)) pe_int (nomark _))))) pa_nil)))) (pss_one ps_never) pss_nil)
      (pss_cons (ps_if (pt_not (pt_val (pe_callB call_isiT rfl B.isi (by decide +kernel) (pa_cons (pv 3) (pa_cons (pe_tup (pa_cons (pe_bltn rfl B.lst (by decide +kernel) (v := .ty "list") rfl) (pa_cons (pe_bltn rfl B.tup (by decide +kernel) (v := .ty "tuple") rfl) pa_nil))) pa_nil))))) (pss_one ps_never) pss_nil)
      (pss_cons (ps_fld (pv 0) (pv 1) rfl)
      (pss_cons (ps_fld (pv 0) (pe_callTy call_tuple_of rfl B.tup (by decide +kernel) (pa_cons (pe_lc (own := [("one", 5)]) (g := gName 5) (tt := tYes) rfl scInit.nd (pi_tup (pv 2)) (blkOk_by (N := ["self", "areas", "volumes", "locks", "lock", "one"]) (sc := defScope sInit) (by decide +kernel))
          (fun _ _ _ _ _ => pg_name (i := 5) scInit.nd rfl (Or.inl rfl)) (fun _ _ _ _ _ => pts_nil) (fun _ _ _ _ _ => pe_cX cP hr (pa_cons (pv 5) pa_nil))) pa_nil)) rfl)
      (pss_cons (ps_for PassesOwn.never rfl (pi_seq 3 (pv 3)) (pg_name (i := 4) scInit.nd rfl (Or.inl rfl))
          (pss_one (ps_if (PW.pt (pw_or (pt_not (pt_val (pe_c0 cW hr1 (pa_cons (pv 4) pa_nil)))) (pw_or1 (pt_not (pt_chain op_le op_lt pe_int (pv 4) (pe_callB call_len_seq rfl B.len (by decide +kernel) (pa_cons (pv 1) pa_nil))))))) (pss_one ps_never) pss_nil)))
      (pss_one (ps_fld (pv 0) (pe_callTy call_tuple_of rfl B.tup (by decide +kernel) (pa_cons (pe_callB (call_sortedDI rfl) rfl B.srt (by decide +kernel) (pa_cons (pe_dc (own := [("lock", 4)]) (g := gName 4) (tt := tYes) rfl scInit.nd (pi_seq 3 (pv 3)) (blkOk_by (N := ["self", "areas", "volumes", "locks", "lock", "one"]) (sc := defScope sInit) (by decide +kernel))
          (fun _ _ _ _ _ => pg_name (i := 4) scInit.nd rfl (Or.inl rfl)) (fun _ _ _ _ _ => pts_nil) (fun _ _ _ _ _ => pv 4) (fun _ _ _ _ _ => pe_bl)) pa_nil)) pa_nil)) rfl)))))))), ?_⟩
    -- the base: without the new row
    have eG := era_ex p H
    have gp := era_none p H
    have hl : SqA K (era p H) al (ls.map V.int) := hl.elim (fun h => .inl (era_l hp h)) fun h => .inr (era_t hp h)
    have ht : Ths K (era p H) xs ts := Paired.mapP ht fun v t h => by
      cases t with
      | i n => exact h
      | p n d =>
        obtain ⟨a, r, s⟩ := h
        exact ⟨a, r, era_t hp s⟩
      | no => exact h
    have ha : SqT K (era p H) aa (as.map V.int) := era_t hp ha
    have hv : SqT K (era p H) av xs := era_t hp hv
    generalize era p H = G at *
    have hxl : xs.length = as.length := ht.length.trans ok.nt
    have n24 := ok.n24
    have n1 := ok.n1
    -- the first test
    refine Evl.q_if (b := false) (Evl.et_is (Evl.et_or (a := false) (Evl.et_is (Evl.et_not (Evl.et_B (b := true) (Evp.ev ((evp_cl (pre := fun as vs H => (∃ x, vs = [x] ∧ IntsT K as x H) ∧ 1 ≤ as.length ∧ as.length ≤ 24 ∧ ∀ a ∈ as, 1 ≤ a ∧ a ≤ 1000) (post := fun _ v _ => v = .bl true) as (eap1 (Evp.var (P := IntsT K as) rfl ⟨aa, rfl, ex_t eG ha⟩)) fun vs H1 _ ⟨x, e, hx⟩ => ⟨⟨x, e, hx⟩, ok.n1, ok.n24, ok.ar⟩))))) rfl)
      (fun _ => Evl.et_or (a := false) (Evl.et_is (Evl.et_not (Evl.et_B (ev_isi (b := true) (t := "tuple") (Evl.ev_var rfl) (fun H1 e => tyx_tup (ex_t (eG.trans e) hv)) (by decide +kernel)))) rfl)
        (fun _ => Evl.et_is (b := false) (Evl.et_test (Evl.ev_op (ev_lenT (Evl.ev_var rfl) (ex_t eG hv)) (ev_lenT (Evl.ev_var rfl) (ex_t eG ha)) (Evl.rv_ne rfl))) (by rw [List.length_map, hxl]; simp)))) rfl) (fun h => by cases h) (fun _ H1 e1 => ?_)
    -- each volume
    refine Evl.q_if (b := false) (Evl.et_is (Evl.et_not (Evl.et_B (ev_all (bs := List.replicate xs.length true) ((evp_lc (wi_tup (xs := xs) (.var rfl (P := fun v H => ∃ b, v = .ref b ∧ SqT K H b xs) ⟨av, rfl, ex_t (eG.trans e1) hv⟩ (m := ⟨fun _ _ _ e ⟨a, r, s⟩ => ⟨a, r, ex_t e s⟩⟩))) (fun _ v _ => v = .bl true) (fun _ => mon_eq) (fun _ => lf_eq) (by omega) ?_).imp fun v H2 _ h => LstP.trues h)))) (by rw [all_rep]; rfl)) (fun h => by cases h) (fun _ H2 e2 => ?_)
    · rintro i x H2 H3 hi e2 ⟨rfl, hx⟩
      obtain ⟨t, htt, pt⟩ := Paired.get' ht hx
      obtain ⟨o1, o2, o3⟩ := ok.pt t (List.mem_of_getElem? htt)
      have pt : ThAt K t x H3 := mon_th.mo _ _ _ ((eG.trans e1).trans e2) pt
      refine ⟨Ex.refl _, _, fun R r => r, rfl, ev_evp (Evl.ev_is (Evl.ev_andV (ev_isPart (Evp.var (P := ThAt K t) rfl pt)) fun _ => Evl.ev_op (evp_fst (evp_asPart (Evp.var (P := ThAt K t) rfl pt) o1 o2)) Evl.ev_c Evl.rv_I0) ?_)⟩
      simp [o1, o3]
    refine Evl.q_if (b := false) (Evl.et_is (Evl.et_not (Evl.et_B (ev_isLT (Evl.ev_var rfl) (hl.ex ((eG.trans e1).trans e2))))) rfl) (fun h => by cases h) (fun _ H3 e3 => ?_)
    have e13 := (e1.trans e2).trans e3
    have hp3 : H3 p = some (.ins C dx []) := e13 _ _ hp
    -- self.areas = areas
    refine q_fld (ev_evp (Evl.ev_var (v := .ref aa) rfl)) rfl hp3 T.cl T.na (by show 0 < 1000; decide) fun v0 H3' e3' ev0 => ?_
    subst ev0
    replace e13 := e13.trans e3'
    replace hp3 := e3' _ _ hp3
    clear e3' e3 e2 e1
    revert H3'
    intro H3 e13 hp3
    have g3 : Ex G (upd H3 p (.ins C dx (putF "areas" (.ref aa) []))) := era_upd (eG.trans e13) gp
    -- self.volumes
    have hE : Evp (tCB (rTupOf K) (tCons (tLc (iTup K (tVar 2)) (gName 5) tYes (tCl (spAsPart K CN) (fun _ => E0) (tCons (tVar 5) tNil)) [5]) tNil)) (rowV p aa av al none none) G (FrsT K (ts.map Th.val)) := by
      refine evp_tupOf (evp_lc (wi_tup (xs := xs) (.var rfl (P := fun v H => ∃ b, v = .ref b ∧ SqT K H b xs) ⟨av, rfl, hv⟩ (m := ⟨fun _ _ _ e ⟨a, r, s⟩ => ⟨a, r, ex_t e s⟩⟩))) (fun i => FrAt K ((ts.map Th.val).getD i 0)) (fun _ => mon_pr) (fun _ => lf_pr) (by omega) ?_) ?_
      · rintro i x H2 H3 hi e2 ⟨rfl, hx⟩
        obtain ⟨t, htt, pt⟩ := Paired.get' ht hx
        obtain ⟨o1, o2, o3⟩ := ok.pt t (List.mem_of_getElem? htt)
        have pt : ThAt K t x H3 := mon_th.mo _ _ _ e2 pt
        refine ⟨Ex.refl _, _, fun R r => r, rfl, (evp_asPart (Evp.var (P := ThAt K t) rfl pt) o1 o2).cast ?_⟩
        rw [List.getD_eq_getElem?_getD, List.getElem?_map, htt]
        rfl
      · intro v H' e h
        obtain ⟨a, ys, rfl, hy, hf⟩ := ths_frs ht.length h
        exact ⟨a, ys, rfl, SqL.of hy, fun p hp => ⟨p, ys, rfl, SqT.of upd_same, hf.mono (Ex.new hp)⟩⟩
    refine q_fld (hE.mono g3) rfl upd_same T.cl T.nv (by show 1 < 1000; decide) fun vv H4 e4 ⟨av', ys, ev, hys, hfy⟩ => ?_
    subst ev
    have g4 : Ex G H4 := g3.trans e4
    have hp4 := e4 _ _ (upd_same (H := H3) (a := p) (o := .ins C dx (putF "areas" (.ref aa) [])))
    have g5 : Ex G (upd H4 p (.ins C dx (putF "volumes" (.ref av') (putF "areas" (.ref aa) [])))) := era_upd g4 gp
    have hys5 := ins_t (o := .ins C dx (putF "volumes" (.ref av') (putF "areas" (.ref aa) []))) hp4 hys
    have hfy5 := ins_frs (o := .ins C dx (putF "volumes" (.ref av') (putF "areas" (.ref aa) []))) hp4 hfy
    have hp5 : (upd H4 p (.ins C dx (putF "volumes" (.ref av') (putF "areas" (.ref aa) [])))) p = some (.ins C dx (putF "volumes" (.ref av') (putF "areas" (.ref aa) []))) := upd_same
    generalize upd H4 p (.ins C dx (putF "volumes" (.ref av') (putF "areas" (.ref aa) []))) = H5 at *
    -- the locks looked at
    refine sp_for (H := H5) (wi_seq (a := al) (xs := ls.map V.int) rfl (hl.ex g5)) (fun i σ' H' => ∃ o, σ' = rowV p aa av al o none ∧ Ex H5 H') (fun H6 e6 => ⟨none, rfl, e6⟩) ?_ ?_
    · rintro i x σ' H' H6 Nx hi e' ⟨o, rfl, e6⟩ ⟨rfl, hx⟩ hN
      rw [List.getElem?_map] at hx
      obtain ⟨n, hn, rfl⟩ := Option.map_eq_some_iff.mp hx
      have hA' := ok.lk n (List.mem_of_getElem? hn)
      refine Evl.s_if (b := false) (Evl.et_is (Evl.et_or (a := false) (Evl.et_is (Evl.et_not (Evl.et_B (ev_whole (some n) (Evl.ev_var rfl)))) rfl) (fun _ => Evl.et_not (Evl.et_test (ev_chain Evl.ev_c (Evl.ev_var rfl) Evl.rv_I0 (fun _ => ev_intsLen (as := as) (.var rfl ⟨aa, rfl, ex_t (g5.trans e6) ha⟩)) (fun _ => Evl.rv_I0))))) ?_) (fun h => by cases h) (fun _ H7 e7 => hN _ _ e7 ⟨_, rfl, e6.trans e7⟩)
      simp [hA'.1, hA'.2]
    · rintro σ' H6 e6 ⟨o, rfl, _⟩
      have hE2 : Evp (tCB (rTupOf K) (tCons (tCB rSortD (tCons (tDc (iSeqV K 3) (gName 4) tYes (tVar 4) (tC (.bl true)) [4]) tNil)) tNil)) (rowV p aa av al o none) H6 (IntsT K ls) := by
        refine evp_tupOf (evp_sortD (ls := ls) (evp_dcI (K := K) (ls := ls) ?_ ?_ ok.up (fun _ => rfl) (by show 4 < 6; decide)) ok.nl ok.up) fun v H' e ⟨a, ev, hx⟩ => ⟨a, _, ev, SqL.of hx, fun p hp => ⟨p, rfl, SqT.of upd_same⟩⟩
        · have := wi_seq (K := K) (σ := rowV p aa av al o none) (H := H6) (i := 3) (a := al) (xs := ls.map V.int) rfl (hl.ex (g5.trans e6))
          rw [List.length_map] at this
          exact this
        · have := ok.nl
          omega
      refine s_fld hE2 rfl (e6 _ _ hp5) T.cl T.nl (by
        show (putF "volumes" (.ref av') (putF "areas" (.ref aa) [])).length < 1000
        have : (putF "volumes" (.ref av') (putF "areas" (.ref aa) [])).length ≤ 2 := by
          show (if ("areas" : Str) = "volumes" then _ else (("areas" : Str), V.ref aa) :: [(("volumes" : Str), V.ref av')]).length ≤ 2
          rw [if_neg n_av]
          exact Nat.le_refl 2
        omega) fun vv H7 e7 ⟨al', ev, hal⟩ => ?_
      subst ev
      have hp7 := e7 _ _ (e6 _ _ hp5)
      have g7 : Ex G H7 := g5.trans (e6.trans e7)
      refine k _ (era_upd g7 gp) ⟨p, dx, aa, av', al', ys, rfl, ?_, ins_t hp7 (ex_t g7 ha), ins_t hp7 (ex_t (e6.trans e7) hys5), ins_frs hp7 (hfy5.mono (e6.trans e7)), ins_t hp7 hal⟩
      rw [upd_same]
      exact congrArg (fun q => some (HO.ins C dx q)) (rowF_put aa av' al')
end
end WD
set_option Elab.async false
set_option linter.all false
set_option maxRecDepth 100000
set_option maxHeartbeats 4000000
set_option exponentiation.threshold 500000
namespace WD
open PySem PySem.Spec PyProof.Rows L2 WR WK
open Evl (Ex Ev EvL EvU EvT EvA EvO RV ex_l ex_t)
section
variable {P : Program} {w : World} {K : PySem.W.Frag} {mg : Str → Option Value} {base : Heap} {H H' : Hp} {σ : L2.St} {C fI : Addr} {as ls : List Int} {qs : List Rat} {te : TE}
/-! ### isinstance(x, Row) -/
structure IsTxt (K : PySem.W.Frag) (C : Addr) : Prop where
  ha : PySem.W.findIn K (.ref C) "__class__" = some (some (.builtin "object.__class__"))
  hn : PySem.W.specialIn K (.builtin "object.__class__") "__get__" = some (some (.builtin "getset_descriptor.__get__"))
  ht : PySem.W.takesIn K (.builtin "object.__class__") = some true
  hm : PySem.W.mroIn K C (.type "object") = some true
theorem kit_self (C : Addr) : PySem.W.kitOne K (.ref C) (.ref C) = some true := by
  unfold PySem.W.kitOne
  rw [if_pos (beq_self_eq_true _)]
theorem ev_isRow {ta : TE} {S : Hpr} (T : Cls K C) (I : IsTxt K C) (h : Evp ta σ H S) (hi : ∀ v H1, S v H1 → ∃ r dx fs, v = .ref r ∧ H1 r = some (.ins C dx fs)) : Ev (tCB (rIsi K) (tCons ta (tCons (tC (.ref C)) tNil))) σ H (.bl true) := fun H1 e Q q =>
  h H1 e _ fun v H2 e2 s => by
    obtain ⟨r, dx, fs, rfl, hr⟩ := hi v H2 s
    exact ⟨_, _, .ref C, .ref C, true, rfl, .own C, .base (.ins hr T I.ha I.hn I.ht I.hm), kit_self C, q H2 e2⟩
abbrev hins {as ls : List Int} {qs : List Rat} : ∀ v H1, RowAt K C as qs ls v H1 → ∃ r dx fs, v = .ref r ∧ H1 r = some (.ins C dx fs) := fun _ _ h => h.ins
/-! ### Row.__eq__ -/
def EqRow (K : PySem.W.Frag) (C : Addr) : Addr → Addr → Hp → Bool → Prop := fun a c H b => ∃ as qs rs ls, RowAt K C as qs ls (.ref a) H ∧ RowAt K C as rs ls (.ref c) H ∧ b = decide (qs = rs)
abbrev sEq : Stmt := inClass (top 31) 1
theorem scEq : FnScope ["self", "other"] ["self", "other"] (defScope sEq) := ⟨rfl, rfl, rfl, by decide +kernel, rfl, by decide +kernel, by decide +kernel⟩
def RowT (K : PySem.W.Frag) (as : List Int) (qs : List Rat) (ls : List Int) : Hpr := fun v H => ∃ p aa av al xs, v = .ref p ∧ H p = some (.tup [.ref aa, .ref av, .ref al]) ∧ SqT K H aa (as.map V.int) ∧ SqT K H av xs ∧ Frs K H xs qs ∧ SqT K H al (ls.map V.int)
instance mon_rowT : Mon (RowT K as qs ls) := ⟨fun v H H' e ⟨p, aa, av, al, xs, h1, h2, h3, h4, h5, h6⟩ => ⟨p, aa, av, al, xs, h1, e _ _ h2, ex_t e h3, ex_t e h4, h5.mono e, ex_t e h6⟩⟩
def dRow (as : List Int) (qs : List Rat) (ls : List Int) : PyData := .tuple [.tuple (as.map .int), .tuple (qs.map dq), .tuple (ls.map .int)]
theorem dp_rowT (v : V) (H1 : Hp) (h : RowT K as qs ls v H1) : Dp K H1 v (dRow as qs ls) := by
  obtain ⟨p, aa, av, al, xs, rfl, h2, h3, h4, h5, h6⟩ := h
  exact .tup (SqT.of h2) (.cons (.tup h3 (dp_ints as)) (.cons (.tup h4 (dp_frs h5)) (.cons (.tup h6 (dp_ints ls)) .nil)))
theorem dRow_ok (as : List Int) (qs : List Rat) (ls : List Int) : SeqAt.shaped (dRow as qs ls) = true := by
  have h1 := GA.tup (GA.map (k := 0) (f := PyData.int) int_ok as)
  have h2 := GA.tup (GA.map (k := 1) (f := dq) dq_ok qs)
  have h3 := GA.tup (GA.map (k := 0) (f := PyData.int) int_ok ls)
  exact shaped_of (GA.tup (k := 2) (.cons h1.1 (by have := h1.2; omega) (.cons h2.1 (by have := h2.2; omega) (.cons h3.1 (by have := h3.2; omega) .nil)))) (by decide)
theorem eqv_dRow (as : List Int) (qs rs : List Rat) (ls : List Int) : PyData.eqv (dRow as qs ls) (dRow as rs ls) = decide (qs = rs) := by
  rw [dRow, dRow, PyData.eqv, PyData.eqvAll, PyData.eqvAll, PyData.eqvAll, PyData.eqvAll, PyData.eqv, PyData.eqv, PyData.eqv, eqvAll_map eqv_int, eqvAll_map eqv_int, eqvAll_map eqv_dq]
  simp
theorem evp_rowT (T : RowTxt K mg C fI) {te : TE} (h : Evp te σ H (RowAt K C as qs ls)) : Evp (tTup (tCons (tFld K te "areas") (tCons (tFld K te "volumes") (tCons (tFld K te "locks") tNil)))) σ H (RowT K as qs ls) :=
  evp_tup (eap3 (evp_areas T h) (evp_vols T h) (evp_locks T h)) (fun vs H1 ⟨x, y, z, e, _⟩ => by rw [e]; show 3 ≤ sizeLine; decide) fun vs H1 p e s hp => by
    obtain ⟨x, y, z, rfl, ⟨aa, rfl, h1⟩, ⟨av, xs, rfl, h2, h3⟩, ⟨al, rfl, h4⟩⟩ := s
    have e := Ex.new (o := .tup [.ref aa, .ref av, .ref al]) hp
    exact ⟨p, aa, av, al, xs, rfl, upd_same, ex_t e h1, ex_t e h2, h3.mono e, ex_t e h4⟩
theorem ok_eq {f fd} (F : Fun K "__eq__" "Row.__eq__" sEq f fd) (B : Bl mg) (T : RowTxt K mg C fI) (I : IsTxt K C) : FnOk P w K mg base CX0 1 f fd ["self", "other"] (spEqB (EqRow K C)) := by
  refine F.ok scEq (fun vs H Q E h => ?_) (fun cdv A outer s H vs Q E hr h => ?_)
  · obtain ⟨a, c, b, rfl, _⟩ := h
    rfl
  · obtain ⟨a, c, b, rfl, ⟨as, qs, rs, ls, r1, r2, rfl⟩, k⟩ := h
    refine ⟨_, pss_cons (ps_if (pt_not (pt_val (pe_callB call_isi rfl B.isi (by decide +kernel) (pa_cons (pv 1) (pa_cons (pe_glob rfl T.g (v := .ref C) rfl) pa_nil))))) (pss_one (ps_ret pe_bl)) pss_nil)
      (pss_one (ps_ret (pe_cmpR (op_eqD hr.units) (pe_tup (pa_cons (pe_fld (pv 0) rfl) (pa_cons (pe_fld (pv 0) rfl) (pa_cons (pe_fld (pv 0) rfl) pa_nil)))) (pe_tup (pa_cons (pe_fld (pv 1) rfl) (pa_cons (pe_fld (pv 1) rfl) (pa_cons (pe_fld (pv 1) rfl) pa_nil)))) (nomark _)))), ?_⟩
    refine Evl.q_if (b := false) (Evl.et_is (Evl.et_not (Evl.et_B (ev_isRow T.cl I (.var (P := RowAt K C as rs ls) rfl r2) hins))) rfl) (fun h => by cases h) (fun _ H1 e1 => ?_)
    exact Evl.s_ret (evp_eqD (evp_rowT T (.var (P := RowAt K C as qs ls) rfl (mon_row.mo _ _ _ e1 r1))) (evp_rowT T (.var (P := RowAt K C as rs ls) rfl (mon_row.mo _ _ _ e1 r2))) mon_rowT dp_rowT dp_rowT (dRow_ok ..) (dRow_ok ..) (eqv_dRow ..)) fun H2 e2 => k H2 (e1.trans e2)
theorem fr_inj {X : Cx} {pins : List (Addr × Obj)} {s : Shared} {σ : L2.St} {H : Hp} (I : Inv X pins σ H s) {p q : Rat} {v : V} (h : FrAt X.K p v H) (h' : FrAt X.K q v H) : p = q := by
  obtain ⟨a, rfl, s1⟩ := h
  obtain ⟨b, e, s2⟩ := h'
  cases e
  have := I.tuple_inj s1 s2
  simp only [List.cons.injEq, V.int.injEq, and_true] at this
  exact rat_eq.mpr ⟨this.1, by have := this.2; omega⟩
theorem frs_inj {X : Cx} {pins : List (Addr × Obj)} {s : Shared} {σ : L2.St} {H : Hp} (I : Inv X pins σ H s) : ∀ {xs : List V} {ps qs : List Rat}, Frs X.K H xs ps → Frs X.K H xs qs → ps = qs
  | _, _, _, .nil, .nil => rfl
  | _, _, _, .cons a r, .cons b t => by rw [fr_inj I a b, frs_inj I r t]
theorem eqRow_refl {X : Cx} (pins : List (Addr × Obj)) (s : Shared) (σ : L2.St) (H : Hp) (a : Addr) (b : Bool) (I : Inv X pins σ H s) (h : EqRow X.K C a a H b) : b = true := by
  obtain ⟨as, qs, rs, ls, ⟨r, dx, aa, av, al, xs, e1, h2, h3, h4, h5, h6⟩, ⟨r', dx', aa', av', al', xs', e1', h2', h3', h4', h5', h6'⟩, rfl⟩ := h
  cases e1
  cases e1'
  have e := Option.some.inj (h2.symm.trans h2')
  simp only [HO.ins.injEq, rowF, List.cons.injEq, Prod.mk.injEq, V.ref.injEq, and_true, true_and] at e
  obtain ⟨_, rfl, rfl, rfl⟩ := e
  have ex := I.tuple_inj h4 h4'
  subst ex
  exact decide_eq_true (frs_inj I h5 h5')
/-! ### Row.__len__, __contains__ -/
def spLenR (K : PySem.W.Frag) (C : Addr) : Sp := spS (A := List Int × List Rat × List Int) (fun a vs H => ∃ x, vs = [x] ∧ RowAt K C a.1 a.2.1 a.2.2 x H) (fun a v _ => v = .int (a.1.length : Int))
abbrev sLen : Stmt := inClass (top 31) 2
theorem scLen : FnScope ["self"] ["self"] (defScope sLen) := ⟨rfl, rfl, rfl, by decide +kernel, rfl, by decide +kernel, by decide +kernel⟩
theorem ok_len {f fd} (F : Fun K "__len__" "Row.__len__" sLen f fd) (B : Bl mg) (T : RowTxt K mg C fI) : FnOk P w K mg base CX0 1 f fd ["self"] (spLenR K C) := by
  refine F.ok scLen (fun vs H Q E h => ?_) (fun cdv A outer s H vs Q E hr h => ?_)
  · obtain ⟨a, ⟨x, rfl, _⟩, _⟩ := h
    rfl
  · obtain ⟨⟨as, qs, ls⟩, ⟨x, rfl, r⟩, k⟩ := h
    refine ⟨_, pss_one (ps_ret (pe_callB call_len_seq rfl B.len (by decide +kernel) (pa_cons (pe_fld (pv 0) rfl) pa_nil))), ?_⟩
    exact Evl.s_ret (ev_intsLen (evp_areas T (.var (P := RowAt K C as qs ls) rfl r))) fun H1 e => k _ H1 e rfl
def spHas (K : PySem.W.Frag) (C : Addr) : Sp := spS (A := (List Int × List Rat × List Int) × Int) (fun a vs H => ∃ x, vs = [x, .int a.2] ∧ RowAt K C a.1.1 a.1.2.1 a.1.2.2 x H ∧ a.1.1.length ≤ 1000) (fun a v _ => v = .bl (decide (1 ≤ a.2 ∧ a.2 < (a.1.1.length : Int)) && !decide (a.2 ∈ a.1.2.2)))
abbrev sHas : Stmt := inClass (top 31) 5
theorem scHas : FnScope ["self", "weir"] ["self", "weir"] (defScope sHas) := ⟨rfl, rfl, rfl, by decide +kernel, rfl, by decide +kernel, by decide +kernel⟩
def rRange2 : List V → Hp → VK → Prop := fun vs H Q => ∃ i j, vs = [V.int i, V.int j] ∧ ∀ p, H p = none → Q (.ref p) (upd H p (.rng i j))
def rInRng : R2 := fun x y H Q => ∃ i a lo hi, x = V.int i ∧ y = V.ref a ∧ H a = some (.rng lo hi) ∧ Q (.bl (decide (lo ≤ i ∧ i < hi))) H
theorem ev_inRange {ta tb tc : TE} {i lo hi : Int} (ha : Ev ta σ H (.int i)) (hb : Ev tb σ H (.int lo)) (hc : Ev tc σ H (.int hi)) : Ev (tOp rInRng ta (tCB rRange2 (tCons tb (tCons tc tNil)))) σ H (.bl (decide (lo ≤ i ∧ i < hi))) := fun H1 e Q q =>
  ha H1 e _ fun H2 e2 => hb H2 (e.trans e2) _ fun H3 e3 => hc H3 ((e.trans e2).trans e3) _ fun H4 e4 => ⟨lo, hi, rfl, fun p hp => ⟨i, p, lo, hi, rfl, rfl, upd_same, q _ (((e2.trans e3).trans e4).trans (Ex.new hp))⟩⟩
theorem flat_ints (ns : List Int) : (ns.map V.int).all flatV = true := by
  rw [List.all_map]
  exact List.all_eq_true.mpr fun _ _ => rfl
theorem inV_ints (n : Int) (ns : List Int) : inV (.int n) (ns.map V.int) = decide (n ∈ ns) := by
  induction ns with
  | nil => rfl
  | cons m ns ih =>
    show ((m == n) || inV (.int n) (ns.map V.int)) = _
    rw [ih]
    by_cases h : m = n
    · simp [h]
    · have h' : ¬ n = m := fun q => h q.symm
      simp [h, h']
theorem ev_notInT {ta tb : TE} {n : Int} {ns : List Int} (ha : Ev ta σ H (.int n)) (hb : Evp tb σ H (IntsT K ns)) : Ev (tOp (rIn K true) ta tb) σ H (.bl (!decide (n ∈ ns))) := fun H1 e Q q =>
  ha H1 e _ fun H2 e2 => hb H2 (e.trans e2) _ fun v H3 e3 ⟨a, ev, s⟩ => ⟨a, _, ev, .inr s, rfl, flat_ints ns, by rw [inV_ints]; exact q H3 (e2.trans e3)⟩
theorem ev_inT {ta tb : TE} {n : Int} {ns : List Int} (ha : Ev ta σ H (.int n)) (hb : Evp tb σ H (IntsT K ns)) : Ev (tOp (rIn K false) ta tb) σ H (.bl (decide (n ∈ ns))) := fun H1 e Q q =>
  ha H1 e _ fun H2 e2 => hb H2 (e.trans e2) _ fun v H3 e3 ⟨a, ev, s⟩ => ⟨a, _, ev, .inr s, rfl, flat_ints ns, by rw [inV_ints]; exact q H3 (e2.trans e3)⟩
theorem ok_has {f fd} (F : Fun K "__contains__" "Row.__contains__" sHas f fd) (B : Bl mg) (T : RowTxt K mg C fI) : FnOk P w K mg base CX0 1 f fd ["self", "weir"] (spHas K C) := by
  refine F.ok scHas (fun vs H Q E h => ?_) (fun cdv A outer s H vs Q E hr h => ?_)
  · obtain ⟨a, ⟨x, rfl, _⟩, _⟩ := h
    rfl
  · obtain ⟨⟨⟨as, qs, ls⟩, n⟩, ⟨x, rfl, r, hz⟩, k⟩ := h
    refine ⟨_, pss_one (ps_ret (pe_and (pe_cmpR op_in_rng (pv 1) (pe_callTy cr_range2 rfl B.rng (by decide +kernel) (pa_cons pe_int (pa_cons (pe_callB call_len_seq rfl B.len (by decide +kernel) (pa_cons (pe_fld (pv 0) rfl) pa_nil)) pa_nil))) rfl)
      (pe_one (pe_cmpR op_notIn_seq (pv 1) (pe_fld (pv 0) rfl) rfl)))), ?_⟩
    refine Evl.s_ret (Evl.ev_andV (ev_inRange (Evl.ev_var rfl) Evl.ev_c (ev_intsLen (evp_areas T (.var (P := RowAt K C as qs ls) rfl r)))) fun _ => ev_notInT (Evl.ev_var rfl) (evp_locks T (.var (P := RowAt K C as qs ls) rfl r))) fun H1 e => k _ H1 e rfl
/-! ### heights -/
structure Geo (as ls : List Int) : Prop where
  n1 : 1 ≤ as.length
  n6 : as.length ≤ 6
  ar : Areas as
  up : ls.Pairwise (· < ·)
  lk : ∀ l ∈ ls, 1 ≤ l ∧ l < (as.length : Int)
  nl : ls.length < 64
theorem Areas.bk {as : List Int} (h : Areas as) {a : Int} (ha : a ∈ as) : Bk 3 (rt a 1) ∧ 0 < rt a 1 ∧ a.natAbs < 2 ^ 4500 := by
  obtain ⟨h1, h4⟩ := h a ha
  have h3 : a.natAbs < 2 ^ 3 := by show _ < 8; omega
  refine ⟨Bk.rt h3 (by decide) (by decide), ?_, Nat.lt_of_lt_of_le h3 (Nat.pow_le_pow_right (by decide) (by decide))⟩
  rw [rt_one]
  exact Rat.intCast_pos.mpr (by omega)
def spHts (K : PySem.W.Frag) (C : Addr) : Sp := spS (A := List Int × List Rat × List Int) (fun a vs H => (∃ x, vs = [x] ∧ RowAt K C a.1 a.2.1 a.2.2 x H) ∧ Areas a.1 ∧ a.1.length ≤ 6 ∧ a.2.1.length = a.1.length ∧ ∀ q ∈ a.2.1, Bk 700 q) (fun a => FrsL K (hts a.1 a.2.1))
abbrev sHts : Stmt := inClass (top 31) 7
theorem scHts : FnScope ["self", "volume", "area"] ["self"] (defScope sHts) := ⟨rfl, rfl, rfl, by decide +kernel, rfl, by decide +kernel, by decide +kernel⟩
theorem hts_get' {as : List Int} {qs : List Rat} {i : Nat} {q : Rat} {a : Int} (h1 : qs[i]? = some q) (h2 : as[i]? = some a) : (hts as qs).getD i 0 = q / rt a 1 := by
  rw [List.getD_eq_getElem?_getD, hts, List.getElem?_zipWith, h1, h2, rt_one]
  rfl
theorem ok_hts {f fd} (F : Fun K "heights" "Row.heights" sHts f fd) (B : Bl mg) (T : RowTxt K mg C fI) (cO : Cal P w K mg base CX0 3 "over" (spOver K)) (cP1 : Cal P w K mg base CX0 2 "part" (spPart1 K)) : FnOk P w K mg base CX0 4 f fd ["self"] (spHts K C) := by
  refine F.ok scHts (fun vs H Q E h => ?_) (fun cdv A outer s H vs Q E hr h => ?_)
  · obtain ⟨a, ⟨⟨x, rfl, _⟩, _⟩, _⟩ := h
    rfl
  · obtain ⟨⟨as, qs, ls⟩, ⟨⟨x, rfl, r⟩, hA, h6, hlen, hb⟩, k⟩ := h
    have hA : Areas as := hA
    have h6 : as.length ≤ 6 := h6
    have hlen : qs.length = as.length := hlen
    have hr2 : Room 2 _ := hr.mono (by decide)
    refine ⟨_, pss_one (ps_ret (pe_lc (own := [("volume", 1), ("area", 2)]) (g := gTup K 2 (gCons (gName 1) (gCons (gName 2) gNil))) (tt := tYes) rfl scHts.nd (RZ.pi_zipA rfl B.zip (pa_cons (pe_fld (pv 0) rfl) (pa_cons (pe_fld (pv 0) rfl) pa_nil))) (blkOk_by (N := ["self", "volume", "area"]) (sc := defScope sHts) (by decide +kernel))
      (fun _ _ _ _ _ => pg_tup rfl (pgs_cons (pg_name (i := 1) scHts.nd rfl (Or.inl rfl)) (pgs_cons (pg_name (i := 2) scHts.nd rfl (Or.inl rfl)) pgs_nil))) (fun _ _ _ _ _ => pts_nil)
      (fun _ _ _ _ _ => pe_c0 cO hr (pa_cons (pv 1) (pa_cons (pe_c0 cP1 hr2 (pa_cons (pv 2) pa_nil)) pa_nil))))), ?_⟩
    obtain ⟨r', dx, aa, av, al, xs, e1, h2, h3, h4, h5, h6'⟩ := id r
    subst e1
    have hxl : xs.length = (as.map V.int).length := by rw [h5.length, List.length_map]; exact hlen
    have hv : Evp (tFld K (tVar 0) "volumes") [some (.ref r'), none, none] H (fun v H => v = .ref av) := fun H1 e Q q => ⟨_, rfl, r', C, dx, _, _, rfl, e _ _ h2, T.cl, T.nv, rowF_v aa av al, q _ H1 (Ex.refl _) rfl⟩
    have hw : Evp (tFld K (tVar 0) "areas") [some (.ref r'), none, none] H (fun v H => v = .ref aa) := fun H1 e Q q => ⟨_, rfl, r', C, dx, _, _, rfl, e _ _ h2, T.cl, T.na, rowF_a aa av al, q _ H1 (Ex.refl _) rfl⟩
    have hz : Evpa (tCons (tFld K (tVar 0) "volumes") (tCons (tFld K (tVar 0) "areas") tNil)) [some (.ref r'), none, none] H (fun vs H' => (∃ x y, vs = [x, y] ∧ x = .ref av ∧ y = .ref aa) ∧ Ex H H') := fun H1 e Q q => eap2 hv hw H1 e Q fun vs H2 e2 h => q vs H2 e2 ⟨h, e.trans e2⟩
    refine sp_ret (evp_lc (wi_zipT (xs := xs) (ys := as.map V.int) hz (fun vs H1 ⟨⟨x, y, e, ex, ey⟩, eH⟩ => ⟨av, aa, by rw [e, ex, ey], ex_t eH h4, ex_t eH h3⟩) hxl) (fun i => FrAt K ((hts as qs).getD i 0)) (fun _ => mon_pr) (fun _ => lf_pr) (by rw [hxl, List.length_map]; omega) ?_) fun v H1 e h => k v H1 e ?_
    · rintro i x H2 H3 hi e2 y
      obtain ⟨e3, Tt, u, v, rfl, hT, hu, hv⟩ := YPair.use (K := K) y
      obtain ⟨q, hq, pu⟩ := Paired.get' h5 hu
      rw [List.getElem?_map] at hv
      obtain ⟨a, ha, rfl⟩ := Option.map_eq_some_iff.mp hv
      obtain ⟨b1, b2, b3⟩ := Areas.bk hA (List.mem_of_getElem? ha)
      have pu : FrAt K q u H3 := pu.mono (e2.trans e3)
      refine ⟨e3, _, fun R r => gtup2 hT r, rfl, ?_⟩
      rw [hts_get' hq ha]
      exact evp_overF (.var (P := FrAt K q) rfl pu) (evp_part1 (Evl.ev_var rfl) b3) b2 ((hb q (List.mem_of_getElem? hq)).mono (by decide)) (b1.mono (by decide))
    · obtain ⟨a, ys, rfl, hy, hf⟩ := h.frs (by rw [hts_length as qs hlen, hxl, List.length_map])
      exact ⟨a, ys, rfl, SqL.of hy, hf⟩
end
end WD
set_option Elab.async false
set_option linter.all false
set_option maxRecDepth 100000
set_option maxHeartbeats 4000000
set_option exponentiation.threshold 500000
namespace WD
open PySem PySem.Spec PyProof.Rows L2 WR WK
open Evl (Ex Ev EvL EvU EvT EvA EvO RV ex_l ex_t)
section
variable {P : Program} {w : World} {K : PySem.W.Frag} {mg : Str → Option Value} {base : Heap} {H H' : Hp} {σ : L2.St} {C fI : Addr} {as ls : List Int} {qs : List Rat} {te : TE}
/-! ### check_weir -/
def WeirOk (as ls : List Int) (n : Int) : Prop := 1 ≤ n ∧ n < (as.length : Int) ∧ n ∉ ls
def spCkW (K : PySem.W.Frag) (C : Addr) : Sp := spS (A := (List Int × List Rat × List Int) × Int) (fun a vs H => (∃ x, vs = [x, .int a.2] ∧ RowAt K C a.1.1 a.1.2.1 a.1.2.2 x H) ∧ WeirOk a.1.1 a.1.2.2 a.2) (fun a v _ => v = .non)
abbrev sCkW : Stmt := inClass (top 31) 10
theorem scCkW : FnScope ["self", "weir"] ["self", "weir"] (defScope sCkW) := ⟨rfl, rfl, rfl, by decide +kernel, rfl, by decide +kernel, by decide +kernel⟩
theorem ok_ckW {f fd} (F : Fun K "check_weir" "Row.check_weir" sCkW f fd) (B : Bl mg) (T : RowTxt K mg C fI) (cW : Cal P w K mg base CX0 1 "is_whole" spWhole) : FnOk P w K mg base CX0 2 f fd ["self", "weir"] (spCkW K C) := by
  refine F.ok scCkW (fun vs H Q E h => ?_) (fun cdv A outer s H vs Q E hr h => ?_)
  · obtain ⟨a, ⟨⟨x, rfl, _⟩, _⟩, _⟩ := h
    rfl
  · obtain ⟨⟨⟨as, qs, ls⟩, n⟩, ⟨⟨x, rfl, r⟩, w1, w2, w3⟩, k⟩ := h
    have w1 : 1 ≤ n := w1
    have w2 : n < (as.length : Int) := w2
    have w3 : n ∉ ls := w3
    refine ⟨_, pss_one (ps_if (PW.pt (pw_or (pt_not (pt_val (pe_c0 cW hr (pa_cons (pv 1) pa_nil)))) (pw_or (pt_not (pt_chain op_le op_lt pe_int (pv 1) (pe_callB call_len_seq rfl B.len (by decide +kernel) (pa_cons (pe_fld (pv 0) rfl) pa_nil))))
      (pw_or1 (pt_cmpR op_in_seq (pv 1) (pe_fld (pv 0) rfl) rfl))))) (pss_one ps_never) pss_nil), ?_⟩
    refine Evl.s_if (b := false) (Evl.et_is (Evl.et_or (a := false) (Evl.et_is (Evl.et_not (Evl.et_B (ev_whole (some n) (Evl.ev_var rfl)))) rfl) (fun _ => Evl.et_or (Evl.et_not (Evl.et_test (ev_chain Evl.ev_c (Evl.ev_var rfl) Evl.rv_I0 (fun _ => ev_intsLen (evp_areas T (.var (P := RowAt K C as qs ls) rfl r))) (fun _ => Evl.rv_I0)))) (fun _ => Evl.et_test (ev_inT (Evl.ev_var rfl) (evp_locks T (.var (P := RowAt K C as qs ls) rfl r)))))) ?_) (fun h => by cases h) (fun _ H1 e1 => k _ H1 e1 rfl)
    simp [w1, w2, w3]
/-! ### Row(..), with_volumes -/
theorem evp_row {t : TA} {S : List V → Hp → Prop} {ts : List Th} (h : Evpa t σ H S) (ok : RowOk as ts ls) (hs : ∀ vs H1, Ex H H1 → S vs H1 → ∃ aa av al xs, vs = [.ref aa, .ref av, .ref al] ∧ SqT K H1 aa (as.map V.int) ∧ SqT K H1 av xs ∧ Ths K H1 xs ts ∧ SqA K H1 al (ls.map V.int)) :
    Evp (tMk C (spInit K C) t) σ H (RowAt K C as (ts.map Th.val) ls) := fun H1 e Q q => h H1 e _ fun vs H2 e2 s x dx hx hdx hne => by
  obtain ⟨aa, av, al, xs, rfl, h1, h2, h3, h4⟩ := hs vs H2 (e.trans e2) s
  have ee : Ex H2 (upd (upd H2 dx (.own x)) x (.ins C dx [])) := fun b o h => by rw [upd_ne (ne_of_none h hx), upd_ne (ne_of_none h hdx)]; exact h
  refine ⟨x, dx, aa, av, al, as, ls, ts, xs, rfl, upd_same, ex_t ee h1, ex_t ee h2, Paired.mapP h3 fun _ _ h => mon_th.mo _ _ _ ee h, h4.ex ee, ok, fun H' e' r => ⟨rfl, q _ _ (e2.trans fun b o h => e' b o (era_at (ee b o h) (ne_of_none h hx))) r⟩⟩
def thq (q : Rat) : Th := .p q.num q.den
theorem thq_val (rs : List Rat) : (rs.map thq).map Th.val = rs := by
  rw [List.map_map]
  conv => rhs; rw [← List.map_id rs]
  exact List.map_congr_left fun q _ => rt_self q
theorem ths_frs2 : ∀ {xs : List V} {rs : List Rat}, Frs K H xs rs → Ths K H xs (rs.map thq)
  | _, _, .nil => .nil
  | _, _, .cons p r => .cons p (ths_frs2 r)
structure VolOk (as : List Int) (rs : List Rat) : Prop where
  len : rs.length = as.length
  lo : ∀ q ∈ rs, 0 ≤ q
  bk : ∀ q ∈ rs, Bk 4500 q
theorem Geo.ok {rs : List Rat} (g : Geo as ls) (v : VolOk as rs) : RowOk as (rs.map thq) ls where
  n1 := g.n1
  n24 := by have := g.n6; omega
  ar := fun a ha => by have := g.ar a ha; omega
  nt := by rw [List.length_map]; exact v.len
  pt := fun t ht => by
    obtain ⟨q, hq, rfl⟩ := List.mem_map.mp ht
    refine ⟨decide_eq_true (by have := den_pos' q; omega), ⟨(v.bk q hq).n, by rw [Int.natAbs_natCast]; exact (v.bk q hq).d⟩, ?_⟩
    show 0 ≤ (rt q.num q.den).num
    rw [rt_self]
    exact Rat.num_nonneg.mpr (v.lo q hq)
  up := g.up
  lk := g.lk
  nl := g.nl
def spWith (K : PySem.W.Frag) (C : Addr) : Sp := spS (A := (List Int × List Rat × List Int) × List Rat) (fun a vs H => (∃ x y, vs = [x, y] ∧ RowAt K C a.1.1 a.1.2.1 a.1.2.2 x H ∧ FrsL K a.2 y H) ∧ Geo a.1.1 a.1.2.2 ∧ VolOk a.1.1 a.2) (fun a => RowAt K C a.1.1 a.2 a.1.2.2)
theorem evp_with {ta tb : TE} {rs : List Rat} (cl : ∀ v H1, RowAt K C as qs ls v H1 → ∃ r dx fs, v = .ref r ∧ H1 r = some (.ins C dx fs) ∧ fs.lookup ("with_volumes" : Str) = none) (ha : Evp ta σ H (RowAt K C as qs ls)) (hb : Evp tb σ H (FrsL K rs)) (g : Geo as ls) (v : VolOk as rs) :
    Evp (tMt C "with_volumes" (spWith K C) (fun _ => E0) ta (tCons tb tNil)) σ H (RowAt K C as rs ls) :=
  evp_mt (pre := fun a vs H => (∃ x y, vs = [x, y] ∧ RowAt K C a.1.1 a.1.2.1 a.1.2.2 x H ∧ FrsL K a.2 y H) ∧ Geo a.1.1 a.1.2.2 ∧ VolOk a.1.1 a.2) (post := fun a => RowAt K C a.1.1 a.2 a.1.2.2) ((as, qs, ls), rs) ha (eap1 hb) (fun x H1 _ h => cl x H1 h) fun x vs H1 _ px ⟨y, e, py⟩ => ⟨⟨x, y, by rw [e], px, py⟩, g, v⟩
theorem row_m {m : Str} {as ls : List Int} {qs : List Rat} (h1 : ¬ m = "areas") (h2 : ¬ m = "volumes") (h3 : ¬ m = "locks") : ∀ v H1, RowAt K C as qs ls v H1 → ∃ r dx fs, v = .ref r ∧ H1 r = some (.ins C dx fs) ∧ fs.lookup m = none := fun v H1 ⟨r, dx, aa, av, al, xs, e, h, _⟩ => ⟨r, dx, _, e, h, rowF_no aa av al h1 h2 h3⟩
abbrev sWith : Stmt := inClass (top 31) 11
theorem scWith : FnScope ["self", "volumes"] ["self", "volumes"] (defScope sWith) := ⟨rfl, rfl, rfl, by decide +kernel, rfl, by decide +kernel, by decide +kernel⟩
theorem ok_with {f fd} (F : Fun K "with_volumes" "Row.with_volumes" sWith f fd) (B : Bl mg) (T : RowTxt K mg C fI) (cM : FnR P w K mg base CX0 4 fI (spInit K C)) : FnOk P w K mg base CX0 6 f fd ["self", "volumes"] (spWith K C) := by
  refine F.ok scWith (fun vs H Q E h => ?_) (fun cdv A outer s H vs Q E hr h => ?_)
  · obtain ⟨a, ⟨⟨x, y, rfl, _⟩, _⟩, _⟩ := h
    rfl
  · obtain ⟨⟨⟨as, qs, ls⟩, rs⟩, ⟨⟨x, y, rfl, r, l⟩, g, v⟩, k⟩ := h
    refine ⟨_, pss_one (ps_ret (pe_mk T.mc cM hr T.g pass0 (pa_cons (pe_fld (pv 0) rfl) (pa_cons (pe_callTy call_tuple_of rfl B.tup (by decide +kernel) (pa_cons (pv 1) pa_nil)) (pa_cons (pe_fld (pv 0) rfl) pa_nil))))), ?_⟩
    have h := evp_row (K := K) (C := C) (ts := rs.map thq) (eap3 (evp_areas T (.var (P := RowAt K C as qs ls) (σ := [some x, some y]) (i := 0) rfl r)) (evp_tupOf (K := K) (P := FrsL K rs) (R := FrsT K rs) (.var (i := 1) rfl l) fun v H' e ⟨a, xs, ev, h, hf⟩ => ⟨a, xs, ev, h, fun p hp => ⟨p, xs, rfl, SqT.of upd_same, hf.mono (Ex.new hp)⟩⟩)
      (evp_locks T (.var (P := RowAt K C as qs ls) (i := 0) rfl r))) (g.ok v) fun vs H1 _ ⟨x, y, z, e, ⟨aa, ea, h1⟩, ⟨av, xs, ev, h2, h3⟩, ⟨al, el, h4⟩⟩ => ⟨aa, av, al, xs, by rw [e, ea, ev, el], h1, h2, ths_frs2 h3, .inr h4⟩
    rw [thq_val] at h
    exact sp_ret h fun v H1 e p => k v H1 e p
/-! ### slices of tuples -/
def sub (a b : Nat) {α : Type} (l : List α) : List α := (l.drop a).take (b - a)
theorem Frs.sub {xs : List V} {qs : List Rat} (h : Frs K H xs qs) (a b : Nat) : Frs K H (sub a b xs) (WD.sub a b qs) := (Paired.dropP a h).takeP _
theorem sub_whole {α : Type} (l : List α) (a b : Nat) (h1 : a = 0) (h2 : b = l.length) : WD.sub a b l = l := by
  subst h1 h2
  simp [WD.sub]
theorem evp_slF {tl th : TO} {lo hi : Option Int} {a b : Nat} (h : Evp te σ H (FrsT K qs)) (h1 : EvO tl σ H lo) (h2 : EvO th σ H hi) (ea : HT.sIx qs.length 0 lo = a) (eb : HT.sIx qs.length qs.length hi = b) : Evp (tSl (rSlA K) te tl th) σ H (FrsT K (WD.sub a b qs)) := fun H1 e Q q =>
  h H1 e _ fun v H2 e2 ⟨r, xs, ev, hs, hf⟩ => h1 H2 (e.trans e2) _ fun H3 e3 => h2 H3 ((e.trans e2).trans e3) _ fun H4 e4 => by
    subst ev
    have hl := hf.length
    have e34 := e3.trans e4
    refine ⟨r, xs, rfl, ex_t e34 hs, fun hw => q _ H4 (e2.trans e34) ⟨r, xs, rfl, ex_t e34 hs, ?_⟩, fun hw p hp => q _ _ ((e2.trans e34).trans (Ex.new hp)) ⟨p, _, rfl, SqT.of upd_same, ?_⟩⟩
    · rw [hl, ea, eb] at hw
      rw [sub_whole _ _ _ hw.1 hw.2]
      exact hf.mono e34
    · have := Frs.sub (hf.mono (e34.trans (Ex.new (o := .tup (cutV xs lo hi)) hp))) a b
      have ec : cutV xs lo hi = WD.sub a b xs := by
        unfold cutV
        rw [hl, ea, eb]
        rfl
      rw [← ec] at this
      exact this
theorem evp_slI {tl th : TO} {lo hi : Option Int} {a b : Nat} {ns : List Int} (h : Evp te σ H (IntsT K ns)) (h1 : EvO tl σ H lo) (h2 : EvO th σ H hi) (ea : HT.sIx ns.length 0 lo = a) (eb : HT.sIx ns.length ns.length hi = b) : Evp (tSl (rSlA K) te tl th) σ H (IntsT K (WD.sub a b ns)) := fun H1 e Q q =>
  h H1 e _ fun v H2 e2 ⟨r, ev, hs⟩ => h1 H2 (e.trans e2) _ fun H3 e3 => h2 H3 ((e.trans e2).trans e3) _ fun H4 e4 => by
    subst ev
    have hl : (ns.map V.int).length = ns.length := List.length_map ..
    have e34 := e3.trans e4
    refine ⟨r, _, rfl, ex_t e34 hs, fun hw => q _ H4 (e2.trans e34) ⟨r, rfl, ?_⟩, fun hw p hp => q _ _ ((e2.trans e34).trans (Ex.new hp)) ⟨p, rfl, SqT.of ?_⟩⟩
    · rw [hl, ea, eb] at hw
      rw [sub_whole _ _ _ hw.1 hw.2]
      exact ex_t e34 hs
    · rw [upd_same]
      unfold cutV
      rw [hl, ea, eb, ← List.map_drop, ← List.map_take]
      rfl
theorem evp_star {t : TA} {S : List V → Hp → Prop} (h : Evp te σ H (FrsT K qs)) (ht : Evpa t σ H S) : Evpa (StX.tStar K te t) σ H (fun vs H' => ∃ xs ys, vs = xs ++ ys ∧ Frs K H' xs qs ∧ S ys H') := fun H1 e Q q =>
  h H1 e _ fun v H2 e2 ⟨r, xs, ev, hs, hf⟩ => ⟨r, xs, ev, .inl hs, ht H2 (e.trans e2) _ fun ys H3 e3 s => q _ H3 (e2.trans e3) ⟨xs, ys, rfl, hf.mono e3, s⟩⟩
/-- t[i] of a tuple of fractions, of ints -/
theorem evp_ixF {tb : TE} {i : Nat} {q : Rat} (h : Evp te σ H (FrsT K qs)) (hi : Ev tb σ H (.int (i : Int))) (hq : qs[i]? = some q) : Evp (tOp (rIxT K) te tb) σ H (FrAt K q) := fun H1 e Q k => h H1 e _ fun v H2 e2 ⟨r, xs, ev, hs, hf⟩ => hi H2 (e.trans e2) _ fun H3 e3 => by
  obtain ⟨x, hx, px⟩ := Paired.getR hf hq
  exact ⟨r, xs, i, x, ev, rfl, ex_t e3 hs, atI_nat hx, k _ H3 (e2.trans e3) (PrAt.mono e3 px)⟩
theorem ev_ixI {tb : TE} {i : Nat} {n : Int} {ns : List Int} (h : Evp te σ H (IntsT K ns)) (hi : Ev tb σ H (.int (i : Int))) (hq : ns[i]? = some n) : Ev (tOp (rIxT K) te tb) σ H (.int n) := fun H1 e Q k => h H1 e _ fun v H2 e2 ⟨r, ev, hs⟩ => hi H2 (e.trans e2) _ fun H3 e3 =>
  ⟨r, _, i, _, ev, rfl, ex_t e3 hs, atI_nat (by rw [List.getElem?_map, hq]; rfl), k H3 (e2.trans e3)⟩
/-! ### opened -/
def spOpen (K : PySem.W.Frag) (C : Addr) : Sp := spS (A := (List Int × List Rat × List Int) × (Nat × Nat)) (fun a vs H => (∃ x s, vs = [x, .int a.2.1, s] ∧ RowAt K C a.1.1 a.1.2.1 a.1.2.2 x H ∧ PrAt K 1 1 s H) ∧ Geo a.1.1 a.1.2.2 ∧ WeirOk a.1.1 a.1.2.2 a.2.1 ∧ RowInv a.2.2 a.1.1 a.1.2.1 ∧ a.2.2 ≤ 68) (fun a => RowAt K C a.1.1 (openR a.1.1 a.1.2.1 a.2.1) a.1.2.2)
theorem open_parts (v : List Rat) (x y : Rat) (w : Nat) (h1 : 1 ≤ w) (h2 : w < v.length) : (v.set (w - 1) x).set w y = WD.sub 0 (w - 1) v ++ (x :: y :: WD.sub (w + 1) v.length v) := by
  apply List.ext_getElem?
  intro i
  have hl : (WD.sub 0 (w - 1) v).length = w - 1 := by simp [WD.sub]; omega
  by_cases a : i < w - 1
  · rw [List.getElem?_append_left (by omega), List.getElem?_set_ne (by omega), List.getElem?_set_ne (by omega)]
    simp [WD.sub, List.getElem?_take, a]
  · rw [List.getElem?_append_right (by omega), hl]
    by_cases b : i = w - 1
    · subst b
      rw [List.getElem?_set_ne (by omega), List.getElem?_set_self (by omega)]
      simp
    · by_cases c : i = w
      · subst c
        rw [List.getElem?_set_self (by rw [List.length_set]; omega)]
        have : i - (i - 1) = 1 := by omega
        rw [this]
        rfl
      · rw [List.getElem?_set_ne (by omega), List.getElem?_set_ne (by omega)]
        have : i - (w - 1) = (i - (w + 1)) + 1 + 1 := by omega
        rw [this, List.getElem?_cons_succ, List.getElem?_cons_succ]
        simp only [WD.sub, List.getElem?_take, List.getElem?_drop]
        have e : w + 1 + (i - (w + 1)) = i := by omega
        rw [e]
        by_cases d : i < v.length
        · rw [if_pos (by omega)]
        · rw [if_neg (by omega)]
          exact List.getElem?_eq_none (by omega)
theorem RowInv.all {e : Nat} {as : List Int} {v : List Rat} (ha : Areas as) (r : RowInv e as v) (he : e ≤ 69) : ∀ q ∈ v, Bk 700 q := fun q hq => by
  obtain ⟨i, _, rfl⟩ := vo_mem hq
  exact (r.bk ha i).mono (by omega)
theorem RowInv.vol {e : Nat} {as : List Int} {v : List Rat} (ha : Areas as) (r : RowInv e as v) (he : e ≤ 69) : VolOk as v := ⟨r.len, fun q hq => by
  obtain ⟨i, _, rfl⟩ := vo_mem hq
  exact r.lo i, fun q hq => (RowInv.all ha r he q hq).mono (by decide)⟩
end
end WD
set_option Elab.async false
set_option linter.all false
set_option maxRecDepth 100000
set_option maxHeartbeats 4000000
set_option exponentiation.threshold 500000
namespace WD
open PySem PySem.Spec PyProof.Rows L2 WR WK
open Evl (Ex Ev EvL EvU EvT EvA EvO RV ex_l ex_t)
section
variable {P : Program} {w : World} {K : PySem.W.Frag} {mg : Str → Option Value} {base : Heap} {H H' : Hp} {σ : L2.St} {C fI : Addr} {as ls : List Int} {qs : List Rat} {te : TE}
theorem evp_lst {t : TA} {S : List V → Hp → Prop} {R : Hpr} (h : Evpa t σ H S) (hl : ∀ vs H1, S vs H1 → vs.length ≤ sizeLine) (k : ∀ vs H1 p, Ex H H1 → S vs H1 → H1 p = none → R (.ref p) (upd H1 p (.lst vs))) : Evp (tLst t) σ H R :=
  fun H1 e Q q => h H1 e _ fun vs H2 e2 s => ⟨hl vs H2 s, fun p hp => q _ _ (e2.trans (Ex.new hp)) (k vs H2 p (e.trans e2) s hp)⟩
theorem vo_some {v : List Rat} {i : Nat} (h : i < v.length) : v[i]? = some (vo v i) := by
  unfold vo
  rw [List.getD_eq_getElem?_getD, List.getElem?_eq_getElem h]
  rfl
theorem as_some {as : List Int} {i : Nat} (h : i < as.length) : as[i]? = some (as.getD i 1) := by
  rw [List.getD_eq_getElem?_getD, List.getElem?_eq_getElem h]
  rfl
theorem share_rest (x a b : Rat) (h : a + b ≠ 0) : x - x * (a / (a + b)) = x * (b / (a + b)) := by
  have h1 : a / (a + b) + b / (a + b) = 1 := by
    rw [Rat.div_def, Rat.div_def, ← Rat.add_mul, Rat.mul_inv_cancel _ h]
  have : b / (a + b) = 1 - a / (a + b) := by grind
  rw [this]
  grind
abbrev sOpen : Stmt := inClass (top 31) 12
abbrev nOpen : List Str := ["self", "weir", "share", "one", "other", "both", "even", "moved", "first"]
theorem scOpen : FnScope nOpen ["self", "weir", "share"] (defScope sOpen) := ⟨rfl, rfl, rfl, by decide +kernel, rfl, by decide +kernel, by decide +kernel⟩
theorem ok_open {dvs kws f fd} (F : FunD K "opened" "Row.opened" (defArgs sOpen) (defBody sOpen) (defScope sOpen) dvs kws f fd) (T : RowTxt K mg C fI) (cCk : CalM P w K mg base CX0 2 C "check_weir" (spCkW K C)) (cWi : CalM P w K mg base CX0 6 C "with_volumes" (spWith K C))
    (cPl : Cal P w K mg base CX0 3 "plus" (spBin K (· + ·))) (cMi : Cal P w K mg base CX0 3 "minus" (spBin K (· - ·))) (cTi : Cal P w K mg base CX0 3 "times" (spBin K (· * ·))) (cPa : Cal P w K mg base CX0 2 "part" (spPart K)) :
    FnOk P w K mg base CX0 7 f fd ["self", "weir", "share"] (spOpen K C) := by
  refine F.ok scOpen (fun vs H Q E h => ?_) (fun cdv A outer s H vs Q E hr h => ?_)
  · obtain ⟨a, ⟨⟨x, y, rfl, _⟩, _⟩, _⟩ := h
    rfl
  · obtain ⟨⟨⟨as, qs, ls⟩, n, e⟩, ⟨⟨x, sh, rfl, r, ps⟩, g, wo, inv, he⟩, k⟩ := h
    have g : Geo as ls := g
    have wo : WeirOk as ls (n : Int) := wo
    have inv : RowInv e as qs := inv
    have he : e ≤ 68 := he
    obtain ⟨w1, w2, w3⟩ := id wo
    have hn1 : 1 ≤ n := by omega
    have hn2 : n < as.length := by omega
    have hln := inv.len
    have hr2 : Room 2 _ := hr.mono (by decide)
    have hr3 : Room 3 _ := hr.mono (by decide)
    have hA := g.ar
    refine ⟨_, PSs.nox (pss_cons (ps_expr (pe_m0 (pv 0) T.cl cCk hr2 (pa_cons (pv 1) pa_nil)))
      (pss_cons (ps_par (i := 3) (j := 4) rfl scOpen.nd rfl rfl (by decide) rfl rfl (pa_cons (pe_ix ix_tup (pe_fld (pv 0) rfl) (pe_op op_sub (pv 1) pe_int) (fun _ _ => rfl)) (pa_cons (pe_ix ix_tup (pe_fld (pv 0) rfl) (pv 1) (fun _ _ => rfl)) pa_nil)) (by rfl))
      (pss_cons (ps_set (i := 5) scOpen.nd rfl (Or.inl rfl) (pe_c0 cPl hr3 (pa_cons (pe_ix ix_tup (pe_fld (pv 0) rfl) (pe_op op_sub (pv 1) pe_int) (fun _ _ => rfl)) (pa_cons (pe_ix ix_tup (pe_fld (pv 0) rfl) (pv 1) (fun _ _ => rfl)) pa_nil))))
      (pss_cons (ps_set (i := 6) scOpen.nd rfl (Or.inl rfl) (pe_c0 cTi hr3 (pa_cons (pv 5) (pa_cons (pe_c0 cPa hr2 (pa_cons (pv 3) (pa_cons (pe_op op_add (pv 3) (pv 4)) pa_nil))) pa_nil))))
      (pss_cons (ps_set (i := 7) scOpen.nd rfl (Or.inl rfl) (pe_c0 cTi hr3 (pa_cons (pe_c0 cMi hr3 (pa_cons (pv 6) (pa_cons (pe_ix ix_tup (pe_fld (pv 0) rfl) (pe_op op_sub (pv 1) pe_int) (fun _ _ => rfl)) pa_nil))) (pa_cons (pv 2) pa_nil))))
      (pss_cons (ps_set (i := 8) scOpen.nd rfl (Or.inl rfl) (pe_c0 cPl hr3 (pa_cons (pe_ix ix_tup (pe_fld (pv 0) rfl) (pe_op op_sub (pv 1) pe_int) (fun _ _ => rfl)) (pa_cons (pv 7) pa_nil))))
      (pss_one (ps_ret (pe_m0 (pv 0) T.cl cWi hr (pa_cons (pe_lst (StX.pa_star (pe_slice sl_tupA (pe_fld (pv 0) rfl) po_none (po_some (pe_op op_sub (pv 1) pe_int)))
        (pa_cons (pv 8) (pa_cons (pe_c0 cMi hr3 (pa_cons (pv 5) (pa_cons (pv 8) pa_nil))) (StX.pa_star (pe_slice sl_tupA (pe_fld (pv 0) rfl) (po_some (pe_op op_add (pv 1) pe_int)) po_none) pa_nil))))) pa_nil)))))))))), ?_⟩
    have ew : V.int ((n : Int) - 1) = V.int ((n - 1 : Nat) : Int) := by congr 1; omega
    have ew2 : V.int ((n : Int) + 1) = V.int ((n + 1 : Nat) : Int) := by congr 1
    -- the check
    refine sp_drop (evp_mt (P := RowAt K C as qs ls) (pre := fun a vs H => (∃ x, vs = [x, .int a.2] ∧ RowAt K C a.1.1 a.1.2.1 a.1.2.2 x H) ∧ WeirOk a.1.1 a.1.2.2 a.2) (post := fun a v _ => v = .non) ((as, qs, ls), (n : Int)) (.var rfl r) (eap_ea (Evl.ea_cons (Evl.ev_var rfl) Evl.ea_nil))
      (fun x H1 _ h => row_m (by decide +kernel) (by decide +kernel) (by decide +kernel) x H1 h) fun y vs H1 _ py ev => ⟨⟨y, by rw [ev], py⟩, wo⟩) fun _ H1 e1 _ => ?_
    -- one, other
    have r1 := mon_row.mo _ _ _ e1 r
    have a0 : as[n - 1]? = some (as.getD (n - 1) 1) := as_some (by omega)
    have a1 : as[n]? = some (as.getD n 1) := as_some hn2
    have q0 : qs[n - 1]? = some (vo qs (n - 1)) := vo_some (by omega)
    have q1 : qs[n]? = some (vo qs n) := vo_some (by omega)
    have hrow : ∀ {σ : L2.St} {H1 : Hp}, Ex H H1 → σ[0]? = some (some x) → Evp (tVar 0) σ H1 (RowAt K C as qs ls) := fun e h => .var h (mon_row.mo _ _ _ e r)
    have hwm : ∀ {σ : L2.St} {H1 : Hp}, σ[1]? = some (some (.int (n : Int))) → Ev (tOp (rI0 fun i j => .int (i - j)) (tVar 1) (tC (.int 1))) σ H1 (.int ((n - 1 : Nat) : Int)) := fun h => Evl.ev_is (Evl.ev_op (Evl.ev_var h) Evl.ev_c Evl.rv_I0) ew
    refine sp_par (eap_ea (Evl.ea_cons (ev_ixI (evp_areas T (hrow e1 rfl)) (hwm rfl) a0) (Evl.ea_cons (ev_ixI (evp_areas T (hrow e1 rfl)) (Evl.ev_var rfl) a1) Evl.ea_nil))) fun vs H2 e2 ev => ⟨_, _, ev, ?_⟩
    have e02 := e1.trans e2
    obtain ⟨i0, i4⟩ := hA.at (n - 1)
    obtain ⟨j0, j4⟩ := hA.at n
    have b0 : Bk 700 (vo qs (n - 1)) := (inv.bk hA (n - 1)).mono (by omega)
    have b1 : Bk 700 (vo qs n) := (inv.bk hA n).mono (by omega)
    have bB : Bk 1401 (vo qs (n - 1) + vo qs n) := b0.add b1
    refine sp_set ((evp_binF (g := (· + ·)) (evp_ixF (evp_vols T (hrow e02 rfl)) (hwm rfl) q0) (evp_ixF (evp_vols T (hrow e02 rfl)) (Evl.ev_var rfl) q1) (b0.mono (by decide)) (b1.mono (by decide)))) fun vb H3 e3 pb => ?_
    have e03 := e02.trans e3
    -- even
    generalize hx0 : as.getD (n - 1) 1 = x0 at *
    generalize hx1 : as.getD n 1 = x1 at *
    have bP : Bk 4 (rt x0 (x0 + x1)) := Bk.rt (by show _ < 16; omega) (by show _ < 16; omega) (by omega)
    have bE : Bk 1405 ((vo qs (n - 1) + vo qs n) * rt x0 (x0 + x1)) := bB.mul bP
    have sm16 : ∀ z : Int, z.natAbs < 16 → z.natAbs < 2 ^ 4500 := fun z h => Nat.lt_of_lt_of_le h (show 2 ^ 4 ≤ 2 ^ 4500 from Nat.pow_le_pow_right (by decide) (by decide))
    refine sp_set (evp_binF (g := (· * ·)) (.var (P := FrAt K (vo qs (n - 1) + vo qs n)) rfl pb) (evp_part (Evl.ev_var rfl) (Evl.ev_op (Evl.ev_var rfl) (Evl.ev_var rfl) Evl.rv_I0) (by omega) (sm16 _ (by omega)) (sm16 _ (by omega))) (bB.mono (by decide)) (bP.mono (by decide))) fun ve H4 e4 pe => ?_
    have e04 := e03.trans e4
    generalize hE : (vo qs (n - 1) + vo qs n) * rt x0 (x0 + x1) = E1 at *
    -- moved
    have bM : Bk 2106 (E1 - vo qs (n - 1)) := bE.sub b0
    refine sp_set ((evp_binF (g := (· * ·)) (q := 1) (evp_binF (g := (· - ·)) (.var (P := FrAt K E1) rfl pe) (evp_ixF (evp_vols T (hrow e04 rfl)) (hwm rfl) q0) (bE.mono (by decide)) (b0.mono (by decide))) (.var (P := FrAt K 1) rfl (PrAt.mono e04 ps)) (bM.mono (by decide)) (Bk.int (a := 1) (by show 1 < _; exact Nat.one_lt_two_pow (by decide)) (by decide))).cast (Rat.mul_one _)) fun vm H5 e5 pm => ?_
    have e05 := e04.trans e5
    -- first
    refine sp_set ((evp_binF (g := (· + ·)) (evp_ixF (evp_vols T (hrow e05 rfl)) (hwm rfl) q0) (.var (P := FrAt K (E1 - vo qs (n - 1))) rfl pm) (b0.mono (by decide)) (bM.mono (by decide))).cast (show vo qs (n - 1) + (E1 - vo qs (n - 1)) = E1 by grind)) fun vf H6 e6 pf => ?_
    have e06 := e05.trans e6
    have hR : openR as qs n = WD.sub 0 (n - 1) qs ++ (E1 :: (vo qs (n - 1) + vo qs n - E1) :: WD.sub (n + 1) qs.length qs) := by
      have hp0 := hA.pos (n - 1)
      have hp1 := hA.pos n
      have hE1 : E1 = (vo qs (n - 1) + vo qs n) * (ar as (n - 1) / (ar as (n - 1) + ar as n)) := by
        rw [← hE, rt_eq _ _ (by omega), Rat.intCast_add, ← hx0, ← hx1]
        rfl
      unfold openR
      rw [open_parts _ _ _ _ hn1 (by omega), ← share_rest _ _ _ (by grind), ← hE1]
    have hvo := RowInv.vol hA (inv.open hA (w := n) (by omega) hn2) (by omega)
    refine sp_ret (evp_with (row_m (by decide +kernel) (by decide +kernel) (by decide +kernel)) (hrow e06 rfl) (rs := openR as qs n) ?_ g hvo) fun v H7 e7 p => k v H7 (e06.trans e7) p
    have pb6 := PrAt.mono ((e4.trans e5).trans e6) pb
    have hs := evp_star (t := tCons (tVar 8) (tCons (tCl (spBin K (· - ·)) (fun _ => E0) (tCons (tVar 5) (tCons (tVar 8) tNil))) (StX.tStar K (tSl (rSlA K) (tFld K (tVar 0) "volumes") (tPart (tOp (rI0 fun i j => .int (i + j)) (tVar 1) (tC (.int 1)))) tNoPart) tNil)))
      (evp_slF (a := 0) (b := n - 1) (evp_vols T (hrow (σ := [some x, some (.int (n : Int)), some sh, some (.int x0), some (.int x1), some vb, some ve, some vm, some vf]) e06 rfl)) Evl.eo_none (Evl.eo_some (hwm rfl)) rfl (by rw [HT.sIx_nat]; omega))
      (eap_cons (.var (P := FrAt K E1) rfl pf) (eap_cons (evp_binF (g := (· - ·)) (.var (P := FrAt K (vo qs (n - 1) + vo qs n)) rfl pb6) (.var (P := FrAt K E1) rfl pf) (bB.mono (by decide)) (bE.mono (by decide)))
        (evp_star (evp_slF (a := n + 1) (b := qs.length) (evp_vols T (hrow e06 rfl)) (Evl.eo_some (Evl.ev_is (Evl.ev_op (Evl.ev_var rfl) Evl.ev_c Evl.rv_I0) ew2)) Evl.eo_none (by rw [HT.sIx_nat]; omega) rfl) eap_nil)))
    have fin : ∀ vs H1, (∃ xs ys, vs = xs ++ ys ∧ Frs K H1 xs (WD.sub 0 (n - 1) qs) ∧ ∃ u us, ys = u :: us ∧ FrAt K E1 u H1 ∧ ∃ u' us', us = u' :: us' ∧ FrAt K (vo qs (n - 1) + vo qs n - E1) u' H1 ∧ ∃ zs ts, us' = zs ++ ts ∧ Frs K H1 zs (WD.sub (n + 1) qs.length qs) ∧ ts = []) → Frs K H1 vs (openR as qs n) := by
      rintro vs H1 ⟨xs, ys, rfl, f1, u, us, rfl, p1, u', us', rfl, p2, zs, ts, rfl, f2, rfl⟩
      rw [hR, List.append_nil]
      exact f1.app (.cons p1 (.cons p2 f2))
    refine evp_lst hs (fun vs H1 s => ?_) fun vs H1 p e s hp => ⟨p, vs, rfl, SqL.of upd_same, (fin vs H1 s).mono (Ex.new hp)⟩
    rw [(fin vs H1 s).length, openR_length, hln]
    exact Nat.le_trans g.n6 (by decide)
end
end WD
set_option Elab.async false
set_option linter.all false
set_option maxRecDepth 100000
set_option maxHeartbeats 4000000
set_option exponentiation.threshold 500000
namespace WD
open PySem PySem.Spec PyProof.Rows L2 WR WK
open Evl (Ex Ev EvL EvU EvT EvA EvO RV ex_l ex_t)
section
variable {P : Program} {w : World} {K : PySem.W.Frag} {mg : Str → Option Value} {base : Heap} {H H' : Hp} {σ : L2.St} {C fI : Addr} {as ls : List Int} {qs : List Rat} {te : TE} {ws : List Nat}
/-! ### check_row -/
def spCkR (K : PySem.W.Frag) (C : Addr) : Sp := spS (A := List Int × List Rat × List Int) (fun a vs H => ∃ x, vs = [x] ∧ RowAt K C a.1 a.2.1 a.2.2 x H) (fun _ v _ => v = .non)
theorem evp_ckR (h : Evp te σ H (RowAt K C as qs ls)) : Evp (tCl (spCkR K C) (fun _ => E0) (tCons te tNil)) σ H (fun v _ => v = .non) :=
  evp_cl (as, qs, ls) (eap1 h) fun vs H1 _ h => h
abbrev sCkR : Stmt := top 32
theorem scCkR : FnScope ["thing"] ["thing"] (defScope sCkR) := ⟨rfl, rfl, rfl, by decide +kernel, rfl, by decide +kernel, by decide +kernel⟩
theorem ok_ckR {f fd} (F : Fun K "check_row" "check_row" sCkR f fd) (B : Bl mg) (T : RowTxt K mg C fI) (I : IsTxt K C) : FnOk P w K mg base CX0 1 f fd ["thing"] (spCkR K C) := by
  refine F.ok scCkR (fun vs H Q E h => ?_) (fun cdv A outer s H vs Q E hr h => ?_)
  · obtain ⟨a, ⟨x, rfl, _⟩, _⟩ := h
    rfl
  · obtain ⟨⟨as, qs, ls⟩, ⟨x, rfl, r⟩, k⟩ := h
    refine ⟨_, pss_one (ps_if (pt_not (pt_val (pe_callB call_isi rfl B.isi (by decide +kernel) (pa_cons (pv 0) (pa_cons (pe_glob rfl T.g (v := .ref C) rfl) pa_nil))))) (pss_one ps_never) pss_nil), ?_⟩
    exact Evl.s_if (b := false) (Evl.et_is (Evl.et_not (Evl.et_B (ev_isRow T.cl I (.var (P := RowAt K C as qs ls) rfl r) hins))) rfl) (fun h => by cases h) (fun _ H1 e1 => k _ H1 e1 rfl)
/-! ### check_order -/
def ordV (ws : List Nat) : List V := ws.map fun w => V.int (w : Nat)
def inRow (as ls : List Int) (n : Nat) : Bool := decide (1 ≤ (n : Int) ∧ (n : Int) < (as.length : Int)) && !decide ((n : Int) ∈ ls)
theorem inRow_ok {n : Nat} : inRow as ls n = true ↔ WeirOk as ls n := by
  unfold inRow WeirOk
  simp only [Bool.and_eq_true, decide_eq_true_eq, Bool.not_eq_true', decide_eq_false_iff_not]
  constructor
  · rintro ⟨⟨a, b⟩, c⟩; exact ⟨a, b, c⟩
  · rintro ⟨a, b, c⟩; exact ⟨⟨a, b⟩, c⟩
theorem ev_notInRow {ta tb : TE} {n : Nat} (ha : Ev ta σ H (.int (n : Int))) (hb : Evp tb σ H (RowAt K C as qs ls)) (hz : as.length ≤ 1000) : Ev (tOp (rInO C (spHas K C) true) ta tb) σ H (.bl (!inRow as ls n)) := fun H1 e Q q =>
  ha H1 e _ fun H2 e2 => hb H2 (e.trans e2) _ fun v H3 e3 r => by
    obtain ⟨a, dx, fs, rfl, hi⟩ := r.ins
    exact ⟨a, dx, fs, rfl, hi, ((as, qs, ls), (n : Int)), ⟨_, rfl, r, hz⟩, fun v H4 e4 hv => ⟨_, hv, q H4 ((e2.trans e3).trans e4)⟩⟩
theorem ev_lenA {ta : TE} {p : Addr} {xs : List V} (ha : Ev ta σ H (.ref p)) (h : SqA K H p xs) : Ev (tCB (Evl.rLenS K) (tCons ta tNil)) σ H (.int (xs.length : Int)) := fun H1 e Q q =>
  ha H1 e _ fun H2 e2 => ⟨p, xs, rfl, h.ex (e.trans e2), q H2 e2⟩
/-- what BadOrder(0) lets out -/
def BadE (CO : Addr) (H : Hp) (E : XK) : Prop := ∀ d H', Ex H H' → H' d = some (.xd [(("place" : Str), .int 0)]) → E (.ref CO) (some d) H'
theorem BadE.mono {CO : Addr} {E : XK} (e : Ex H H') (h : BadE CO H E) : BadE CO H' E := fun d H1 e1 hd => h d H1 (e.trans e1) hd
/-- an order as it is looked at: all right, or one weir that is not -/
def OrdPre (as ls : List Int) (ws : List Nat) (good bad : Prop) : Prop := ((∀ n ∈ ws, inRow as ls n = true) ∧ good) ∨ ((∃ n, ws = [n] ∧ inRow as ls n = false) ∧ bad)
def spCkO (K : PySem.W.Frag) (C CO : Addr) : Sp := fun vs H Q E => ∃ x o as qs ls ws, vs = [x, .ref o] ∧ RowAt K C as qs ls x H ∧ as.length ≤ 1000 ∧ SqA K H o (ordV ws) ∧ ws.length ≤ 1000 ∧ OrdPre as ls ws (∀ H', Ex H H' → Q .non H') (BadE CO H E)
abbrev sCkO : Stmt := top 33
theorem scCkO : FnScope ["row", "order", "place", "weir"] ["row", "order"] (defScope sCkO) := ⟨rfl, rfl, rfl, by decide +kernel, rfl, by decide +kernel, by decide +kernel⟩
theorem ord_get {ws : List Nat} {i : Nat} {x : V} (h : (ordV ws)[i]? = some x) : ∃ n, ws[i]? = some n ∧ x = .int (n : Nat) := by
  unfold ordV at h
  rw [List.getElem?_map] at h
  obtain ⟨n, h1, h2⟩ := Option.map_eq_some_iff.mp h
  exact ⟨n, h1, h2.symm⟩
theorem ok_ckO {f fd CO fO fH} (F : Fun K "check_order" "check_order" sCkO f fd) (B : Bl mg) (N : Nums mg) (O : Own K C "__contains__" fH) (cH : FnR P w K mg base CX0 1 fH (spHas K C)) (cW : Cal P w K mg base CX0 1 "is_whole" spWhole) (TO : PySem.OrdX.OrdTxt P K mg CO fO) :
    FnOk P w K mg base (L2.CX P w) 2 f fd ["row", "order"] (spCkO K C CO) := by
  obtain ⟨t1, n1⟩ := N.ord
  refine F.okX scCkO (fun vs H Q E h => ?_) (fun cdv A outer s H vs Q E hr h => ?_)
  · obtain ⟨x, o, as, qs, ls, ws, rfl, _⟩ := h
    rfl
  · obtain ⟨x, o, as, qs, ls, ws, rfl, r, hz, ho, hl, hc⟩ := h
    refine ⟨_, pss_cons (ps_if (PW.pt (pw_or (pt_not (pt_val (pe_callB call_isiT rfl B.isi (by decide +kernel) (pa_cons (pv 1) (pa_cons (pe_tup (pa_cons (pe_bltn rfl B.lst (by decide +kernel) (v := .ty "list") rfl) (pa_cons (pe_bltn rfl B.tup (by decide +kernel) (v := .ty "tuple") rfl) pa_nil))) pa_nil)))))
        (pw_or1 (pt_cmpR op_gt (pe_callB call_len_seq rfl B.len (by decide +kernel) (pa_cons (pv 1) pa_nil)) (pe_glob rfl n1 (v := .int 20000) ⟨_, rfl⟩) (nomark _))))) (pss_one ps_never) pss_nil)
      (pss_one (ps_for (passes_of rfl) rfl (pi_enumV 1 rfl B.enu (pv 1)) (pg_tup rfl (pgs_cons (pg_name (i := 2) scCkO.nd rfl (Or.inl rfl)) (pgs_cons (pg_name (i := 3) scCkO.nd rfl (Or.inl rfl)) pgs_nil)))
        (pss_one (ps_if (PW.pt (pw_or (pt_not (pt_val (pe_c0 cW hr (pa_cons (pv 3) pa_nil)))) (pw_or1 (pt_cmpR (op_notInO O cH hr (fun _ _ _ _ _ _ _ h => h.elim)) (pv 3) (pv 0) rfl))))
          (pss_one (ps_raiseOrd (k := 1) rfl TO hr (takes_of rfl rfl rfl rfl) (pa_cons (pv 2) pa_nil))) pss_nil)))), ?_⟩
    refine Evl.q_if (b := false) (Evl.et_is (Evl.et_or (a := false) (Evl.et_is (Evl.et_not (Evl.et_B (ev_isLT (Evl.ev_var rfl) ho))) rfl) (fun _ => Evl.et_test (Evl.ev_op (ev_lenA (Evl.ev_var rfl) ho) Evl.ev_c Evl.rv_I0))) ?_) (fun h => by cases h) (fun _ H1 e1 => ?_)
    · have : (ordV ws).length = ws.length := List.length_map ..
      rw [this]
      simp
      omega
    have test : ∀ {H2 : Hp} {a : V} {n : Nat}, Ex H H2 → EvT (tOr (tNot (tB (tCl spWhole (fun _ => E0) (tCons (tVar 3) tNil)))) (tTest (tOp (rInO C (spHas K C) true) (tVar 3) (tVar 0)))) [some x, some (.ref o), some a, some (.int (n : Nat))] H2 (!inRow as ls n) := fun e =>
      Evl.et_is (Evl.et_or (a := false) (Evl.et_is (Evl.et_not (Evl.et_B (ev_whole (some _) (Evl.ev_var rfl)))) rfl) (fun _ => Evl.et_test (ev_notInRow (Evl.ev_var rfl) (.var (P := RowAt K C as qs ls) rfl (mon_row.mo _ _ _ e r)) hz))) (Bool.false_or _)
    rcases hc with ⟨hg, k⟩ | ⟨⟨n0, rfl, hb⟩, k⟩
    · refine sp_for1 (wi_enumV rfl (ho.ex e1)) (fun i σ' H' => ∃ a b, σ' = [some x, some (.ref o), a, b]) (fun H2 e2 => ⟨none, none, rfl⟩) ?_ (fun σ' H' e' _ => k H' (e1.trans e'))
      rintro i y σ' H2 H3 Nx hi e2 ⟨a, b, rfl⟩ yy hN
      obtain ⟨e3, Tt, u, v, rfl, hT, hu, hv⟩ := YPair.use (K := K) yy
      obtain ⟨n, hn, rfl⟩ := ord_get hv
      refine gtup2 hT (Evl.s_if (b := false) (Evl.et_is (test ((e1.trans e2).trans e3)) (by rw [hg n (List.mem_of_getElem? hn)]; rfl)) (fun h => by cases h) (fun _ H4 e4 => hN _ _ (e3.trans e4) ⟨_, _, rfl⟩))
    · refine sp_for1 (wi_enumV rfl (ho.ex e1)) (fun i σ' H' => i = 0 ∧ ∃ a b, σ' = [some x, some (.ref o), a, b]) (fun H2 e2 => ⟨rfl, none, none, rfl⟩) ?_ (fun σ' H' e' ⟨h, _⟩ => by cases h)
      rintro i y σ' H2 H3 Nx hi e2 ⟨rfl, a, b, rfl⟩ yy hN
      obtain ⟨e3, Tt, u, v, rfl, hT, hu, hv⟩ := YPair.use (K := K) yy
      cases (Option.some.inj hu)
      cases (Option.some.inj hv)
      refine gtup2 hT (Evl.s_if (b := true) (Evl.et_is (test ((e1.trans e2).trans e3)) (by rw [hb]; rfl)) (fun _ H4 e4 => ?_) (fun h => by cases h))
      refine ⟨_, rfl, _, rfl, fun d hd => k d _ ((((e1.trans e2).trans e3).trans e4).trans (Ex.new hd)) upd_same⟩
/-! ### behind -/
structure OrdOk (as ls : List Int) (ws : List Nat) : Prop where
  ok : ∀ n ∈ ws, inRow as ls n = true
  sm : ws.length ≤ 5
theorem OrdOk.weirs (h : OrdOk as ls ws) : Weirs as.length ws := fun n hn => by
  obtain ⟨a, b, _⟩ := inRow_ok.mp (h.ok n hn)
  omega
/-- a call of check_order, all right -/
theorem evp_ckO {CO o : Addr} {ta : TE} (h : Evp te σ H (RowAt K C as qs ls)) (ho : Ev ta σ H (.ref o)) (hs : SqA K H o (ordV ws)) (g : Geo as ls) (ok : OrdOk as ls ws) : Evp (tCl (spCkO K C CO) (fun _ => E0) (tCons te (tCons ta tNil))) σ H (fun v _ => v = .non) := fun H1 e Q q =>
  h H1 e _ fun x H2 e2 r => ho H2 (e.trans e2) _ fun H3 e3 => ⟨x, o, as, qs, ls, ws, rfl, mon_row.mo _ _ _ e3 r, by have := g.n6; omega, hs.ex ((e.trans e2).trans e3), by have := ok.sm; omega, .inl ⟨ok.ok, fun H' e' => q _ H' ((e2.trans e3).trans e') rfl⟩⟩
def spOpen1 (K : PySem.W.Frag) (C : Addr) : Sp := spS (A := (List Int × List Rat × List Int) × (Nat × Nat)) (fun a vs H => (∃ x, vs = [x, .int a.2.1] ∧ RowAt K C a.1.1 a.1.2.1 a.1.2.2 x H) ∧ Geo a.1.1 a.1.2.2 ∧ WeirOk a.1.1 a.1.2.2 a.2.1 ∧ RowInv a.2.2 a.1.1 a.1.2.1 ∧ a.2.2 ≤ 68) (fun a => RowAt K C a.1.1 (openR a.1.1 a.1.2.1 a.2.1) a.1.2.2)
theorem evp_open1 {ta : TE} {n e : Nat} (h : Evp te σ H (RowAt K C as qs ls)) (hn : Ev ta σ H (.int (n : Nat))) (g : Geo as ls) (wo : WeirOk as ls n) (inv : RowInv e as qs) (he : e ≤ 68) : Evp (tMt C "opened" (spOpen1 K C) (fun _ => E0) te (tCons ta tNil)) σ H (RowAt K C as (openR as qs n) ls) :=
  evp_mt ((as, qs, ls), (n, e)) h (eap_ea (Evl.ea_cons hn Evl.ea_nil)) (fun x H1 _ hx => row_m (by decide +kernel) (by decide +kernel) (by decide +kernel) x H1 hx) fun x vs H1 _ px ev => ⟨⟨x, by rw [ev], px⟩, g, wo, inv, he⟩
def spBehind (K : PySem.W.Frag) (C : Addr) : Sp := spS (A := (List Int × List Rat × List Int) × (List Nat × Nat)) (fun a vs H => (∃ x o, vs = [x, .ref o] ∧ RowAt K C a.1.1 a.1.2.1 a.1.2.2 x H ∧ SqA K H o (ordV a.2.1)) ∧ Geo a.1.1 a.1.2.2 ∧ OrdOk a.1.1 a.1.2.2 a.2.1 ∧ RowInv a.2.2 a.1.1 a.1.2.1 ∧ a.2.2 ≤ 63) (fun a => RowAt K C a.1.1 (behindR a.1.1 a.1.2.1 a.2.1) a.1.2.2)
abbrev sBehind : Stmt := top 34
theorem scBehind : FnScope ["row", "order", "weir"] ["row", "order"] (defScope sBehind) := ⟨rfl, rfl, rfl, by decide +kernel, rfl, by decide +kernel, by decide +kernel⟩
theorem behind_next {i n : Nat} (h : ws[i]? = some n) : behindR as qs (ws.take (i + 1)) = openR as (behindR as qs (ws.take i)) n := by
  unfold behindR
  rw [List.take_add_one, h, List.foldl_append]
  rfl
theorem take_weirs {n : Nat} (h : Weirs n ws) (i : Nat) : Weirs n (ws.take i) := fun m hm => h m (List.mem_of_mem_take hm)
theorem ok_behind {f fd CO} (F : Fun K "behind" "behind" sBehind f fd) (T : RowTxt K mg C fI) (cR : Cal P w K mg base CX0 1 "check_row" (spCkR K C)) (cO : Cal P w K mg base (L2.CX P w) 2 "check_order" (spCkO K C CO)) (cOp : CalM P w K mg base CX0 7 C "opened" (spOpen1 K C)) :
    FnOk P w K mg base CX0 8 f fd ["row", "order"] (spBehind K C) := by
  refine F.ok scBehind (fun vs H Q E h => ?_) (fun cdv A outer s H vs Q E hr h => ?_)
  · obtain ⟨a, ⟨⟨x, o, rfl, _⟩, _⟩, _⟩ := h
    rfl
  · obtain ⟨⟨⟨as, qs, ls⟩, ws, e⟩, ⟨⟨x, o, rfl, r, ho⟩, g, ok, inv, he⟩, k⟩ := h
    have hr1 : Room 1 _ := hr.mono (by decide)
    have hr2 : Room 2 _ := hr.mono (by decide)
    refine ⟨_, pss_cons (ps_expr (pe_c0 cR hr1 (pa_cons (pv 0) pa_nil))) (pss_cons (ps_expr (pe_cX cO hr2 (pa_cons (pv 0) (pa_cons (pv 1) pa_nil))))
      (pss_cons (ps_for PassesOwn.never rfl (pi_seq 1 (pv 1)) (pg_name (i := 2) scBehind.nd rfl (Or.inl rfl)) (pss_one (ps_set (i := 0) scBehind.nd rfl (Or.inl rfl) (pe_m0 (pv 0) T.cl cOp hr (pa_cons (pv 2) pa_nil)))))
      (pss_one (ps_ret (pv 0))))), ?_⟩
    have g : Geo as ls := g
    have ok : OrdOk as ls ws := ok
    have inv : RowInv e as qs := inv
    have he : e ≤ 63 := he
    refine sp_drop (evp_ckR (.var (P := RowAt K C as qs ls) rfl r)) fun _ H1 e1 _ => ?_
    refine sp_drop (evp_ckO (.var (P := RowAt K C as qs ls) rfl (mon_row.mo _ _ _ e1 r)) (Evl.ev_var rfl) (ho.ex e1) g ok) fun _ H2 e2 _ => ?_
    have e02 := e1.trans e2
    refine sp_for (wi_seq rfl (ho.ex e02)) (fun i σ' H' => ∃ v u, σ' = [some v, some (.ref o), u] ∧ RowAt K C as (behindR as qs (ws.take i)) ls v H') (fun H3 e3 => ⟨x, none, rfl, mon_row.mo _ _ _ (e02.trans e3) r⟩) ?_ ?_
    · rintro i y σ' H3 H4 Nx hi e3 ⟨v, u, rfl, rv⟩ ⟨rfl, hx⟩ hN
      obtain ⟨n, hn, rfl⟩ := ord_get hx
      have inv' := RowInv.behind g.ar (ws.take i) inv (take_weirs ok.weirs i)
      refine sp_set1 (P := RowAt K C as (behindR as qs (ws.take (i + 1))) ls) ?_ fun v2 H5 e5 p5 => hN _ _ e5 ⟨v2, some _, rfl, p5⟩
      rw [behind_next hn]
      exact evp_open1 (.var (P := RowAt K C as (behindR as qs (ws.take i)) ls) rfl rv) (Evl.ev_var rfl) g (inRow_ok.mp (ok.ok n (List.mem_of_getElem? hn))) inv' (by have := ok.sm; rw [List.length_take]; omega)
    · rintro σ' H3 e3 ⟨v, u, rfl, rv⟩
      have : (ordV ws).length = ws.length := List.length_map ..
      rw [this, List.take_length] at rv
      exact Evl.s_ret (Evl.ev_var rfl) fun H4 e4 => k _ _ ((e02.trans e3).trans e4) (mon_row.mo _ _ _ e4 rv)
end
end WD
set_option Elab.async false
set_option linter.all false
set_option maxRecDepth 100000
set_option maxHeartbeats 4000000
set_option exponentiation.threshold 500000
namespace WD
open PySem PySem.Spec PyProof.Rows L2 WR WK
open Evl (Ex Ev EvL EvU EvT EvA EvO RV ex_l ex_t)
section
variable {P : Program} {w : World} {K : PySem.W.Frag} {mg : Str → Option Value} {base : Heap} {H H' : Hp} {σ : L2.St} {C fI : Addr} {as ls : List Int} {qs : List Rat} {te ta : TE} {ws : List Nat} {D : Ends} {tz : TS}
/-! ### appending what is evaluated -/
theorem s_appP {P : Hpr} {l : Addr} {xs : List V} (hl : H l = some (.lst xs)) (ha : Ev ta σ H (.ref l)) (h : Evp te σ H P) (hz : xs.length < 100000) (k : ∀ v H1, Ex H H1 → P v H1 → D.nx σ (upd H1 l (.lst (xs ++ [v])))) :
    tDrop (tBM K "list" rAppend ta (tCons te tNil)) D σ H := ha H (Ex.refl H) _ fun H1 e1 =>
  ⟨Or.inl ⟨rfl, xs, SqL.of (e1 l _ hl)⟩, h H1 e1 _ fun v H2 e2 p => ⟨l, xs, v, rfl, rfl, e2 l _ (e1 l _ hl), Evl.sz_lt hz, k v H2 (e1.trans e2) p⟩⟩
theorem q_appP {P : Hpr} {l : Addr} {xs : List V} (hl : H l = some (.lst xs)) (ha : Ev ta σ H (.ref l)) (h : Evp te σ H P) (hz : xs.length < 100000) (k : ∀ v H1, Ex H H1 → P v H1 → tz D σ (upd H1 l (.lst (xs ++ [v])))) :
    tSeq (tDrop (tBM K "list" rAppend ta (tCons te tNil))) tz D σ H := s_appP (D := { D with nx := tz D }) hl ha h hz k
/-! ### rounds_of -/
def RowsL (K : PySem.W.Frag) (C : Addr) (as ls : List Int) (ws : List Nat) (qs : List Rat) (m : Nat) : Hpr := LstP (m + 1) fun j => RowAt K C as (roundsR as ws j qs) ls
structure Setup (as ls : List Int) (ws : List Nat) (qs : List Rat) : Prop where
  g : Geo as ls
  ok : OrdOk as ls ws
  inv : RowInv 0 as qs
theorem Setup.at (S : Setup as ls ws qs) {m : Nat} (hm : m ≤ 13) : RowInv (m * ws.length) as (roundsR as ws m qs) ∧ m * ws.length ≤ 65 :=
  ⟨S.inv.rounds S.g.ar S.ok.weirs m, Nat.le_trans (Nat.mul_le_mul hm S.ok.sm) (by decide)⟩
def spRounds (K : PySem.W.Frag) (C : Addr) : Sp := spS (A := (List Int × List Rat × List Int) × (List Nat × Nat)) (fun a vs H => (∃ x o, vs = [x, .ref o, .int a.2.2] ∧ RowAt K C a.1.1 a.1.2.1 a.1.2.2 x H ∧ SqA K H o (ordV a.2.1)) ∧ Setup a.1.1 a.1.2.2 a.2.1 a.1.2.1 ∧ a.2.2 ≤ 13) (fun a => RowsL K C a.1.1 a.1.2.2 a.2.1 a.1.2.1 a.2.2)
abbrev sRounds : Stmt := top 42
theorem scRounds : FnScope ["row", "order", "many", "found", "turn"] ["row", "order", "many"] (defScope sRounds) := ⟨rfl, rfl, rfl, by decide +kernel, rfl, by decide +kernel, by decide +kernel⟩
theorem evp_behind {e : Nat} {o : Addr} (h : Evp te σ H (RowAt K C as qs ls)) (ho : Ev ta σ H (.ref o)) (hs : SqA K H o (ordV ws)) (g : Geo as ls) (ok : OrdOk as ls ws) (inv : RowInv e as qs) (he : e ≤ 63) : Evp (tCl (spBehind K C) (fun _ => E0) (tCons te (tCons ta tNil))) σ H (RowAt K C as (behindR as qs ws) ls) :=
  evp_cl ((as, qs, ls), (ws, e)) (eap2 h (Evp.of (P := fun v H1 => v = .ref o ∧ SqA K H1 o (ordV ws)) ho fun H1 e => ⟨rfl, hs.ex e⟩)) fun vs H1 _ ⟨x, y, ev, hx, hy, hso⟩ => ⟨⟨x, o, by rw [ev, hy], hx, hso⟩, g, ok, inv, he⟩
theorem rows_grow {l : Addr} {xs : List V} {v : V} {i : Nat} (hl : H l = some (.lst xs)) (hlen : xs.length = i) (h : ∀ j y, xs[j]? = some y → RowAt K C as (roundsR as ws j qs) ls y H) (hv : RowAt K C as (roundsR as ws i qs) ls v H) :
    ∀ j y, (xs ++ [v])[j]? = some y → RowAt K C as (roundsR as ws j qs) ls y (upd H l (.lst (xs ++ [v]))) := by
  intro j y hj
  by_cases hjl : j < xs.length
  · rw [List.getElem?_append_left hjl] at hj
    exact lf_row.lf _ _ _ _ _ hl (h j y hj)
  · have h1 := (List.getElem?_eq_some_iff.mp hj).1
    rw [List.length_append, List.length_singleton] at h1
    have ej : j = xs.length := by omega
    subst ej
    rw [List.getElem?_append_right (Nat.le_refl _)] at hj
    simp at hj
    subst hj
    rw [hlen]
    exact lf_row.lf _ _ _ _ _ hl hv
theorem ev_lastL {i : Nat} {l : Addr} {xs : List V} {v : V} (hs : σ[i]? = some (some (.ref l))) (hl : SqL K H l (xs ++ [v])) : Ev (tOp (rIxL K) (tVar i) (tUn (rU fun i => .int (-i)) (tC (.int 1)))) σ H v :=
  Evl.ev_op (Evl.ev_var hs) (Evl.ev_un Evl.ev_c Evl.ru_neg) (Evl.rv_ixL hl (atI_last xs v))
theorem last_of {xs : List V} {i : Nat} (h : xs.length = i + 1) : ∃ ys v, xs = ys ++ [v] ∧ xs[i]? = some v := by
  refine ⟨xs.dropLast, xs[i], ?_, List.getElem?_eq_getElem (by omega)⟩
  have h0 : xs ≠ [] := fun z => by subst z; cases h
  have e := (List.dropLast_concat_getLast h0).symm
  have e2 : xs.getLast h0 = xs[i] := by
    rw [List.getLast_eq_getElem]
    simp [h]
  rw [e2] at e
  exact e
theorem ok_rounds {f fd} (F : Fun K "rounds_of" "rounds_of" sRounds f fd) (B : Bl mg) (cB : Cal P w K mg base CX0 8 "behind" (spBehind K C)) : FnOk P w K mg base CX0 9 f fd ["row", "order", "many"] (spRounds K C) := by
  refine F.ok scRounds (fun vs H Q E h => ?_) (fun cdv A outer s H vs Q E hr h => ?_)
  · obtain ⟨a, ⟨⟨x, o, rfl, _⟩, _⟩, _⟩ := h
    rfl
  · obtain ⟨⟨⟨as, qs, ls⟩, ws, m⟩, ⟨⟨x, o, rfl, r, ho⟩, S, hm⟩, k⟩ := h
    have S : Setup as ls ws qs := S
    have hm : m ≤ 13 := hm
    refine ⟨_, pss_cons (ps_set (i := 3) scRounds.nd rfl (Or.inl rfl) (pe_lst (pa_cons (pv 0) pa_nil)))
      (pss_cons (ps_for PassesOwn.never rfl (pi_range1 rfl B.rng (pa_cons (pv 2) pa_nil)) (pg_name (i := 4) scRounds.nd rfl (Or.inl rfl))
        (pss_one (ps_expr (pe_bm PySem.F.plainAttrs_list PySem.F.slot_list_append PySem.F.type_list_append mt_append (pv 3) (pa_cons (pe_c0 cB hr (pa_cons (pe_ix ix_list (pv 3) (pe_un un_neg pe_int) (fun _ _ => rfl)) (pa_cons (pv 1) pa_nil))) pa_nil)))))
      (pss_one (ps_ret (pv 3)))), ?_⟩
    refine Evl.q_asgL (Evl.el_lst (Evl.ea_cons (Evl.ev_var rfl) Evl.ea_nil) (by show 1 ≤ 100000; decide)) fun l H1 hl e1 h1 => ?_
    refine Evl.q_forR1 (n := (m : Int)) (Evl.ea_cons (Evl.ev_var rfl) Evl.ea_nil) (by omega) (fun i σ' H' => ∃ xs t, σ' = [some x, some (.ref o), some (.int (m : Nat)), some (.ref l), t] ∧ Ex H H' ∧ H' l = some (.lst xs) ∧ xs.length = i + 1 ∧ ∀ j y, xs[j]? = some y → RowAt K C as (roundsR as ws j qs) ls y H')
      (fun H2 e2 => ⟨[x], none, rfl, e1.trans e2, e2 _ _ h1, rfl, fun j y hj => ?_⟩) ?_ ?_
    · match j, hj with
      | 0, hj =>
        cases (Option.some.inj hj)
        exact mon_row.mo _ _ _ (e1.trans e2) r
      | j + 1, hj => simp at hj
    · rintro i σ' H2 hi ⟨xs, t, rfl, e2, h2, hlen, hx⟩
      obtain ⟨ys, v, rfl, hv⟩ := last_of hlen
      have hi' : i ≤ 12 := by omega
      obtain ⟨inv, he⟩ := S.at (show i ≤ 13 by omega)
      have he : i * ws.length ≤ 63 := Nat.le_trans (Nat.mul_le_mul hi' S.ok.sm) (by decide)
      refine s_appP h2 (Evl.ev_var rfl) (evp_behind (Evp.of (P := RowAt K C as (roundsR as ws i qs) ls) (ev_lastL rfl (SqL.of h2)) fun H3 e3 => mon_row.mo _ _ _ e3 (hx i v hv)) (Evl.ev_var rfl) (ho.ex e2) S.g S.ok inv he) (by omega) fun u H3 e3 pu => ?_
      refine ⟨_, _, rfl, Ex.mut (e2.trans e3) hl, upd_same, by rw [List.length_append, hlen]; rfl, rows_grow (e3 _ _ h2) hlen (fun j y hj => mon_row.mo _ _ _ e3 (hx j y hj)) pu⟩
    · rintro σ' H2 ⟨xs, t, rfl, e2, h2, hlen, hx⟩
      refine Evl.s_ret (Evl.ev_var rfl) fun H3 e3 => k _ _ (e2.trans e3) ⟨l, xs, rfl, e3 _ _ h2, by simpa using hlen, fun j y hj => mon_row.mo _ _ _ e3 (hx j y hj)⟩
/-! ### runs -/
def rLn (C : Addr) (K : PySem.W.Frag) := rLenO C (spLenR K C)
theorem ev_lenRow (h : Evp te σ H (RowAt K C as qs ls)) (hz : as.length ≤ 1000) : Ev (tCB (rLenO C (spLenR K C)) (tCons te tNil)) σ H (.int (as.length : Int)) := fun H1 e Q q => h H1 e _ fun v H2 e2 r => by
  obtain ⟨a, dx, fs, rfl, hi⟩ := r.ins
  exact ⟨a, dx, fs, rfl, hi, (as, qs, ls), ⟨_, rfl, r⟩, fun v H3 e3 hv => ⟨(as.length : Int), hv, by omega, by omega, q H3 (e2.trans e3)⟩⟩
theorem flat_ord (ws : List Nat) : (ordV ws).all flatV = true := by
  unfold ordV
  rw [List.all_map]
  exact List.all_eq_true.mpr fun _ _ => rfl
theorem inV_ord (n : Nat) (ws : List Nat) : inV (.int (n : Nat)) (ordV ws) = decide (n ∈ ws) := by
  induction ws with
  | nil => rfl
  | cons m ws ih =>
    show (((m : Int) == (n : Int)) || inV (.int (n : Nat)) (ordV ws)) = _
    rw [ih]
    by_cases h : m = n
    · simp [h]
    · have h' : ¬ n = m := fun q => h q.symm
      have h2 : ¬ ((m : Int) = (n : Int)) := by omega
      simp [h', h2]
theorem ev_notInA {tb : TE} {n : Nat} {o : Addr} (ha : Ev ta σ H (.int (n : Nat))) (hb : Ev tb σ H (.ref o)) (hs : SqA K H o (ordV ws)) : Ev (tOp (rIn K true) ta tb) σ H (.bl (!decide (n ∈ ws))) := fun H1 e Q q =>
  ha H1 e _ fun H2 e2 => hb H2 (e.trans e2) _ fun H3 e3 => ⟨o, _, rfl, hs.ex ((e.trans e2).trans e3), rfl, flat_ord ws, by rw [inV_ord]; exact q H3 (e2.trans e3)⟩
def spRuns (K : PySem.W.Frag) (C CO : Addr) : Sp := fun vs H Q E => ∃ x o as qs ls ws, vs = [x, .ref o] ∧ RowAt K C as qs ls x H ∧ Geo as ls ∧ SqA K H o (ordV ws) ∧ ws.length ≤ 5 ∧
  OrdPre as ls ws (∀ a xs H', Ex H H' → H a = none → H' a = some (.lst xs) → Prs K H' xs (runsR as.length ws) → Q (.ref a) H') (BadE CO H E)
abbrev sRuns : Stmt := top 37
abbrev nRuns : List Str := ["row", "order", "found", "first", "weir"]
theorem scRuns : FnScope nRuns ["row", "order"] (defScope sRuns) := ⟨rfl, rfl, rfl, by decide +kernel, rfl, by decide +kernel, by decide +kernel⟩
theorem ok_runs {f fd CO fL} (F : Fun K "runs" "runs" sRuns f fd) (B : Bl mg) (O : Own K C "__len__" fL) (cL : FnR P w K mg base CX0 1 fL (spLenR K C)) (cR : Cal P w K mg base CX0 1 "check_row" (spCkR K C)) (cO : Cal P w K mg base (L2.CX P w) 2 "check_order" (spCkO K C CO)) :
    FnOk P w K mg base (L2.CX P w) 4 f fd ["row", "order"] (spRuns K C CO) := by
  refine F.okX scRuns (fun vs H Q E h => ?_) (fun cdv A outer s H vs Q E hr h => ?_)
  · obtain ⟨x, o, as, qs, ls, ws, rfl, _⟩ := h
    rfl
  · obtain ⟨x, o, as, qs, ls, ws, rfl, r, g, ho, hl5, hc⟩ := h
    have hr1 : Room 1 _ := hr.mono (by decide)
    have hr2 : Room 2 _ := hr.mono (by decide)
    have g6 := g.n6
    refine ⟨_, pss_cons (ps_expr (pe_c0 cR hr1 (pa_cons (pv 0) pa_nil))) (pss_cons (ps_expr (pe_cE (takes_of rfl rfl rfl rfl) cO hr2 (pa_cons (pv 0) (pa_cons (pv 1) pa_nil))))
      (pss_cons (ps_par (i := 2) (j := 3) rfl scRuns.nd rfl rfl (by decide) rfl rfl (pa_cons (pe_lst pa_nil) (pa_cons pe_int pa_nil)) (by rfl))
      (pss_cons (ps_for (passes_of rfl) rfl (pi_range2 rfl B.rng (pa_cons pe_int (pa_cons (pe_op op_add (pe_callB (call_lenO O cL hr2 (fun _ _ _ _ _ _ _ h => h.elim)) rfl B.len (by decide +kernel) (pa_cons (pv 0) pa_nil)) pe_int) pa_nil))) (pg_name (i := 4) scRuns.nd rfl (Or.inl rfl))
        (pss_one (ps_if (PW.pt (pw_or (pt_cmpR op_eq (pv 4) (pe_callB (call_lenO O cL hr2 (fun _ _ _ _ _ _ _ h => h.elim)) rfl B.len (by decide +kernel) (pa_cons (pv 0) pa_nil)) (nomark _)) (pw_or1 (pt_cmpR op_notIn_seq (pv 4) (pv 1) rfl))))
          (pss_cons (ps_expr (pe_bm PySem.F.plainAttrs_list PySem.F.slot_list_append PySem.F.type_list_append mt_append (pv 2) (pa_cons (pe_tup (pa_cons (pv 3) (pa_cons (pv 4) pa_nil))) pa_nil))) (pss_one (ps_set (i := 3) scRuns.nd rfl (Or.inl rfl) (pv 4)))) pss_nil)))
      (pss_one (ps_ret (pv 2)))))), ?_⟩
    refine sp_drop (evp_ckR (.var (P := RowAt K C as qs ls) rfl r)) fun _ H1 e1 _ => ?_
    refine ⟨x, rfl, .ref o, rfl, x, o, as, qs, ls, ws, rfl, mon_row.mo _ _ _ e1 r, by omega, ho.ex e1, by omega, ?_⟩
    rcases hc with ⟨hg, k⟩ | ⟨hb, k⟩
    · refine .inl ⟨hg, fun H2 e2 => ?_⟩
      have e02 := e1.trans e2
      have hpar : Evpa (tCons (tLst tNil) (tCons (tC (.int 0)) tNil)) [some x, some (.ref o), none, none, none] H2 (fun vs H' => ∃ l, vs = [.ref l, .int 0] ∧ H l = none ∧ H' l = some (.lst [])) := fun H3 e3 Q3 q3 =>
        Evl.el_lst Evl.ea_nil (by show 0 ≤ 100000; decide) H3 (Ex.refl _) _ fun l H4 hl e4 h4 => q3 _ H4 e4 ⟨l, rfl, Evl.fresh_back (e02.trans e3) hl, h4⟩
      refine sp_par hpar fun vs H3 e3 ⟨l, ev, hl, h3⟩ => ⟨_, _, ev, ?_⟩
      have hrow : ∀ {σ : L2.St} {H1 : Hp}, Ex H H1 → σ[0]? = some (some x) → Evp (tVar 0) σ H1 (RowAt K C as qs ls) := fun e h => .var h (mon_row.mo _ _ _ e r)
      refine Evl.q_forR2 (lo := 1) (n := (as.length : Int) + 1) (Evl.ea_cons Evl.ev_c (Evl.ea_cons (Evl.ev_op (ev_lenRow (hrow (e02.trans e3) rfl) (by omega)) Evl.ev_c Evl.rv_I0) Evl.ea_nil)) (by omega)
        (fun i σ' H' => ∃ xs u, σ' = [some x, some (.ref o), some (.ref l), some (.int ((runsTo as.length ws i).2 : Nat)), u] ∧ Ex H H' ∧ H' l = some (.lst xs) ∧ Prs K H' xs (runsTo as.length ws i).1 ∧ xs.length ≤ i)
        (fun H4 e4 => ⟨[], none, rfl, (e02.trans e3).trans e4, e4 _ _ h3, .nil, Nat.zero_le _⟩) ?_ ?_
      · rintro i σ' H4 hi ⟨xs, u, rfl, e4, h4, hp, hxl⟩
        have ei : V.int ((1 : Int) + (i : Int)) = V.int ((i + 1 : Nat) : Int) := by congr 1; omega
        show _
        rw [ei]
        have hstep : runsTo as.length ws (i + 1) = if i + 1 = as.length ∨ i + 1 ∉ ws then ((runsTo as.length ws i).1 ++ [((runsTo as.length ws i).2, i + 1)], i + 1) else runsTo as.length ws i := rfl
        refine Evl.s_if (b := decide (i + 1 = as.length) || !decide (i + 1 ∈ ws)) (Evl.et_or (Evl.et_is (Evl.et_test (Evl.ev_op (Evl.ev_var rfl) (ev_lenRow (hrow e4 rfl) (by omega)) (Evl.rv_eq rfl))) ?_) (fun _ => Evl.et_test (ev_notInA (Evl.ev_var rfl) (Evl.ev_var rfl) (ho.ex e4)))) (fun hb H5 e5 => ?_) (fun hb H5 e5 => ?_)
        · apply decide_eq_decide.mpr
          rw [V.int.injEq]
          omega
        · have hc : i + 1 = as.length ∨ i + 1 ∉ ws := by
            rcases Bool.or_eq_true_iff.mp hb with h | h
            · exact .inl (of_decide_eq_true h)
            · exact .inr (by simpa using h)
          rw [if_pos hc] at hstep
          refine q_appP (P := fun v H => ∃ p, v = .ref p ∧ H p = some (.tup [.int ((runsTo as.length ws i).2 : Nat), .int ((i + 1 : Nat) : Int)])) (e5 _ _ h4) (Evl.ev_var rfl) (fun H6 e6 Q6 q6 => Evl.eu_tup (Evl.ea_cons (Evl.ev_var rfl) (Evl.ea_cons (Evl.ev_var rfl) Evl.ea_nil)) (by show 2 ≤ 100000; decide) H6 (Ex.refl _) _ fun p H7 hp e7 h7 => q6 _ H7 e7 ⟨p, rfl, h7⟩) (by omega) fun v H6 e6 ⟨p, ev, h6⟩ => ?_
          refine Evl.s_asg (Evl.ev_var rfl) fun H7 e7 => ?_
          have hl6 : H6 l = some (.lst xs) := e6 _ _ (e5 _ _ h4)
          refine ⟨xs ++ [v], _, by rw [hstep]; rfl, (Ex.mut ((e4.trans e5).trans e6) hl).trans e7, e7 _ _ upd_same, ?_, by rw [List.length_append]; show xs.length + 1 ≤ i + 1; omega⟩
          rw [hstep]
          refine Paired.app (Paired.mapP hp fun y q hy => PrAt.mono e7 (lf_pr.lf _ _ _ _ _ hl6 (PrAt.mono (e5.trans e6) hy))) (.cons ?_ .nil)
          subst ev
          exact PrAt.mono e7 (lf_pr.lf _ _ _ _ _ hl6 ⟨p, rfl, SqT.of h6⟩)
        · have hc : ¬ (i + 1 = as.length ∨ i + 1 ∉ ws) := by
            rw [Bool.or_eq_false_iff] at hb
            rintro (h | h)
            · exact of_decide_eq_false hb.1 h
            · exact h (by simpa using hb.2)
          rw [if_neg hc] at hstep
          refine ⟨xs, _, by rw [hstep]; rfl, e4.trans e5, e5 _ _ h4, ?_, by omega⟩
          rw [hstep]
          exact Paired.mapP hp fun y q hy => PrAt.mono e5 hy
      · rintro σ' H4 ⟨xs, u, rfl, e4, h4, hp, hxl⟩
        have en : ((as.length : Int) + 1 - 1).toNat = as.length := by omega
        rw [en] at hp
        exact Evl.s_ret (Evl.ev_var rfl) fun H5 e5 => k l xs H5 (e4.trans e5) hl (e5 _ _ h4) (Paired.mapP hp fun y q hy => PrAt.mono e5 hy)
    · exact .inr ⟨hb, k.mono e1⟩
end
end WD
set_option Elab.async false
set_option linter.all false
set_option maxRecDepth 100000
set_option maxHeartbeats 4000000
set_option exponentiation.threshold 500000
namespace WD
open PySem PySem.Spec PyProof.Rows L2 WR WK
open Evl (Ex Ev EvL EvU EvT EvA EvO RV ex_l ex_t)
section
variable {P : Program} {w : World} {K : PySem.W.Frag} {mg : Str → Option Value} {base : Heap} {H H' : Hp} {σ : L2.St} {C fI : Addr} {as ls : List Int} {qs : List Rat} {te ta : TE} {ws : List Nat} {D : Ends} {tz : TS}
/-! ### limit -/
theorem evp_total (h : Evp te σ H (FrsT K qs)) (hl : qs.length ≤ 10) (hb : ∀ q ∈ qs, Bk 100 q) : Evp (tCl (spTotal K) (fun _ => E0) (tCons te tNil)) σ H (FrAt K qs.sum) := evp_cl qs (eap1 h) fun vs H1 _ h => ⟨h, hl, hb⟩
theorem ev_sumT {ns : List Int} (h : Evp te σ H (IntsT K ns)) : Ev (tCB (rSumT K) (tCons te tNil)) σ H (.int ns.sum) := fun H1 e Q q => h H1 e _ fun v H2 e2 ⟨a, ev, s⟩ => ⟨a, ns, by rw [ev], s, q H2 e2⟩
theorem era_tL {D a : Addr} {zs xs : List V} (hD : H D = some (.lst zs)) (h : SqT K H a xs) : SqT K (era D H) a xs := by
  rcases h with (h | ⟨o, h⟩) | h
  · exact .inl (.inl (era_at h (ne_of h hD (by intro q; cases q))))
  · exact .inl (.inr ⟨o, era_at h (ne_of h hD (by intro q; cases q))⟩)
  · exact .inr h
def spLimit (K : PySem.W.Frag) (C CO : Addr) : Sp := fun vs H Q E => ∃ x o as qs ls ws, vs = [x, .ref o] ∧ RowAt K C as qs ls x H ∧ Geo as ls ∧ RowInv 0 as qs ∧ SqA K H o (ordV ws) ∧ ws.length ≤ 5 ∧
  OrdPre as ls ws (∀ v H', Ex H H' → RowAt K C as (goalR as qs ws) ls v H' → Q v H') (BadE CO H E)
abbrev sLimit : Stmt := top 38
abbrev nLimit : List Str := ["row", "order", "volumes", "first", "last", "areas", "height", "area"]
theorem scLimit : FnScope nLimit ["row", "order"] (defScope sLimit) := ⟨rfl, rfl, rfl, by decide +kernel, rfl, by decide +kernel, by decide +kernel⟩
theorem inv0_bk {as : List Int} (ha : Areas as) {v : List Rat} (r : RowInv 0 as v) : (∀ q ∈ v, Bk 9 q) ∧ ∀ q ∈ v, 0 ≤ q := ⟨fun q hq => by
  obtain ⟨i, _, rfl⟩ := vo_mem hq
  exact r.bk ha i, fun q hq => by
  obtain ⟨i, _, rfl⟩ := vo_mem hq
  exact r.lo i⟩
theorem evens_next {ps : List (Nat × Nat)} {i : Nat} {p : Nat × Nat} (h : ps[i]? = some p) : evens as qs (ps.take (i + 1)) = evens as qs (ps.take i) ++ evenOf as qs p.1 p.2 := by
  obtain ⟨f, l⟩ := p
  rw [List.take_add_one, h]
  exact evens_append as qs (ps.take i) f l
theorem evens_len {ps : List (Nat × Nat)} (h : ∀ p ∈ ps, p.2 ≤ as.length) : (evens as qs ps).length ≤ as.length * ps.length := by
  induction ps with
  | nil => exact Nat.zero_le _
  | cons p ps ih =>
    have h1 := ih fun q hq => h q (List.mem_cons_of_mem _ hq)
    have h2 : (evenOf as qs p.1 p.2).length = p.2 - p.1 := evenOf_length as qs p.1 p.2 (h p (List.mem_cons_self ..))
    have h3 := h p (List.mem_cons_self ..)
    show (evenOf as qs p.1 p.2 ++ evens as qs ps).length ≤ _
    rw [List.length_append, List.length_cons, Nat.mul_succ]
    omega
theorem runs_len (n : Nat) (ws : List Nat) : ∀ k, (runsTo n ws k).1.length ≤ k
  | 0 => Nat.le_refl _
  | k + 1 => by
    have := runs_len n ws k
    unfold runsTo
    split
    · rw [List.length_append]
      show _ + 1 ≤ _
      omega
    · omega
theorem goal_vol (g : Geo as ls) (inv : RowInv 0 as qs) : VolOk as (goalR as qs ws) := by
  obtain ⟨b1, b2⟩ := inv0_bk g.ar inv
  have h := goal_ok g.ar g.n6 b1 b2 (ws := ws)
  exact ⟨goalR_length as qs ws (by have := g.n1; omega), fun q hq => (h q hq).1, fun q hq => (h q hq).2.mono (by decide)⟩
theorem ok_limit {f fd CO} (F : Fun K "limit" "limit" sLimit f fd) (B : Bl mg) (T : RowTxt K mg C fI) (cRu : Cal P w K mg base (L2.CX P w) 4 "runs" (spRuns K C CO)) (cOv : Cal P w K mg base CX0 3 "over" (spOver K)) (cTo : Cal P w K mg base CX0 4 "total" (spTotal K))
    (cP1 : Cal P w K mg base CX0 2 "part" (spPart1 K)) (cTi : Cal P w K mg base CX0 3 "times" (spBin K (· * ·))) (cWi : CalM P w K mg base CX0 6 C "with_volumes" (spWith K C)) : FnOk P w K mg base (L2.CX P w) 7 f fd ["row", "order"] (spLimit K C CO) := by
  refine F.okX scLimit (fun vs H Q E h => ?_) (fun cdv A outer s H vs Q E hr h => ?_)
  · obtain ⟨x, o, as, qs, ls, ws, rfl, _⟩ := h
    rfl
  · obtain ⟨x, o, as, qs, ls, ws, rfl, r, g, inv, ho, hl5, hc⟩ := h
    have hr2 : Room 2 _ := hr.mono (by decide)
    have hr3 : Room 3 _ := hr.mono (by decide)
    have hr4 : Room 4 _ := hr.mono (by decide)
    have g6 := g.n6
    refine ⟨_, pss_cons (ps_set (i := 2) scLimit.nd rfl (Or.inl rfl) (pe_lst pa_nil))
      (pss_cons (ps_for (passes_of rfl) rfl (pi_list (pe_cE (takes_of rfl rfl rfl rfl) cRu hr4 (pa_cons (pv 0) (pa_cons (pv 1) pa_nil)))) (pg_tup rfl (pgs_cons (pg_name (i := 3) scLimit.nd rfl (Or.inl rfl)) (pgs_cons (pg_name (i := 4) scLimit.nd rfl (Or.inl rfl)) pgs_nil)))
        (pss_cons (ps_set (i := 5) scLimit.nd rfl (Or.inl rfl) (pe_slice sl_tupA (pe_fld (pv 0) rfl) (po_some (pv 3)) (po_some (pv 4))))
        (pss_cons (ps_set (i := 6) scLimit.nd rfl (Or.inr rfl) (pe_c0 cOv hr3 (pa_cons (pe_c0 cTo hr4 (pa_cons (pe_slice sl_tupA (pe_fld (pv 0) rfl) (po_some (pv 3)) (po_some (pv 4))) pa_nil)) (pa_cons (pe_c0 cP1 hr2 (pa_cons (pe_callB (cr_sumT rfl) rfl B.sum (by decide +kernel) (pa_cons (pv 5) pa_nil)) pa_nil)) pa_nil))))
        (pss_one (ps_aug (i := 2) scLimit.nd rfl (Or.inl rfl) (pe_lc (own := [("area", 7)]) (g := gName 7) (tt := tYes) rfl scLimit.nd (pi_tup (pv 5)) (blkOk_by (N := nLimit) (sc := defScope sLimit) (by decide +kernel))
          (fun _ _ _ _ _ => pg_name (i := 7) scLimit.nd rfl (Or.inl rfl)) (fun _ _ _ _ _ => pts_nil) (fun _ _ _ _ _ => pe_c0 cTi hr3 (pa_cons (pv 6) (pa_cons (pe_c0 cP1 hr2 (pa_cons (pv 7) pa_nil)) pa_nil)))) iop_ext)))))
      (pss_one (ps_ret (pe_m0 (pv 0) T.cl cWi hr (pa_cons (pv 2) pa_nil))))), ?_⟩
    refine Evl.q_asgL (Evl.el_lst Evl.ea_nil (by show 0 ≤ 100000; decide)) fun l H1 hl e1 h1 => ?_
    refine ⟨x, rfl, .ref o, rfl, x, o, as, qs, ls, ws, rfl, mon_row.mo _ _ _ e1 r, g, ho.ex e1, hl5, ?_⟩
    rcases hc with ⟨hg, k⟩ | ⟨hb, k⟩
    · refine .inl ⟨hg, fun a xs H2 e2 ha h2 hp => ⟨a, rfl, ⟨xs, SqL.of h2⟩, ?_⟩⟩
      have nla : l ≠ a := ne_of_none h1 ha
      have hl2 : H2 l = some (.lst []) := e2 _ _ h1
      have eB : Ex H (era l H2) := fun b o' h => era_at (e2 _ _ (e1 _ _ h)) (ne_of_none h hl)
      have hBa : era l H2 a = some (.lst xs) := era_at h2 nla.symm
      have hBp : Prs K (era l H2) xs (runsR as.length ws) := Paired.mapP hp fun v p ⟨T, e, s⟩ => ⟨T, e, era_tL hl2 s⟩
      have hBl : era l H2 l = none := era_none l H2
      have eB2 := era_ex l H2
      generalize era l H2 = Bs at *
      obtain ⟨b9, b0⟩ := inv0_bk g.ar inv
      have hln := inv.len
      have hrow : ∀ {σ : L2.St} {H1 : Hp}, Ex Bs H1 → σ[0]? = some (some x) → Evp (tVar 0) σ H1 (RowAt K C as qs ls) := fun e h => .var h (mon_row.mo _ _ _ (eB.trans e) r)
      refine for_list (K := K) (a := a) (xs := xs) (fun i σ' H' => ∃ vs u3 u4 u5 u6, σ' = [some x, some (.ref o), some (.ref l), u3, u4, u5, u6, none] ∧ Ex Bs H' ∧ H' l = some (.lst vs) ∧ Frs K H' vs (evens as qs ((runsR as.length ws).take i)))
        ⟨[], none, none, none, none, rfl, eB2, hl2, .nil⟩ (fun i σ' H' _ ⟨_, _, _, _, _, _, e, _⟩ => SqL.of (e _ _ hBa)) ?_ ?_
      · rintro i y σ' H3 hy ⟨vs, u3, u4, u5, u6, rfl, e3, h3, hf⟩
        obtain ⟨⟨f1, l1⟩, hq, pr⟩ := Paired.get' hBp hy
        obtain ⟨m1, m2⟩ := runs_mem (List.mem_of_getElem? hq)
        have m1 : f1 < l1 := m1
        have m2 : l1 ≤ as.length := m2
        obtain ⟨T', rfl, sT⟩ := PrAt.mono e3 pr
        refine gtup2 sT ?_
        obtain ⟨c1, c2, c3, c4⟩ := even_bk g.ar g.n6 b9 b0 m1 m2
        obtain ⟨s1, s2⟩ := cut_sum g.ar g.n6 m1 m2
        have hi : ∀ {n : Nat}, n = as.length → HT.sIx n 0 (some (f1 : Int)) = f1 ∧ HT.sIx n n (some (l1 : Int)) = l1 := fun e => by
          subst e
          exact ⟨by rw [HT.sIx_nat]; omega, by rw [HT.sIx_nat]; omega⟩
        -- areas
        refine sp_set (evp_slI (a := f1) (b := l1) (evp_areas T (hrow e3 rfl)) (Evl.eo_some (Evl.ev_var rfl)) (Evl.eo_some (Evl.ev_var rfl)) (hi rfl).1 (hi rfl).2) fun va H4 e4 pa => ?_
        have pa : IntsT K (cut as f1 l1) va H4 := pa
        -- height
        refine sp_set (evp_overF (evp_total (evp_slF (a := f1) (b := l1) (evp_vols T (hrow (e3.trans e4) rfl)) (Evl.eo_some (Evl.ev_var rfl)) (Evl.eo_some (Evl.ev_var rfl)) (hi hln).1 (hi hln).2) (by show (cut qs f1 l1).length ≤ 10; rw [cut_length]; omega) (fun q hq => (b9 q (cut_mem hq)).mono (by decide)))
          (evp_part1 (ev_sumT (.var (P := IntsT K (cut as f1 l1)) rfl pa)) (by have : (cut as f1 l1).sum.natAbs < 2 ^ 5 := by { show _ < 32; omega }; exact Nat.lt_of_lt_of_le this (Nat.pow_le_pow_right (by decide) (by decide)))) c4 (Bk.mono (show Bk 61 (WD.sub f1 l1 qs).sum from c1) (by decide)) (c3.mono (by decide))) fun vh H5 e5 ph => ?_
        have ph : FrAt K ((cut qs f1 l1).sum / rt (cut as f1 l1).sum 1) vh H5 := ph
        have bh : Bk 66 ((cut qs f1 l1).sum / rt (cut as f1 l1).sum 1) := c1.div c3 c4
        -- volumes +=
        refine ⟨.ref l, rfl, ?_⟩
        have hlc := evp_lc (wi := iTup K (tVar 5)) (σ := [some x, some (.ref o), some (.ref l), some (.int (f1 : Nat)), some (.int (l1 : Nat)), some va, some vh, none]) (H := H5) (te := tCl (spBin K (· * ·)) (fun _ => E0) (tCons (tVar 6) (tCons (tCl (spPart1 K) (fun _ => E0) (tCons (tVar 7) tNil)) tNil))) (vs := [7]) (g := gName 7)
          (wi_tup (xs := (cut as f1 l1).map V.int) (.var (i := 5) rfl (P := fun v H => ∃ b, v = .ref b ∧ SqT K H b ((cut as f1 l1).map V.int)) (mon_intsT.mo _ _ _ e5 pa) (m := mon_intsT))) (fun i => FrAt K ((evenOf as qs f1 l1).getD i 0)) (fun _ => mon_pr) (fun _ => lf_pr) (by rw [List.length_map, cut_length]; omega) (by
            rintro j z H6 H7 hj e6 ⟨rfl, hz⟩
            rw [List.getElem?_map] at hz
            obtain ⟨n, hn, rfl⟩ := Option.map_eq_some_iff.mp hz
            obtain ⟨n1, n2, n3⟩ := Areas.bk g.ar (cut_mem (List.mem_of_getElem? hn))
            refine ⟨Ex.refl _, _, fun R r => r, rfl, ?_⟩
            have ee : (evenOf as qs f1 l1).getD j 0 = (cut qs f1 l1).sum / rt (cut as f1 l1).sum 1 * rt n 1 := by
              rw [List.getD_eq_getElem?_getD, evenOf, List.getElem?_map, hn, rt_one, rt_one]
              rfl
            rw [ee]
            exact evp_binF (g := (· * ·)) (.var (P := FrAt K _) rfl (PrAt.mono e6 ph)) (evp_part1 (Evl.ev_var rfl) n3) (bh.mono (by decide)) (n1.mono (by decide)))
        refine hlc H5 (Ex.refl _) _ fun v6 H6 e6 p6 => ?_
        obtain ⟨b, zs, rfl, hb, hz⟩ := p6.frs (by rw [List.length_map, cut_length, evenOf_length as qs f1 l1 m2]; omega)
        have hl6 : H6 l = some (.lst vs) := e6 _ _ (e5 _ _ (e4 _ _ h3))
        have e36 := (e4.trans e5).trans e6
        have hvl : vs.length + zs.length ≤ 100 := by
          have z1 := hf.length
          have z2 := hz.length
          have z3 : (evens as qs ((runsR as.length ws).take i)).length ≤ as.length * ((runsR as.length ws).take i).length := evens_len fun p hp => (runs_mem (List.mem_of_mem_take hp)).2
          have z4 : ((runsR as.length ws).take i).length ≤ 6 := by
            have := runs_len as.length ws as.length
            rw [List.length_take]
            show min i (runsTo as.length ws as.length).1.length ≤ 6
            omega
          have z5 : as.length * ((runsR as.length ws).take i).length ≤ 6 * 6 := Nat.mul_le_mul g6 z4
          rw [evenOf_length as qs f1 l1 m2] at z2
          omega
        refine ⟨l, b, vs, zs, rfl, rfl, hl6, hb, Nat.le_trans hvl (by decide), ?_⟩
        refine ⟨vs ++ zs, _, _, _, _, rfl, Ex.mut (e3.trans e36) hBl, upd_same, ?_⟩
        rw [evens_next hq]
        exact Paired.app (Paired.mapP hf fun v q h => lf_pr.lf _ _ _ _ _ hl6 (PrAt.mono e36 h)) (Paired.mapP hz fun v q h => lf_pr.lf _ _ _ _ _ hl6 h)
      · rintro σ' H3 ⟨vs, u3, u4, u5, u6, rfl, e3, h3, hf⟩
        rw [hBp.length, List.take_length] at hf
        refine sp_ret (evp_with (row_m (by decide +kernel) (by decide +kernel) (by decide +kernel)) (hrow e3 rfl) (rs := goalR as qs ws) (.var rfl ⟨l, vs, rfl, SqL.of h3, hf⟩) g (goal_vol g inv)) fun v H4 e4 p => k v H4 ((eB.trans e3).trans e4) p
    · exact .inr ⟨hb, k.mono e1⟩
end
end WD
set_option Elab.async false
set_option linter.all false
set_option maxRecDepth 100000
set_option maxHeartbeats 4000000
set_option exponentiation.threshold 500000
namespace WD
open PySem PySem.Spec PyProof.Rows L2 WR WK
open Evl (Ex Ev EvL EvU EvT EvA EvO RV ex_l ex_t)
section
variable {P : Program} {w : World} {K : PySem.W.Frag} {mg : Str → Option Value} {base : Heap} {H H' : Hp} {σ : L2.St} {C fI : Addr} {as ls : List Int} {qs rs : List Rat} {te ta tb : TE} {ws : List Nat} {D : Ends} {tz : TS}
theorem lc_zipE {g : TG} {tt : TT} {us : List Nat} {P : Hpr} {t : TA} {S : List V → Hp → Prop} (h : Evpa t σ H S) (k : ∀ vs H2, Ex H H2 → S vs H2 → ∃ a b xs ys, vs = [.ref a, .ref b] ∧ SqL K H2 a xs ∧ SqL K H2 b ys ∧ Evp (tLc (fun σ H R => R (Itz K a b) H) g tt te us) σ H2 P) :
    Evp (tLc (RZ.iZipA K t) g tt te us) σ H P := fun H1 e Q q => h H1 e _ fun vs H2 e2 s => by
  obtain ⟨a, b, xs, ys, ev, s1, s2, hk⟩ := k vs H2 (e.trans e2) s
  exact ⟨a, b, xs, ys, ev, .inl ⟨s1, s2, hk H2 (Ex.refl _) Q fun v H3 e3 p => q v H3 (e2.trans e3) p⟩⟩
/-! ### distance -/
structure DisOk (as : List Int) (qs rs : List Rat) : Prop where
  ar : Areas as
  n1 : 1 ≤ as.length
  n6 : as.length ≤ 6
  l1 : qs.length = as.length
  l2 : rs.length = as.length
  b1 : ∀ q ∈ qs, Bk 700 q
  b2 : ∀ q ∈ rs, Bk 700 q
def spDist (K : PySem.W.Frag) (C : Addr) : Sp := spS (A := (List Int × List Int) × (List Rat × List Rat)) (fun a vs H => (∃ x y, vs = [x, y] ∧ RowAt K C a.1.1 a.2.1 a.1.2 x H ∧ RowAt K C a.1.1 a.2.2 a.1.2 y H) ∧ DisOk a.1.1 a.2.1 a.2.2) (fun a => FrAt K (gapR a.1.1 a.2.1 a.2.2))
theorem evp_dist (h : Evp ta σ H (RowAt K C as qs ls)) (h2 : Evp tb σ H (RowAt K C as rs ls)) (ok : DisOk as qs rs) : Evp (tCl (spDist K C) (fun _ => E0) (tCons ta (tCons tb tNil))) σ H (FrAt K (gapR as qs rs)) :=
  evp_cl ((as, ls), (qs, rs)) (eap2 h h2) fun vs H1 _ h => ⟨h, ok⟩
theorem evp_great {q : Rat} (h : Evp te σ H (FrsL K (q :: qs))) (hl : qs.length < 10000) (hb : ∀ p ∈ q :: qs, Bk 2200 p) : Evp (tCl (spGreat K) (fun _ => E0) (tCons te tNil)) σ H (FrAt K (qs.foldl maxR q)) :=
  evp_cl (q, qs) (eap1 h) fun vs H1 _ h => ⟨h, hl, hb⟩
theorem evp_hts (h : Evp te σ H (RowAt K C as qs ls)) (ar : Areas as) (n6 : as.length ≤ 6) (l1 : qs.length = as.length) (b1 : ∀ q ∈ qs, Bk 700 q) : Evp (tMt C "heights" (spHts K C) (fun _ => E0) te tNil) σ H (FrsL K (hts as qs)) :=
  evp_mt (as, qs, ls) h eap_nil (fun x H1 _ hx => row_m (by decide +kernel) (by decide +kernel) (by decide +kernel) x H1 hx) fun x vs H1 _ px ev => ⟨⟨x, by rw [ev], px⟩, ar, n6, l1, b1⟩
theorem hts_bk (ar : Areas as) (b1 : ∀ q ∈ qs, Bk 700 q) {i : Nat} {h : Rat} (hh : (hts as qs)[i]? = some h) : Bk 703 h := by
  unfold hts at hh
  rw [List.getElem?_zipWith] at hh
  cases e1 : qs[i]? with
  | none => rw [e1] at hh; simp at hh
  | some q =>
    cases e2 : as[i]? with
    | none => rw [e1, e2] at hh; simp at hh
    | some a =>
      rw [e1, e2] at hh
      have e : q / (a : Rat) = h := by simpa using hh
      obtain ⟨c1, c2, _⟩ := Areas.bk ar (List.mem_of_getElem? e2)
      rw [← e, ← rt_one]
      exact (b1 q (List.mem_of_getElem? e1)).div c1 c2
theorem difs_get3 {i : Nat} {h k : Rat} (h1 : (hts as qs)[i]? = some h) (h2 : (hts as rs)[i]? = some k) : (difs as qs rs).getD i 0 = abR (h - k) := by
  rw [List.getD_eq_getElem?_getD, difs, List.getElem?_zipWith, h1, h2]
  rfl
abbrev sDist : Stmt := top 39
theorem scDist : FnScope ["one", "other", "mine", "theirs"] ["one", "other"] (defScope sDist) := ⟨rfl, rfl, rfl, by decide +kernel, rfl, by decide +kernel, by decide +kernel⟩
theorem gap_cons (ok : DisOk as qs rs) : ∃ d ds, difs as qs rs = d :: ds ∧ gapR as qs rs = ds.foldl maxR d ∧ ds.length < 10000 ∧ ∀ q ∈ d :: ds, Bk 1407 q := by
  have hl := difs_length as qs rs ok.l1 ok.l2
  have n1 := ok.n1
  have n6 := ok.n6
  have hb : ∀ q ∈ difs as qs rs, Bk 1407 q := fun q hq => by
    obtain ⟨i, hi⟩ := List.getElem?_of_mem hq
    have hi' := hi
    unfold difs at hi
    rw [List.getElem?_zipWith] at hi
    cases e1 : (hts as qs)[i]? with
    | none => rw [e1] at hi; simp at hi
    | some h =>
      cases e2 : (hts as rs)[i]? with
      | none => rw [e1, e2] at hi; simp at hi
      | some k =>
        rw [e1, e2] at hi
        have e : abR (h - k) = q := by simpa using hi
        rw [← e]
        exact Bk.abs ((hts_bk ok.ar ok.b1 e1).sub (hts_bk ok.ar ok.b2 e2))
  cases hd : difs as qs rs with
  | nil => rw [hd] at hl; simp at hl; omega
  | cons d ds =>
    rw [hd] at hl hb
    refine ⟨d, ds, rfl, ?_, by simp at hl; omega, hb⟩
    unfold gapR
    rw [hd]
    refine fold_head d ds ?_
    have hd0 : (difs as qs rs)[0]? = some d := by rw [hd]; rfl
    unfold difs at hd0
    rw [List.getElem?_zipWith] at hd0
    cases e1 : (hts as qs)[0]? with
    | none => rw [e1] at hd0; simp at hd0
    | some h =>
      cases e2 : (hts as rs)[0]? with
      | none => rw [e1, e2] at hd0; simp at hd0
      | some k =>
        rw [e1, e2] at hd0
        have e : abR (h - k) = d := by simpa using hd0
        rw [← e]
        exact abR_nonneg _
theorem ok_dist {f fd} (F : Fun K "distance" "distance" sDist f fd) (B : Bl mg) (T : RowTxt K mg C fI) (cH : CalM P w K mg base CX0 4 C "heights" (spHts K C)) (cG : Cal P w K mg base CX0 2 "greatest" (spGreat K)) (cS : Cal P w K mg base CX0 1 "size_of" (spSize K)) (cM : Cal P w K mg base CX0 3 "minus" (spBin K (· - ·))) :
    FnOk P w K mg base CX0 5 f fd ["one", "other"] (spDist K C) := by
  refine F.ok scDist (fun vs H Q E h => ?_) (fun cdv A outer s H vs Q E hr h => ?_)
  · obtain ⟨a, ⟨⟨x, y, rfl, _⟩, _⟩, _⟩ := h
    rfl
  · obtain ⟨⟨⟨as, ls⟩, qs, rs⟩, ⟨⟨x, y, rfl, r1, r2⟩, ok⟩, k⟩ := h
    have ok : DisOk as qs rs := ok
    have hr1 : Room 1 _ := hr.mono (by decide)
    have hr2 : Room 2 _ := hr.mono (by decide)
    have hr3 : Room 3 _ := hr.mono (by decide)
    refine ⟨_, pss_one (ps_ret (pe_c0 cG hr2 (pa_cons (pe_lc (own := [("mine", 2), ("theirs", 3)]) (g := gTup K 2 (gCons (gName 2) (gCons (gName 3) gNil))) (tt := tYes) rfl scDist.nd (RZ.pi_zipA rfl B.zip (pa_cons (pe_m00 (pv 0) T.cl cH hr) (pa_cons (pe_m00 (pv 1) T.cl cH hr) pa_nil))) (blkOk_by (N := ["one", "other", "mine", "theirs"]) (sc := defScope sDist) (by decide +kernel))
      (fun _ _ _ _ _ => pg_tup rfl (pgs_cons (pg_name (i := 2) scDist.nd rfl (Or.inl rfl)) (pgs_cons (pg_name (i := 3) scDist.nd rfl (Or.inl rfl)) pgs_nil))) (fun _ _ _ _ _ => pts_nil)
      (fun _ _ _ _ _ => pe_c0 cS hr1 (pa_cons (pe_c0 cM hr3 (pa_cons (pv 2) (pa_cons (pv 3) pa_nil))) pa_nil))) pa_nil))), ?_⟩
    obtain ⟨d, ds, e1, e2, e3, e4⟩ := gap_cons ok
    have hx := evp_hts (σ := [some x, some y, none, none]) (.var (i := 0) (P := RowAt K C as qs ls) rfl r1) ok.ar ok.n6 ok.l1 ok.b1
    have hy := evp_hts (σ := [some x, some y, none, none]) (.var (i := 1) (P := RowAt K C as rs ls) rfl r2) ok.ar ok.n6 ok.l2 ok.b2
    have k : ∀ v H', Ex H H' → FrAt K (gapR as qs rs) v H' → Q v H' := k
    rw [e2] at k
    refine sp_ret (evp_great ?_ e3 (fun q hq => (e4 q hq).mono (by decide))) k
    -- the list: both heights first
    refine lc_zipE (eap2 hx hy) fun vs H2 eH ⟨u, v, ev, ⟨a1, xs1, eu, s1, f1⟩, ⟨a2, xs2, ev2, s2, f2⟩⟩ => ?_
    subst eu ev2
    have hl1 : xs1.length = as.length := f1.length.trans (hts_length as qs ok.l1)
    have hl2 : xs2.length = as.length := f2.length.trans (hts_length as rs ok.l2)
    refine ⟨a1, a2, xs1, xs2, ev, s1, s2, ?_⟩
    have n6 := ok.n6
    have hlc := evp_lc (wi := fun σ H R => R (Itz K a1 a2) H) (σ := [some x, some y, none, none]) (H := H2) (te := tCl (spSize K) (fun _ => E0) (tCons (tCl (spBin K (· - ·)) (fun _ => E0) (tCons (tVar 2) (tCons (tVar 3) tNil))) tNil)) (vs := [2, 3]) (g := gTup K 2 (gCons (gName 2) (gCons (gName 3) gNil)))
      (n := min xs1.length xs2.length) (Y := YPair (fun i => xs1[i]?) (fun i => xs2[i]?)) (fun H3 e6 R q => q _ H3 _ (Ex.refl _) (walk_zip (K := K) (a := a1) (b := a2) (xs := xs1) (ys := xs2) rfl) fun H4 e7 => ⟨ex_l (e6.trans e7) s1, ex_l (e6.trans e7) s2⟩)
      (fun i => FrAt K ((difs as qs rs).getD i 0)) (fun _ => mon_pr) (fun _ => lf_pr) (by omega) (by
        rintro j z H6 H7 hj e6 yy
        obtain ⟨e7, T', u', v', rfl, hT, hu, hv⟩ := YPair.use (K := K) yy
        obtain ⟨h, hh, ph⟩ := Paired.get' f1 hu
        obtain ⟨k', hk, pk⟩ := Paired.get' f2 hv
        refine ⟨e7, _, fun R r => gtup2 hT r, rfl, ?_⟩
        rw [difs_get3 hh hk]
        exact evp_size (evp_binF (g := (· - ·)) (.var (P := FrAt K h) rfl (PrAt.mono (e6.trans e7) ph)) (.var (P := FrAt K k') rfl (PrAt.mono (e6.trans e7) pk)) ((hts_bk ok.ar ok.b1 hh).mono (by decide)) ((hts_bk ok.ar ok.b2 hk).mono (by decide))))
    refine hlc.imp fun v H3 e6 h => ?_
    obtain ⟨a, ys, ea, hy, hf⟩ := h.frs (by rw [difs_length as qs rs ok.l1 ok.l2]; omega)
    rw [e1] at hf
    exact ⟨a, ys, ea, SqL.of hy, hf⟩
/-! ### an object of one field: Settles, Tends -/
structure OneTxt (K : PySem.W.Frag) (mg : Str → Option Value) (x : Str) (C : Addr) (f : Str) (fI : Addr) : Prop where
  cl : Cls K C
  na : NoAttr K C f
  g : mg x = some (.ref C)
  mc : Mk K C fI
def OneAt (C : Addr) (f : Str) (P : Hpr) : Hpr := fun v H => ∃ r dx u, v = .ref r ∧ H r = some (.ins C dx [(f, u)]) ∧ P u H
instance mon_one {f : Str} {P : Hpr} [m : Mon P] : Mon (OneAt C f P) := ⟨fun v H H' e ⟨r, dx, u, h1, h2, h3⟩ => ⟨r, dx, u, h1, e _ _ h2, m.mo _ _ _ e h3⟩⟩
def spOne (C : Addr) (f : Str) : Sp := fun vs H Q _ => ∃ p dx u, vs = [.ref p, u] ∧ H p = some (.ins C dx []) ∧ Q .non (upd H p (.ins C dx [(f, u)]))
theorem evp_one {x f : Str} {P : Hpr} [m : Mon P] (h : Evp te σ H P) : Evp (tMk C (spOne C f) (tCons te tNil)) σ H (OneAt C f P) := fun H1 e Q q => h H1 e _ fun u H2 e2 pu x dx hx hdx hne => by
  have ee : Ex H2 (upd (upd (upd H2 dx (.own x)) x (.ins C dx [])) x (.ins C dx [(f, u)])) := fun b o h => by rw [upd_ne (ne_of_none h hx), upd_ne (ne_of_none h hx), upd_ne (ne_of_none h hdx)]; exact h
  exact ⟨x, dx, u, rfl, upd_same, rfl, q _ _ (e2.trans ee) ⟨x, dx, u, rfl, upd_same, m.mo _ _ _ ee pu⟩⟩
theorem evp_fld1 {x f : Str} {P : Hpr} (T : OneTxt K mg x C f fI) (h : Evp te σ H (OneAt C f P)) : Evp (tFld K te f) σ H P := fun H1 e Q q => h H1 e _ fun v H2 e2 ⟨r, dx, u, h1, h2, h3⟩ =>
  ⟨r, C, dx, _, u, h1, h2, T.cl, T.na, by simp [List.lookup], q u H2 e2 h3⟩
abbrev sSetI : Stmt := inClass (top 40) 1
abbrev sTenI : Stmt := inClass (top 41) 1
theorem scSetI : FnScope ["self", "rounds"] ["self", "rounds"] (defScope sSetI) := ⟨rfl, rfl, rfl, by decide +kernel, rfl, by decide +kernel, by decide +kernel⟩
theorem scTenI : FnScope ["self", "width"] ["self", "width"] (defScope sTenI) := ⟨rfl, rfl, rfl, by decide +kernel, rfl, by decide +kernel, by decide +kernel⟩
theorem ok_setI {f fd} (F : Fun K "__init__" "Settles.__init__" sSetI f fd) (T : OneTxt K mg "Settles" C "rounds" fI) : FnOk P w K mg base CX0 1 f fd ["self", "rounds"] (spOne C "rounds") := by
  refine F.ok scSetI (fun vs H Q E h => ?_) (fun cdv A outer s H vs Q E hr h => ?_)
  · obtain ⟨p, dx, u, rfl, _⟩ := h
    rfl
  · obtain ⟨p, dx, u, rfl, hp, k⟩ := h
    refine ⟨_, pss_one (ps_fld (pv 0) (pv 1) rfl), ?_⟩
    exact ⟨_, rfl, _, rfl, p, C, dx, [], rfl, hp, T.cl, T.na, (by show 0 < 1000; decide), k⟩
theorem ok_tenI {f fd} (F : Fun K "__init__" "Tends.__init__" sTenI f fd) (T : OneTxt K mg "Tends" C "width" fI) : FnOk P w K mg base CX0 1 f fd ["self", "width"] (spOne C "width") := by
  refine F.ok scTenI (fun vs H Q E h => ?_) (fun cdv A outer s H vs Q E hr h => ?_)
  · obtain ⟨p, dx, u, rfl, _⟩ := h
    rfl
  · obtain ⟨p, dx, u, rfl, hp, k⟩ := h
    refine ⟨_, pss_one (ps_fld (pv 0) (pv 1) rfl), ?_⟩
    exact ⟨_, rfl, _, rfl, p, C, dx, [], rfl, hp, T.cl, T.na, (by show 0 < 1000; decide), k⟩
/-! ### __bool__ -/
def spYes (b : Bool) : Sp := fun vs H Q _ => ∃ x, vs = [x] ∧ Q (.bl b) H
abbrev sGood : Stmt := inClass (top 10) 0
abbrev sBad : Stmt := inClass (top 11) 0
theorem scGood : FnScope ["self"] ["self"] (defScope sGood) := ⟨rfl, rfl, rfl, by decide +kernel, rfl, by decide +kernel, by decide +kernel⟩
theorem scBad : FnScope ["self"] ["self"] (defScope sBad) := ⟨rfl, rfl, rfl, by decide +kernel, rfl, by decide +kernel, by decide +kernel⟩
theorem ok_good {f fd} (F : Fun K "__bool__" "Good.__bool__" sGood f fd) : FnOk P w K mg base CX0 1 f fd ["self"] (spYes true) := by
  refine F.ok scGood (fun vs H Q E h => ?_) (fun cdv A outer s H vs Q E hr h => ?_)
  · obtain ⟨x, rfl, _⟩ := h
    rfl
  · obtain ⟨x, rfl, k⟩ := h
    exact ⟨_, pss_one (ps_ret pe_bl), k⟩
theorem ok_bad {f fd} (F : Fun K "__bool__" "Bad.__bool__" sBad f fd) : FnOk P w K mg base CX0 1 f fd ["self"] (spYes false) := by
  refine F.ok scBad (fun vs H Q E h => ?_) (fun cdv A outer s H vs Q E hr h => ?_)
  · obtain ⟨x, rfl, _⟩ := h
    rfl
  · obtain ⟨x, rfl, k⟩ := h
    exact ⟨_, pss_one (ps_ret pe_bl), k⟩
end
end WD
set_option Elab.async false
set_option linter.all false
set_option maxRecDepth 100000
set_option maxHeartbeats 4000000
set_option exponentiation.threshold 500000
namespace WD
open PySem PySem.Spec PyProof.Rows L2 WR WK
open Evl (Ex Ev EvL EvU EvT EvA EvO RV ex_l ex_t)
/-! ### when the limit is met -/
def gapAt (as : List Int) (qs : List Rat) (ws : List Nat) (i : Nat) : Rat := gapR as (roundsR as ws i qs) (goalR as qs ws)
def hit (as : List Int) (qs : List Rat) (ws : List Nat) (t : Nat) : Bool := decide (roundsR as ws t qs = goalR as qs ws)
def firstHit (as : List Int) (qs : List Rat) (ws : List Nat) : Option Nat := (List.range (as.length + 1)).find? (hit as qs ws)
theorem firstHit_some {as : List Int} {qs : List Rat} {ws : List Nat} {t : Nat} (h : firstHit as qs ws = some t) : t ≤ as.length ∧ hit as qs ws t = true ∧ ∀ m, m < t → hit as qs ws m = false := by
  unfold firstHit at h
  rw [List.find?_range_eq_some] at h
  obtain ⟨h1, h2, h3⟩ := h
  exact ⟨by have := List.mem_range.mp h2; omega, h1, fun m hm => by simpa using h3 m hm⟩
theorem firstHit_none {as : List Int} {qs : List Rat} {ws : List Nat} (h : firstHit as qs ws = none) : ∀ t, t ≤ as.length → hit as qs ws t = false := by
  intro t ht
  unfold firstHit at h
  have := List.find?_eq_none.mp h t (List.mem_range.mpr (by omega))
  simpa using this
section
variable {P : Program} {w : World} {K : PySem.W.Frag} {mg : Str → Option Value} {base : Heap} {H H' : Hp} {σ : L2.St} {C CO CS CT CN fI : Addr} {as ls : List Int} {qs rs : List Rat} {te ta tb : TE} {ws : List Nat} {D : Ends} {tz : TS}
theorem Setup.dis (S : Setup as ls ws qs) {i : Nat} (hi : i ≤ 13) : DisOk as (roundsR as ws i qs) (goalR as qs ws) := by
  obtain ⟨inv, he⟩ := S.at hi
  obtain ⟨b1, b2⟩ := inv0_bk S.g.ar S.inv
  have h := goal_ok S.g.ar S.g.n6 b1 b2 (ws := ws)
  exact ⟨S.g.ar, S.g.n1, S.g.n6, inv.len, goalR_length as qs ws (by have := S.g.n1; omega), RowInv.all S.g.ar inv (by omega), fun q hq => (h q hq).2.mono (by decide)⟩
theorem Setup.gapBk (S : Setup as ls ws qs) {i : Nat} (hi : i ≤ 13) : Bk 2200 (gapAt as qs ws i) := by
  obtain ⟨d, ds, e1, e2, e3, e4⟩ := gap_cons (S.dis hi)
  unfold gapAt
  rw [e2]
  exact (Bk.foldMax ds d (e4 d (List.mem_cons_self ..)) fun q hq => e4 q (List.mem_cons_of_mem _ hq)).mono (by decide)
/-! ### limit, all right -/
theorem evp_limit {o : Addr} (h : Evp te σ H (RowAt K C as qs ls)) (ho : Ev ta σ H (.ref o)) (hs : SqA K H o (ordV ws)) (S : Setup as ls ws qs) : Evp (tCl (spLimit K C CO) (fun _ => E0) (tCons te (tCons ta tNil))) σ H (RowAt K C as (goalR as qs ws) ls) := fun H1 e Q q =>
  h H1 e _ fun x H2 e2 r => ho H2 (e.trans e2) _ fun H3 e3 => ⟨x, o, as, qs, ls, ws, rfl, mon_row.mo _ _ _ e3 r, S.g, S.inv, hs.ex ((e.trans e2).trans e3), S.ok.sm, .inl ⟨S.ok.ok, fun v H' e' p => q v H' ((e2.trans e3).trans e') p⟩⟩
theorem evp_rounds {o : Addr} {m : Nat} (h : Evp te σ H (RowAt K C as qs ls)) (ho : Ev ta σ H (.ref o)) (hm : Ev tb σ H (.int (m : Nat))) (hs : SqA K H o (ordV ws)) (S : Setup as ls ws qs) (hb : m ≤ 13) : Evp (tCl (spRounds K C) (fun _ => E0) (tCons te (tCons ta (tCons tb tNil)))) σ H (RowsL K C as ls ws qs m) :=
  evp_cl ((as, qs, ls), (ws, m)) (eap3 h (Evp.of (P := fun v H1 => v = .ref o ∧ SqA K H1 o (ordV ws)) ho fun H1 e => ⟨rfl, hs.ex e⟩) (ev_evp hm) (m := mon_row) (m2 := ⟨fun _ _ _ e ⟨a, b⟩ => ⟨a, b.ex e⟩⟩)) fun vs H1 _ ⟨x, y, z, ev, hx, ⟨hy, hso⟩, hz⟩ => ⟨⟨x, o, by rw [ev, hy, hz], hx, hso⟩, S, hb⟩
/-! ### rows compared -/
theorem monB_row : MonB (DInB C (EqRow K C)) := fun x y b H H' e ⟨a, c, dx, dy, fs, gs, h1, h2, h3, h4, as, qs, rs, ls, r1, r2, h5⟩ => ⟨a, c, dx, dy, fs, gs, h1, h2, e _ _ h3, e _ _ h4, as, qs, rs, ls, mon_row.mo _ _ _ e r1, mon_row.mo _ _ _ e r2, h5⟩
theorem dinB_row {x y : V} {b : Bool} (h1 : RowAt K C as qs ls x H) (h2 : RowAt K C as rs ls y H) (hb : b = decide (qs = rs)) : DInB C (EqRow K C) x y H b := by
  obtain ⟨a, dx, fs, rfl, i1⟩ := h1.ins
  obtain ⟨c, dy, gs, rfl, i2⟩ := h2.ins
  exact ⟨a, c, dx, dy, fs, gs, rfl, rfl, i1, i2, as, qs, rs, ls, h1, h2, hb⟩
def RowsP (K : PySem.W.Frag) (C : Addr) (as ls : List Int) (ws : List Nat) (qs : List Rat) (m : Nat) : Hpr := LstP m fun j => RowAt K C as (roundsR as ws j qs) ls
theorem RowsP.all {v x : V} {m : Nat} (h : RowsP K C as ls ws qs m v H) (hx : RowAt K C as (goalR as qs ws) ls x H) : ∃ p xs, v = .ref p ∧ H p = some (.lst xs) ∧ xs.length = m ∧ DAll (DInB C (EqRow K C)) xs x (hit as qs ws) H := by
  obtain ⟨p, xs, rfl, hp, hl, hr⟩ := h
  exact ⟨p, xs, rfl, hp, hl, fun i y hy => dinB_row (hr i y hy) hx rfl⟩
theorem mon_rowsP {m : Nat} : Mon (RowsP K C as ls ws qs m) := ⟨fun v H H' e ⟨p, xs, h1, h2, h3, h4⟩ => ⟨p, xs, h1, e _ _ h2, h3, fun j y hy => mon_row.mo _ _ _ e (h4 j y hy)⟩⟩
theorem ev_inRows {neg : Bool} {m : Nat} (hx : Evp ta σ H (RowAt K C as (goalR as qs ws) ls)) (hy : Evp tb σ H (RowsP K C as ls ws qs m)) : Ev (tOp (rInG (DInB C (EqRow K C)) neg) ta tb) σ H (.bl (if neg then !(List.range m).any (hit as qs ws) else (List.range m).any (hit as qs ws))) := fun H1 e Q q =>
  hx H1 e _ fun x H2 e2 px => hy H2 (e.trans e2) _ fun v H3 e3 pv => by
    obtain ⟨p, xs, rfl, hp, hl, hd⟩ := pv.all (mon_row.mo _ _ _ e3 px)
    refine ⟨p, xs, _, rfl, hp, hd, fun H4 e4 => ?_⟩
    rw [hl]
    exact q H4 ((e2.trans e3).trans e4)
theorem ev_eqRow (hx : Evp ta σ H (RowAt K C as qs ls)) (hy : Evp tb σ H (RowAt K C as rs ls)) : Ev (tOp (rEqO C (EqRow K C)) ta tb) σ H (.bl (decide (qs = rs))) := fun H1 e Q q =>
  hx H1 e _ fun x H2 e2 px => hy H2 (e.trans e2) _ fun y H3 e3 py => ⟨_, dinB_row (mon_row.mo _ _ _ e3 px) py rfl, fun H4 e4 => q H4 ((e2.trans e3).trans e4)⟩
theorem ev_index {m t : Nat} (hy : Evp ta σ H (RowsP K C as ls ws qs m)) (hx : Evp tb σ H (RowAt K C as (goalR as qs ws) ls)) (ht : t < m) (h1 : hit as qs ws t = true) (h2 : ∀ j, j < t → hit as qs ws j = false) : Ev (tBM K "list" (rIndexG (DInB C (EqRow K C))) ta (tCons tb tNil)) σ H (.int (t : Nat)) := fun H1 e Q q =>
  hy H1 e _ fun v H2 e2 pv => by
    obtain ⟨p, xs, rfl, hp, hl, hr⟩ := id pv
    exact ⟨.inl ⟨rfl, xs, SqL.of hp⟩, hx H2 (e.trans e2) _ fun x H3 e3 px => by
      obtain ⟨p', xs', ev, hp', hl', hd⟩ := RowsP.all (mon_rowsP.mo _ _ _ e3 pv) px
      exact ⟨p', xs', x, _, t, ev, rfl, hp', hd, by omega, h1, h2, fun H4 e4 => q H4 ((e2.trans e3).trans e4)⟩⟩
theorem evp_lastP {m : Nat} {tl : TE} (h : Evp tl σ H (RowsP K C as ls ws qs (m + 1))) : Evp (tOp (rIxL K) tl (tUn (rU fun i => .int (-i)) (tC (.int 1)))) σ H (RowAt K C as (roundsR as ws m qs) ls) := fun H1 e Q q =>
  h H1 e _ fun v H2 e2 ⟨p, xs, ev, hp, hl, hr⟩ => by
    obtain ⟨ys, u, rfl, hu⟩ := last_of hl
    exact ⟨1, rfl, p, _, -1, u, ev, rfl, SqL.of hp, atI_last ys u, q u H2 e2 (hr m u hu)⟩
/-! ### settling -/
def Found (K : PySem.W.Frag) (CS CT : Addr) (as : List Int) (qs : List Rat) (ws : List Nat) : Hpr := fun v H => match firstHit as qs ws with
  | some t => OneAt CS "rounds" (fun v _ => v = .int (t : Nat)) v H
  | none => OneAt CT "width" (FrAt K (gapAt as qs ws as.length)) v H
def spSettling (K : PySem.W.Frag) (C CO CS CT : Addr) : Sp := fun vs H Q E => ∃ x o as qs ls ws, vs = [x, .ref o] ∧ RowAt K C as qs ls x H ∧ Geo as ls ∧ RowInv 0 as qs ∧ SqA K H o (ordV ws) ∧ ws.length ≤ 5 ∧
  OrdPre as ls ws (∀ v H', Ex H H' → Found K CS CT as qs ws v H' → Q v H') (BadE CO H E)
abbrev sSettling : Stmt := top 43
theorem scSettling : FnScope ["row", "order", "goal", "rows"] ["row", "order"] (defScope sSettling) := ⟨rfl, rfl, rfl, by decide +kernel, rfl, by decide +kernel, by decide +kernel⟩
theorem ok_settling {f fd fE fL fS fT} (F : Fun K "settling" "settling" sSettling f fd) (B : Bl mg) (OL : Own K C "__len__" fL) (cL : FnR P w K mg base CX0 1 fL (spLenR K C)) (OE : Own K C "__eq__" fE) (cE : FnR P w K mg base CX0 1 fE (spEqB (EqRow K C)))
    (cLi : Cal P w K mg base (L2.CX P w) 7 "limit" (spLimit K C CO)) (cRo : Cal P w K mg base CX0 9 "rounds_of" (spRounds K C)) (cDi : Cal P w K mg base CX0 5 "distance" (spDist K C))
    (TS : OneTxt K mg "Settles" CS "rounds" fS) (cS : FnR P w K mg base CX0 1 fS (spOne CS "rounds")) (TT : OneTxt K mg "Tends" CT "width" fT) (cT : FnR P w K mg base CX0 1 fT (spOne CT "width")) :
    FnOk P w K mg base (L2.CX P w) 10 f fd ["row", "order"] (spSettling K C CO CS CT) := by
  refine F.okX scSettling (fun vs H Q E h => ?_) (fun cdv A outer s H vs Q E hr h => ?_)
  · obtain ⟨x, o, as, qs, ls, ws, rfl, _⟩ := h
    rfl
  · obtain ⟨x, o, as, qs, ls, ws, rfl, r, g, inv, ho, hl5, hc⟩ := h
    have hr2 : Room 2 _ := hr.mono (by decide)
    have hr3 : Room 3 _ := hr.mono (by decide)
    have hr5 : Room 5 _ := hr.mono (by decide)
    have hr7 : Room 7 _ := hr.mono (by decide)
    have hE := fun (X : Cx) (e1 : X.prog = P) (e2 : X.w = w) (e3 : X.K = K) (e4 : X.mg = mg) (e5 : X.base = base) => (by
      subst e1 e2 e3 e4 e5
      exact eqB_own (X := X) OE cE (fun _ _ _ _ _ _ _ h => h.elim) eqRow_refl : EqB X 1 (DInB C (EqRow K C)))
    refine ⟨_, pss_cons (ps_set (i := 2) scSettling.nd rfl (Or.inl rfl) (pe_cE (takes_of rfl rfl rfl rfl) cLi hr7 (pa_cons (pv 0) (pa_cons (pv 1) pa_nil))))
      (pss_cons (ps_set (i := 3) scSettling.nd rfl (Or.inl rfl) (pe_c0 cRo hr (pa_cons (pv 0) (pa_cons (pv 1) (pa_cons (pe_callB (call_lenO OL cL hr2 (fun _ _ _ _ _ _ _ h => h.elim)) rfl B.len (by decide +kernel) (pa_cons (pv 0) pa_nil)) pa_nil)))))
      (pss_cons (ps_if (pt_cmpR (op_inG (n := 1) monB_row (hE _ rfl rfl rfl rfl rfl) hr3) (pv 2) (pv 3) rfl)
        (pss_one (ps_ret (pe_mk TS.mc cS hr2 TS.g (fun _ _ _ _ _ _ _ h => h.elim) (pa_cons (pe_bm PySem.F.plainAttrs_list PySem.F.slot_list_index PySem.F.type_list_index (mt_indexG (n := 1) monB_row (hE _ rfl rfl rfl rfl rfl) hr3) (pv 3) (pa_cons (pv 2) pa_nil)) pa_nil)))) pss_nil)
      (pss_one (ps_ret (pe_mk TT.mc cT hr2 TT.g (fun _ _ _ _ _ _ _ h => h.elim) (pa_cons (pe_c0 cDi hr5 (pa_cons (pe_ix ix_list (pv 3) (pe_un un_neg pe_int) (fun _ _ => rfl)) (pa_cons (pv 2) pa_nil))) pa_nil)))))), ?_⟩
    refine ⟨x, rfl, .ref o, rfl, x, o, as, qs, ls, ws, rfl, r, g, inv, ho, hl5, ?_⟩
    rcases hc with ⟨hg, k⟩ | ⟨hb, k⟩
    · refine .inl ⟨hg, fun vg H1 e1 rg => ?_⟩
      have S : Setup as ls ws qs := ⟨g, ⟨hg, hl5⟩, inv⟩
      have g6 := g.n6
      refine sp_set (evp_rounds (te := tVar 0) (.var (P := RowAt K C as qs ls) rfl (mon_row.mo _ _ _ e1 r)) (Evl.ev_var rfl) (ev_lenRow (.var (P := RowAt K C as qs ls) rfl (mon_row.mo _ _ _ e1 r)) (by omega)) (ho.ex e1) S (by omega)) fun vr H2 e2 rr => ?_
      have rr : RowsP K C as ls ws qs (as.length + 1) vr H2 := rr
      have e02 := e1.trans e2
      have rg2 := mon_row.mo _ _ _ e2 rg
      have hgoal : ∀ {σ : L2.St} {H1 : Hp}, Ex H2 H1 → σ[2]? = some (some vg) → Evp (tVar 2) σ H1 (RowAt K C as (goalR as qs ws) ls) := fun e h => .var h (mon_row.mo _ _ _ e rg2)
      have hrows : ∀ {σ : L2.St} {H1 : Hp}, Ex H2 H1 → σ[3]? = some (some vr) → Evp (tVar 3) σ H1 (RowsP K C as ls ws qs (as.length + 1)) := fun e h => .var h (mon_rowsP.mo _ _ _ e rr) (m := mon_rowsP)
      refine Evl.q_if (Evl.et_test (ev_inRows (neg := false) (hgoal (Ex.refl _) rfl) (hrows (Ex.refl _) rfl))) (fun hb H3 e3 => ?_) (fun hb H3 e3 => ?_)
      · cases hf : firstHit as qs ws with
        | none =>
          obtain ⟨t, ht, hh⟩ := List.any_eq_true.mp hb
          rw [firstHit_none hf t (by have := List.mem_range.mp ht; omega)] at hh
          cases hh
        | some t =>
          obtain ⟨t1, t2, t3⟩ := firstHit_some hf
          refine sp_ret (evp_one (x := "Settles") (f := "rounds") (ev_evp (ev_index (hrows e3 rfl) (hgoal e3 rfl) (by omega) t2 t3))) fun v H4 e4 p => k v H4 ((e02.trans e3).trans e4) ?_
          unfold Found
          rw [hf]
          exact p
      · cases hf : firstHit as qs ws with
        | some t =>
          obtain ⟨t1, t2, t3⟩ := firstHit_some hf
          exfalso
          have := List.any_eq_false.mp hb t (List.mem_range.mpr (by omega))
          exact this t2
        | none =>
          refine sp_ret (evp_one (x := "Tends") (f := "width") (P := FrAt K (gapAt as qs ws as.length)) (evp_dist (evp_lastP (hrows e3 rfl)) (hgoal e3 rfl) (S.dis (by omega)))) fun v H4 e4 p => k v H4 ((e02.trans e3).trans e4) ?_
          unfold Found
          rw [hf]
          exact p
    · exact .inr ⟨hb, k⟩
end
end WD
set_option Elab.async false
set_option linter.all false
set_option maxRecDepth 100000
set_option maxHeartbeats 4000000
set_option exponentiation.threshold 500000
namespace WD
open PySem PySem.Spec PyProof.Rows L2 WR WK
open Evl (Ex Ev EvL EvU EvT EvA EvO RV ex_l ex_t)
section
variable {P : Program} {w : World} {K : PySem.W.Frag} {mg : Str → Option Value} {base : Heap} {H H' : Hp} {σ : L2.St} {C CO CS CT CN fI : Addr} {as ls : List Int} {qs rs : List Rat} {te ta tb : TE} {ws : List Nat} {D : Ends} {tz : TS}
theorem sp_par1 {i j : Nat} {t : TA} {S : List V → Hp → Prop} (h : Evpa t σ H S) (k : ∀ vs H1, Ex H H1 → S vs H1 → ∃ v w, vs = [v, w] ∧ D.nx ((σ.set i (some v)).set j (some w)) H1) : tPar i j t D σ H :=
  h H (Ex.refl H) _ fun vs H1 e p => k vs H1 e p
/-! ### Settles.shows -/
def showsS (as : List Int) (qs : List Rat) (ws : List Nat) (t : Nat) : Bool := hit as qs ws t && !(List.range t).any (hit as qs ws)
def spShowS (K : PySem.W.Frag) (C CS : Addr) : Sp := spS (A := (List Int × List Rat × List Int) × (List Nat × Nat)) (fun a vs H => (∃ s x o, vs = [s, x, .ref o] ∧ OneAt CS "rounds" (fun v _ => v = .int (a.2.2 : Nat)) s H ∧ RowAt K C a.1.1 a.1.2.1 a.1.2.2 x H ∧ SqA K H o (ordV a.2.1)) ∧ Setup a.1.1 a.1.2.2 a.2.1 a.1.2.1 ∧ a.2.2 ≤ 13)
  (fun a v _ => v = .bl (showsS a.1.1 a.1.2.1 a.2.1 a.2.2))
abbrev sShowS : Stmt := inClass (top 40) 3
abbrev nShowS : List Str := ["self", "row", "order", "goal", "rows"]
theorem scShowS : FnScope nShowS ["self", "row", "order"] (defScope sShowS) := ⟨rfl, rfl, rfl, by decide +kernel, rfl, by decide +kernel, by decide +kernel⟩
theorem el_slP {m : Nat} (h : Evp te σ H (RowsP K C as ls ws qs (m + 1))) : Evp (tSl (rSlL K) te tNoPart (tPart (tUn (rU fun i => .int (-i)) (tC (.int 1))))) σ H (RowsP K C as ls ws qs m) := fun H1 e Q q =>
  h H1 e _ fun v H2 e2 ⟨p, xs, ev, hp, hl, hr⟩ => by
    have hc : cutV xs none (some (-1)) = xs.take m := by
      simp [cutV, HT.sIx, hl]
      omega
    refine ⟨1, rfl, -1, rfl, p, xs, ev, SqL.of hp, fun p' hp' => ?_⟩
    rw [hc]
    refine q _ _ (e2.trans (Ex.new hp')) ⟨p', _, rfl, upd_same, by rw [List.length_take]; omega, fun j y hy => mon_row.mo _ _ _ (Ex.new hp') (hr j y ?_)⟩
    rw [List.getElem?_take] at hy
    split at hy
    · exact hy
    · cases hy
theorem ok_showS {f fd fE} (F : Fun K "shows" "Settles.shows" sShowS f fd) (N : Nums mg) (OE : Own K C "__eq__" fE) (cE : FnR P w K mg base CX0 1 fE (spEqB (EqRow K C))) (cW : Cal P w K mg base CX0 1 "is_whole" spWhole)
    (cLi : Cal P w K mg base (L2.CX P w) 7 "limit" (spLimit K C CO)) (cRo : Cal P w K mg base CX0 9 "rounds_of" (spRounds K C)) (TS : OneTxt K mg "Settles" CS "rounds" fI) :
    FnOk P w K mg base CX0 10 f fd ["self", "row", "order"] (spShowS K C CS) := by
  obtain ⟨t1, n1⟩ := N.rnd
  refine F.ok scShowS (fun vs H Q E h => ?_) (fun cdv A outer s H vs Q E hr h => ?_)
  · obtain ⟨a, ⟨⟨s, x, o, rfl, _⟩, _⟩, _⟩ := h
    rfl
  · obtain ⟨⟨⟨as, qs, ls⟩, ws, t⟩, ⟨⟨se, x, o, rfl, hs, r, ho⟩, S, ht⟩, k⟩ := h
    have S : Setup as ls ws qs := S
    have ht : t ≤ 13 := ht
    have hr1 : Room 1 _ := hr.mono (by decide)
    have hr3 : Room 3 _ := hr.mono (by decide)
    have hr7 : Room 7 _ := hr.mono (by decide)
    have hE := fun (X : Cx) (e1 : X.prog = P) (e2 : X.w = w) (e3 : X.K = K) (e4 : X.mg = mg) (e5 : X.base = base) => (by
      subst e1 e2 e3 e4 e5
      exact eqB_own (X := X) OE cE (fun _ _ _ _ _ _ _ h => h.elim) eqRow_refl : EqB X 1 (DInB C (EqRow K C)))
    have hO := fun (X : Cx) (hr : Room 1 X.A) (e1 : X.prog = P) (e2 : X.w = w) (e3 : X.K = K) (e4 : X.mg = mg) (e5 : X.base = base) => (by
      subst e1 e2 e3 e4 e5
      exact op_eqO (X := X) OE cE (fun _ _ _ _ _ _ _ h => h.elim) hr : OpR X (compareOp .Eq) (rEqO C (EqRow K C)))
    refine ⟨_, pss_cons (ps_set (i := 3) scShowS.nd rfl (Or.inl rfl) (pe_cX cLi hr7 (pa_cons (pv 1) (pa_cons (pv 2) pa_nil))))
      (pss_cons (ps_if (PW.pt (pw_or (pt_not (pt_val (pe_c0 cW hr1 (pa_cons (pe_fld (pv 0) rfl) pa_nil)))) (pw_or1 (pt_not (pt_chain op_le op_le pe_int (pe_fld (pv 0) rfl) (pe_glob rfl n1 (v := .int 300) ⟨_, rfl⟩)))))) (pss_one (ps_ret pe_bl)) pss_nil)
      (pss_cons (ps_set (i := 4) scShowS.nd rfl (Or.inl rfl) (pe_c0 cRo hr (pa_cons (pv 1) (pa_cons (pv 2) (pa_cons (pe_fld (pv 0) rfl) pa_nil)))))
      (pss_one (ps_ret (pe_and (pe_cmpR (hO _ hr1 rfl rfl rfl rfl rfl) (pe_ix ix_list (pv 4) (pe_un un_neg pe_int) (fun _ _ => rfl)) (pv 3) (nomark _))
        (pe_one (pe_cmpR (op_notInG (n := 1) monB_row (hE _ rfl rfl rfl rfl rfl) hr3) (pv 3) (pe_slice sl_list (pv 4) po_none (po_some (pe_un un_neg pe_int))) rfl))))))), ?_⟩
    have hself : ∀ {σ : L2.St} {H1 : Hp}, Ex H H1 → σ[0]? = some (some se) → Ev (tFld K (tVar 0) "rounds") σ H1 (.int (t : Nat)) := fun e h => (evp_fld1 TS (.var h (mon_one.mo _ _ _ e hs) (m := mon_one))).ev
    have hrow : ∀ {σ : L2.St} {H1 : Hp}, Ex H H1 → σ[1]? = some (some x) → Evp (tVar 1) σ H1 (RowAt K C as qs ls) := fun e h => .var h (mon_row.mo _ _ _ e r)
    refine sp_set (evp_limit (hrow (Ex.refl _) rfl) (Evl.ev_var rfl) ho S) fun vg H1 e1 rg => ?_
    refine Evl.q_if (b := false) (Evl.et_is (Evl.et_or (a := false) (Evl.et_is (Evl.et_not (Evl.et_B (ev_whole (some _) (hself e1 rfl)))) rfl) (fun _ => Evl.et_not (Evl.et_test (ev_chain Evl.ev_c (hself e1 rfl) Evl.rv_I0 (fun _ => Evl.ev_c) (fun _ => Evl.rv_I0))))) ?_) (fun h => by cases h) (fun _ H2 e2 => ?_)
    · have z1 : (0 : Int) ≤ (t : Int) := by omega
      have z2 : (t : Int) ≤ 300 := by omega
      simp [z1, z2]
    have e02 := e1.trans e2
    refine sp_set (evp_rounds (te := tVar 1) (hrow e02 rfl) (Evl.ev_var rfl) (hself e02 rfl) (ho.ex e02) S ht) fun vr H3 e3 rr => ?_
    have rr : RowsP K C as ls ws qs (t + 1) vr H3 := rr
    have rg3 := mon_row.mo _ _ _ (e2.trans e3) rg
    have hgoal : Evp (tVar 3) [some se, some x, some (.ref o), some vg, some vr] H3 (RowAt K C as (goalR as qs ws) ls) := .var rfl rg3
    have hrows : Evp (tVar 4) [some se, some x, some (.ref o), some vg, some vr] H3 (RowsP K C as ls ws qs (t + 1)) := .var rfl rr (m := mon_rowsP)
    exact Evl.s_ret (Evl.ev_andV (ev_eqRow (evp_lastP hrows) hgoal) fun _ => ev_inRows (neg := true) hgoal (el_slP hrows)) fun H4 e4 => k _ H4 ((e02.trans e3).trans e4) rfl
/-! ### Tends.shows -/
def showsT (as : List Int) (qs : List Rat) (ws : List Nat) (q : Rat) : Bool := decide (0 < q.num) && decide (gapAt as qs ws as.length = q)
def spShowT (K : PySem.W.Frag) (C CT : Addr) : Sp := spS (A := (List Int × List Rat × List Int) × (List Nat × Rat)) (fun a vs H => (∃ s x o, vs = [s, x, .ref o] ∧ OneAt CT "width" (FrAt K a.2.2) s H ∧ RowAt K C a.1.1 a.1.2.1 a.1.2.2 x H ∧ SqA K H o (ordV a.2.1)) ∧ Setup a.1.1 a.1.2.2 a.2.1 a.1.2.1)
  (fun a v _ => v = .bl (showsT a.1.1 a.1.2.1 a.2.1 a.2.2))
abbrev sShowT : Stmt := inClass (top 41) 3
abbrev nShowT : List Str := ["self", "row", "order", "goal"]
theorem scShowT : FnScope nShowT ["self", "row", "order"] (defScope sShowT) := ⟨rfl, rfl, rfl, by decide +kernel, rfl, by decide +kernel, by decide +kernel⟩
theorem ok_showT {f fd fL} (F : Fun K "shows" "Tends.shows" sShowT f fd) (B : Bl mg) (OL : Own K C "__len__" fL) (cL : FnR P w K mg base CX0 1 fL (spLenR K C))
    (cLi : Cal P w K mg base (L2.CX P w) 7 "limit" (spLimit K C CO)) (cRo : Cal P w K mg base CX0 9 "rounds_of" (spRounds K C)) (cDi : Cal P w K mg base CX0 5 "distance" (spDist K C)) (TT : OneTxt K mg "Tends" CT "width" fI) :
    FnOk P w K mg base CX0 10 f fd ["self", "row", "order"] (spShowT K C CT) := by
  refine F.ok scShowT (fun vs H Q E h => ?_) (fun cdv A outer s H vs Q E hr h => ?_)
  · obtain ⟨a, ⟨⟨s, x, o, rfl, _⟩, _⟩, _⟩ := h
    rfl
  · obtain ⟨⟨⟨as, qs, ls⟩, ws, q⟩, ⟨⟨se, x, o, rfl, hs, r, ho⟩, S⟩, k⟩ := h
    have S : Setup as ls ws qs := S
    have g6 := S.g.n6
    have hr2 : Room 2 _ := hr.mono (by decide)
    have hr5 : Room 5 _ := hr.mono (by decide)
    have hr7 : Room 7 _ := hr.mono (by decide)
    refine ⟨_, pss_cons (ps_set (i := 3) scShowT.nd rfl (Or.inl rfl) (pe_cX cLi hr7 (pa_cons (pv 1) (pa_cons (pv 2) pa_nil))))
      (pss_one (ps_ret (pe_and (pe_cmpR op_gt (pe_ix ix_tup (pe_fld (pv 0) rfl) pe_int (fun _ _ => rfl)) pe_int (nomark _))
        (pe_one (pe_cmpR (op_eqD hr.units) (pe_c0 cDi hr5 (pa_cons (pe_ix ix_list (pe_c0 cRo hr (pa_cons (pv 1) (pa_cons (pv 2) (pa_cons (pe_callB (call_lenO OL cL hr2 (fun _ _ _ _ _ _ _ h => h.elim)) rfl B.len (by decide +kernel) (pa_cons (pv 1) pa_nil)) pa_nil)))) (pe_un un_neg pe_int) (fun _ _ => rfl)) (pa_cons (pv 3) pa_nil))) (pe_fld (pv 0) rfl) (nomark _)))))), ?_⟩
    have hself : ∀ {σ : L2.St} {H1 : Hp}, Ex H H1 → σ[0]? = some (some se) → Evp (tFld K (tVar 0) "width") σ H1 (FrAt K q) := fun e h => evp_fld1 TT (.var h (mon_one.mo _ _ _ e hs) (m := mon_one))
    have hrow : ∀ {σ : L2.St} {H1 : Hp}, Ex H H1 → σ[1]? = some (some x) → Evp (tVar 1) σ H1 (RowAt K C as qs ls) := fun e h => .var h (mon_row.mo _ _ _ e r)
    refine sp_set (evp_limit (hrow (Ex.refl _) rfl) (Evl.ev_var rfl) ho S) fun vg H1 e1 rg => ?_
    refine Evl.s_ret (Evl.ev_andV (Evl.ev_op (evp_fst (hself e1 rfl)) Evl.ev_c Evl.rv_I0) fun _ => evp_eqD (S := FrAt K (gapAt as qs ws as.length)) (R := FrAt K q) (b := decide (gapAt as qs ws as.length = q))
      (evp_dist (evp_lastP (evp_rounds (te := tVar 1) (hrow e1 rfl) (Evl.ev_var rfl) (ev_lenRow (hrow e1 rfl) (by omega)) (ho.ex e1) S (by omega))) (.var (P := RowAt K C as (goalR as qs ws) ls) rfl rg) (S.dis (by omega))) (hself e1 rfl) mon_pr (fun v H1 h => dp_fr h) (fun v H1 h => dp_fr h) (shaped_of (dq_ok _) (by decide)) (shaped_of (dq_ok _) (by decide)) (eqv_dq _ _)) fun H2 e2 => k _ H2 (e1.trans e2) rfl
/-! ### rounds_within -/
def spWithin (K : PySem.W.Frag) (C CN : Addr) : Sp := fun vs H Q E => ∃ x o u as qs ls ws t, vs = [x, .ref o, u] ∧ RowAt K C as qs ls x H ∧ SqA K H o (ordV ws) ∧ Setup as ls ws qs ∧ ThAt K t u H ∧ t.small ∧
  ((t.isPart = true ∧ 0 < t.val ∧ Bk 2200 t.val ∧ ∃ n, n ≤ 12 ∧ (∀ i, i < n → t.val < gapAt as qs ws i) ∧ ¬ t.val < gapAt as qs ws n ∧ ∀ H', Ex H H' → Q (.int (n : Nat)) H') ∨
    ((t.isPart = true → t.val.num ≤ 0) ∧ ∀ H', Ex H H' → E (.ref CN) none H'))
abbrev sWithin : Stmt := top 44
abbrev nWithin : List Str := ["row", "order", "width", "goal", "most", "rounds"]
theorem scWithin : FnScope nWithin ["row", "order", "width"] (defScope sWithin) := ⟨rfl, rfl, rfl, by decide +kernel, rfl, by decide +kernel, by decide +kernel⟩
theorem ok_within {f fd} (F : Fun K "rounds_within" "rounds_within" sWithin f fd) (N : Nums mg) (TN : ErrTxt K mg "BadNumber" CN) (cLi : Cal P w K mg base (L2.CX P w) 7 "limit" (spLimit K C CO)) (cAs : Cal P w K mg base (L2.CX P w) 3 "as_part" (spAsPart K CN))
    (cLe : Cal P w K mg base CX0 1 "is_less" (spLess K)) (cDi : Cal P w K mg base CX0 5 "distance" (spDist K C)) (cB : Cal P w K mg base CX0 8 "behind" (spBehind K C)) : FnOk P w K mg base (L2.CX P w) 9 f fd ["row", "order", "width"] (spWithin K C CN) := by
  obtain ⟨t1, n1⟩ := N.rnd
  refine F.okX scWithin (fun vs H Q E h => ?_) (fun cdv A outer s H vs Q E hr h => ?_)
  · obtain ⟨x, o, u, as, qs, ls, ws, t, rfl, _⟩ := h
    rfl
  · obtain ⟨x, o, u, as, qs, ls, ws, t, rfl, r, ho, S, hu, hsm, hc⟩ := h
    have hr1 : Room 1 _ := hr.mono (by decide)
    have hr3 : Room 3 _ := hr.mono (by decide)
    have hr5 : Room 5 _ := hr.mono (by decide)
    have hr7 : Room 7 _ := hr.mono (by decide)
    refine ⟨_, pss_cons (ps_par (i := 3) (j := 4) rfl scWithin.nd rfl rfl (by decide) rfl rfl (pa_cons (pe_cX cLi hr7 (pa_cons (pv 0) (pa_cons (pv 1) pa_nil))) (pa_cons (pe_cE (takes_of rfl rfl rfl rfl) cAs hr3 (pa_cons (pv 2) pa_nil)) pa_nil)) (by rfl))
      (pss_cons (ps_if (pt_cmpR op_le (pe_at 4 (pv 4)) pe_int (nomark _)) (pss_one (ps_raise rfl (takes_of rfl rfl rfl rfl) (pmk_own PySem.F.excBase_ValueError TN.xI TN.g TN.kp (raises_own TN.b TN.t) rfl))) pss_nil)
      (pss_cons (ps_set (i := 5) scWithin.nd rfl (Or.inl rfl) pe_int)
      (pss_cons (ps_while (passes_of rfl) (pt_val (pe_c0 cLe hr1 (pa_cons (pv 4) (pa_cons (pe_c0 cDi hr5 (pa_cons (pv 0) (pa_cons (pv 3) pa_nil))) pa_nil))))
        (pss_cons (ps_if (pt_cmpR op_eq (pv 5) (pe_glob rfl n1 (v := .int 300) ⟨_, rfl⟩) (nomark _)) (pss_one ps_never) pss_nil)
        (pss_one (ps_par (i := 0) (j := 5) rfl scWithin.nd rfl rfl (by decide) rfl rfl (pa_cons (pe_c0 cB hr (pa_cons (pv 0) (pa_cons (pv 1) pa_nil))) (pa_cons (pe_op op_add (pv 5) pe_int) pa_nil)) (by rfl)))))
      (pss_one (ps_ret (pv 5)))))), ?_⟩
    refine evp_limit (σ := [some x, some (.ref o), some u, none, none, none]) (.var (i := 0) (P := RowAt K C as qs ls) rfl r) (Evl.ev_var (i := 1) rfl) ho S H (Ex.refl _) _ fun vg H1 e1 rg => ?_
    refine ⟨u, rfl, u, t, rfl, mon_th.mo _ _ _ e1 hu, hsm, fun hp vm H2 e2 pm => ?_, fun hp H2 e2 => ?_⟩
    · refine ⟨_, _, rfl, ?_⟩
      dsimp only
      have e02 := e1.trans e2
      rcases hc with ⟨_, h0, hb, n, hn, hlt, hge, k⟩ | ⟨hz, k⟩
      · have hnum : 0 < t.val.num := (num_pos_iff _).mpr h0
        refine Evl.q_if (Evl.et_test (Evl.ev_op (ev_fst rfl pm) Evl.ev_c Evl.rv_I0)) (fun h => by exfalso; have : t.val.num ≤ 0 := of_decide_eq_true h; omega) (fun _ H3 e3 => ?_)
        refine Evl.q_asg Evl.ev_c fun H4 e4 => ?_
        have e04 := (e02.trans e3).trans e4
        have e24 := e3.trans e4
        refine Evl.q_while (fun m σ' H' => ∃ v i, σ' = [some v, some (.ref o), some u, some vg, some vm, some (.int (i : Nat))] ∧ i + m = n ∧ RowAt K C as (roundsR as ws i qs) ls v H' ∧ Ex H4 H') n ⟨x, 0, rfl, by omega, mon_row.mo _ _ _ e04 r, Ex.refl _⟩ ?_
        rintro m σ' H5 ⟨v, i, rfl, him, rv, e5⟩
        have hi : i ≤ 12 := by omega
        have pm5 : FrAt K t.val vm H5 := PrAt.mono (e24.trans e5) pm
        have rg5 := mon_row.mo _ _ _ ((e2.trans e24).trans e5) rg
        refine ⟨_, Evl.et_B (ev_lessF (.var (P := FrAt K t.val) rfl pm5) (evp_dist (.var (P := RowAt K C as (roundsR as ws i qs) ls) rfl rv) (.var (P := RowAt K C as (goalR as qs ws) ls) rfl rg5) (S.dis (show i ≤ 13 by omega))) hb (S.gapBk (show i ≤ 13 by omega))), fun hbb H6 e6 => ?_, fun hbb H6 e6 => ?_⟩
        · have hb' : t.val < gapAt as qs ws i := of_decide_eq_true hbb
          have hin : i < n := by
            rcases Nat.lt_or_ge i n with h | h
            · exact h
            · have : i = n := by omega
              subst this
              exact absurd hb' hge
          obtain ⟨inv, he⟩ := S.at (show i ≤ 13 by omega)
          have he : i * ws.length ≤ 63 := Nat.le_trans (Nat.mul_le_mul hi S.ok.sm) (by decide)
          refine ⟨fun σ2 H2 => ∃ v', σ2 = [some v', some (.ref o), some u, some vg, some vm, some (.int ((i + 1 : Nat) : Int))] ∧ RowAt K C as (roundsR as ws (i + 1) qs) ls v' H2 ∧ Ex H4 H2, fun σ2 H2 ⟨v', a, b, c⟩ => ⟨m - 1, by omega, v', i + 1, a, by omega, b, c⟩, ?_⟩
          refine Evl.q_if (b := false) (Evl.et_is (Evl.et_test (Evl.ev_op (Evl.ev_var rfl) Evl.ev_c (Evl.rv_eq rfl))) (by simp; omega)) (fun h => by cases h) (fun _ H7 e7 => ?_)
          have hpar := eap2 (σ := [some v, some (.ref o), some u, some vg, some vm, some (.int (i : Nat))]) (evp_behind (ta := tVar 1) (.var (i := 0) (P := RowAt K C as (roundsR as ws i qs) ls) rfl (mon_row.mo _ _ _ (e6.trans e7) rv)) (Evl.ev_var rfl) (ho.ex (((e04.trans e5).trans e6).trans e7)) S.g S.ok inv he) (ev_evp (Evl.ev_op (Evl.ev_var (i := 5) rfl) (Evl.ev_c (v := .int 1)) (Evl.rv_I0 (g := fun i j => .int (i + j)))))
          refine sp_par1 hpar fun vs H8 e8 ⟨y, z, ev, hy, hz⟩ => ⟨y, z, ev, y, ?_, hy, ((e5.trans e6).trans e7).trans e8⟩
          rw [hz]
          rfl
        · have hb' : ¬ t.val < gapAt as qs ws i := of_decide_eq_false hbb
          have hin : i = n := by
            rcases Nat.lt_or_ge i n with h | h
            · exact absurd (hlt i h) hb'
            · omega
          subst hin
          exact Evl.s_ret (Evl.ev_var rfl) fun H7 e7 => k H7 (((e04.trans e5).trans e6).trans e7)
      · refine Evl.q_if (Evl.et_test (Evl.ev_op (ev_fst rfl pm) Evl.ev_c Evl.rv_I0)) (fun _ H3 e3 => ?_) (fun h => by exfalso; have h' : ¬ t.val.num ≤ 0 := of_decide_eq_false h; exact h' (hz hp))
        exact k H3 (e02.trans e3)
    · rcases hc with ⟨h1, _⟩ | ⟨hz, k⟩
      · rw [h1] at hp
        cases hp
      · exact k H2 (e1.trans e2)
end
end WD
set_option Elab.async false
set_option linter.all false
set_option maxRecDepth 100000
set_option maxHeartbeats 4000000
set_option exponentiation.threshold 500000
namespace WD
open PySem PySem.Spec PyProof.Rows L2 WR WK
open Evl (Ex Ev EvL EvU EvT EvA EvO RV ex_l ex_t)
section
variable {P : Program} {w : World} {K : PySem.W.Frag} {mg : Str → Option Value} {base : Heap} {H : Hp} {σ : L2.St}
def rInt1 : List V → Hp → VK → Prop := fun xs H Q => (∃ i, xs = [.int i] ∧ Q (.int i) H) ∨ ∃ k, xs = [.bl k] ∧ Q (.int (if k then 1 else 0)) H
theorem ev_int1 {ta : TE} {i : Int} (h : Ev ta σ H (.int i)) : Ev (tCB rInt1 (tCons ta tNil)) σ H (.int i) := fun H1 e Q q => h H1 e _ fun H2 e2 => .inl ⟨i, rfl, q H2 e2⟩
abbrev sLCommon : Stmt := top 49
theorem scLCommon : FnScope ["_law_one", "_law_other"] ["_law_one", "_law_other"] (defScope sLCommon) := ⟨rfl, rfl, rfl, by decide +kernel, rfl, by decide +kernel, by decide +kernel⟩
theorem ok_lCommon {f : Addr} {fd : FuncData} (F : Fun K "_law_common" "_law_common" sLCommon f fd) (B : Bl mg) : FnOk P w K mg base CX0 1 f fd ["_law_one", "_law_other"] spCommon := by
  refine F.ok scLCommon (fun vs H Q E h => ?_) (fun cdv A outer s H vs Q E hr h => ?_)
  · obtain ⟨a, rfl, _⟩ := h
    rfl
  · obtain ⟨⟨a, b⟩, rfl, k⟩ := h
    refine ⟨_, pss_cons (ps_while PassesOwn.never (pt_cmpR op_ne (pv 1) pe_int (nomark _)) (pss_one (ps_par (i := 0) (j := 1) rfl scLCommon.nd rfl rfl (by decide) rfl rfl (pa_cons (pv 1) (pa_cons (pe_op op_mod (pe_callTy call_int1 rfl B.int (by decide +kernel) (pa_cons (pv 0) pa_nil)) (pv 1)) pa_nil)) (by rfl)))) (pss_one (ps_ret (pv 0))), ?_⟩
    refine Evl.q_while (fun m σ H' => ∃ x y : Nat, σ = [some (.int x), some (.int y)] ∧ y = m ∧ Nat.gcd x y = Nat.gcd a b ∧ Ex H H') b ⟨a, b, rfl, rfl, rfl, Ex.refl H⟩ ?_
    rintro m σ H1 ⟨x, y, rfl, rfl, hg, e1⟩
    refine ⟨_, Evl.et_test (Evl.ev_op (Evl.ev_var rfl) Evl.ev_c (Evl.rv_ne rfl)), fun hb H2 e2 => ?_, fun hb H2 e2 => ?_⟩
    · have hy : y ≠ 0 := fun z => by subst z; simp at hb
      refine ⟨fun σ2 H3 => σ2 = [some (.int (y : Nat)), some (.int (x % y : Nat))] ∧ Ex H H3, fun σ2 H3 ⟨e, e3⟩ => ⟨x % y, Nat.mod_lt _ (by omega), y, x % y, e, rfl, by rw [Nat.gcd_comm, ← hg, Nat.gcd_comm x y, Nat.gcd_rec y x], e3⟩, ?_⟩
      refine Evl.ea_cons (H := H2) (Evl.ev_var rfl) (Evl.ea_cons (Evl.ev_op (ev_int1 (Evl.ev_var rfl)) (Evl.ev_var rfl) (Evl.rv_I (by show (0 : Int) < y; omega))) Evl.ea_nil) H2 (Ex.refl _) _ fun H3 e3 => ?_
      exact ⟨_, _, rfl, rfl, (e1.trans e2).trans e3⟩
    · have hy : y = 0 := by
        by_cases z : y = 0
        · exact z
        · exfalso
          have : ¬ ((y : Int) = 0) := by omega
          simp at hb
          omega
      subst hy
      refine Evl.s_ret (Evl.ev_var rfl) fun H3 e3 => k _ _ ((e1.trans e2).trans e3) ?_
      show V.int _ = V.int _
      rw [← hg, Nat.gcd_zero_right]
abbrev sLPart : Stmt := top 50
theorem scLPart : FnScope ["_law_top", "_law_below", "_law_least"] ["_law_top", "_law_below"] (defScope sLPart) := ⟨rfl, rfl, rfl, by decide +kernel, rfl, by decide +kernel, by decide +kernel⟩
theorem ok_lPart {f fd} (F : Fun K "_law_part" "_law_part" sLPart f fd) (B : Bl mg) (cC : Cal P w K mg base CX0 1 "_law_common" spCommon) : FnOk P w K mg base CX0 2 f fd ["_law_top", "_law_below"] (spPart K) := by
  refine F.ok scLPart (fun vs H Q E h => ?_) (fun cdv A outer s H vs Q E hr h => ?_)
  · obtain ⟨a, ⟨rfl, _⟩, _⟩ := h
    rfl
  · obtain ⟨⟨t, b⟩, ⟨rfl, h0, ht, hb⟩, k⟩ := h
    have h0 : 0 < b := h0
    have hb : b.natAbs < 2 ^ 4500 := hb
    refine ⟨_, pss_cons (ps_set (i := 2) scLPart.nd rfl (Or.inl rfl) (pe_c0 cC hr (pa_cons (pe_callB call_abs rfl B.abs (by decide +kernel) (pa_cons (pv 0) pa_nil)) (pa_cons (pv 1) pa_nil))))
      (pss_one (ps_ret (pe_ifExp (pt_cmpR op_ne (pv 2) pe_int (nomark _)) (pe_tup (pa_cons (pe_callTy call_int1 rfl B.int (by decide +kernel) (pa_cons (pe_op op_fdivW (pv 0) (pv 2)) pa_nil)) (pa_cons (pe_callTy call_int1 rfl B.int (by decide +kernel) (pa_cons (pe_op op_fdivW (pv 1) (pv 2)) pa_nil)) pa_nil))) (pe_tup (pa_cons pe_int (pa_cons pe_int pa_nil)))))), ?_⟩
    have eb : V.int b = V.int ((b.natAbs : Nat) : Int) := by congr 1; omega
    refine Evl.q_asg (ev_common (x := t.natAbs) (y := b.natAbs) (ev_abs (Evl.ev_var rfl)) (Evl.ev_is (Evl.ev_var rfl) eb)) fun H2 e2 => ?_
    obtain ⟨g1, g2⟩ := gcd_small (t := t) h0 hb
    refine sp_ret (P := FrAt K (rt t b)) (evp_if (b := true) (Evl.et_is (Evl.et_test (Evl.ev_op (Evl.ev_var rfl) Evl.ev_c (Evl.rv_ne rfl))) ?_) (fun _ => ?_) (fun h => by cases h)) fun v H3 e3 p => k v H3 (e2.trans e3) p
    · have : ¬ ((Nat.gcd t.natAbs b.natAbs : Nat) : Int) = 0 := by omega
      simp
      omega
    · intro H3 e3 Q3 q3
      refine Evl.eu_tup (Evl.ea_cons (ev_int1 (Evl.ev_op (Evl.ev_var rfl) (Evl.ev_var rfl) (Evl.rv_I (wide_div g1 g2 (by decide) (by decide))))) (Evl.ea_cons (ev_int1 (Evl.ev_op (Evl.ev_var rfl) (Evl.ev_var rfl) (Evl.rv_I (wide_div g1 g2 (by decide) (by decide))))) Evl.ea_nil)) (by show 2 ≤ 100000; decide) H3 (Ex.refl _) _ fun p H4 hp e4 h4 => q3 _ H4 e4 ⟨p, rfl, ?_⟩
      rw [rt_num t b h0, rt_den t b h0]
      exact SqT.of h4
abbrev sLPlus : Stmt := top 51
theorem scLPlus : FnScope ["_law_one", "_law_other"] ["_law_one", "_law_other"] (defScope sLPlus) := ⟨rfl, rfl, rfl, by decide +kernel, rfl, by decide +kernel, by decide +kernel⟩
theorem ok_lPlus {f : Addr} {fd : FuncData} (F : Fun K "_law_plus" "_law_plus" sLPlus f fd) (cP : Cal P w K mg base CX0 2 "_law_part" (spPart K)) : FnOk P w K mg base CX0 3 f fd ["_law_one", "_law_other"] (spBin K (· + ·)) := by
  refine F.ok scLPlus (fun vs H Q E h => ?_) (fun cdv A outer s H vs Q E hr h => ?_)
  · obtain ⟨a, ⟨x, y, rfl, _⟩, _⟩ := h
    rfl
  · obtain ⟨⟨⟨a, b⟩, c, d⟩, ⟨x, y, rfl, px, py, h1, h2, sa, sb, sc, sd⟩, k⟩ := h
    have h1 : 0 < b := h1
    have h2 : 0 < d := h2
    refine ⟨_, pss_one (ps_ret (pe_c0 cP hr (pa_cons (pe_op op_add (pe_op op_mulW (pe_at 0 (pv 0)) (pe_at 1 (pv 1))) (pe_op op_mulW (pe_at 1 (pv 1)) (pe_at 0 (pv 0)))) (pa_cons (pe_op op_mulW (pe_at 0 (pv 0)) (pe_at 1 (pv 1))) pa_nil)))), ?_⟩
    refine sp_ret (evp_part (t := a * d + c * b) (b := b * d) (Evl.ev_op (ev_mulW (ev_fst rfl px) (ev_snd rfl py) sa.wd sd.wd) (ev_mulW (ev_fst rfl py) (ev_snd rfl px) sc.wd sb.wd) Evl.rv_I0) (ev_mulW (ev_snd rfl px) (ev_snd rfl py) sb.wd sd.wd)
      (Int.mul_pos h1 h2) (big_mul (sa.mul sd) (sc.mul sb)).1 (big1 (sb.mul sd))) fun v H1 e p => k v H1 e ?_
    rw [rt_add _ _ _ _ h1 h2] at p
    exact p
abbrev sLMinus : Stmt := top 54
theorem scLMinus : FnScope ["_law_one", "_law_other"] ["_law_one", "_law_other"] (defScope sLMinus) := ⟨rfl, rfl, rfl, by decide +kernel, rfl, by decide +kernel, by decide +kernel⟩
theorem ok_lMinus {f : Addr} {fd : FuncData} (F : Fun K "_law_minus" "_law_minus" sLMinus f fd) (cP : Cal P w K mg base CX0 2 "_law_part" (spPart K)) : FnOk P w K mg base CX0 3 f fd ["_law_one", "_law_other"] (spBin K (· - ·)) := by
  refine F.ok scLMinus (fun vs H Q E h => ?_) (fun cdv A outer s H vs Q E hr h => ?_)
  · obtain ⟨a, ⟨x, y, rfl, _⟩, _⟩ := h
    rfl
  · obtain ⟨⟨⟨a, b⟩, c, d⟩, ⟨x, y, rfl, px, py, h1, h2, sa, sb, sc, sd⟩, k⟩ := h
    have h1 : 0 < b := h1
    have h2 : 0 < d := h2
    refine ⟨_, pss_one (ps_ret (pe_c0 cP hr (pa_cons (pe_op op_sub (pe_op op_mulW (pe_at 0 (pv 0)) (pe_at 1 (pv 1))) (pe_op op_mulW (pe_at 1 (pv 1)) (pe_at 0 (pv 0)))) (pa_cons (pe_op op_mulW (pe_at 0 (pv 0)) (pe_at 1 (pv 1))) pa_nil)))), ?_⟩
    refine sp_ret (evp_part (t := a * d - c * b) (b := b * d) (Evl.ev_op (ev_mulW (ev_fst rfl px) (ev_snd rfl py) sa.wd sd.wd) (ev_mulW (ev_fst rfl py) (ev_snd rfl px) sc.wd sb.wd) Evl.rv_I0) (ev_mulW (ev_snd rfl px) (ev_snd rfl py) sb.wd sd.wd)
      (Int.mul_pos h1 h2) (big_mul (sa.mul sd) (sc.mul sb)).2 (big1 (sb.mul sd))) fun v H1 e p => k v H1 e ?_
    rw [rt_sub _ _ _ _ h1 h2] at p
    exact p
abbrev sLTimes : Stmt := top 53
theorem scLTimes : FnScope ["_law_one", "_law_other"] ["_law_one", "_law_other"] (defScope sLTimes) := ⟨rfl, rfl, rfl, by decide +kernel, rfl, by decide +kernel, by decide +kernel⟩
theorem ok_lTimes {f : Addr} {fd : FuncData} (F : Fun K "_law_times" "_law_times" sLTimes f fd) (cP : Cal P w K mg base CX0 2 "_law_part" (spPart K)) : FnOk P w K mg base CX0 3 f fd ["_law_one", "_law_other"] (spBin K (· * ·)) := by
  refine F.ok scLTimes (fun vs H Q E h => ?_) (fun cdv A outer s H vs Q E hr h => ?_)
  · obtain ⟨a, ⟨x, y, rfl, _⟩, _⟩ := h
    rfl
  · obtain ⟨⟨⟨a, b⟩, c, d⟩, ⟨x, y, rfl, px, py, h1, h2, sa, sb, sc, sd⟩, k⟩ := h
    have h1 : 0 < b := h1
    have h2 : 0 < d := h2
    refine ⟨_, pss_one (ps_ret (pe_c0 cP hr (pa_cons (pe_op op_mulW (pe_at 0 (pv 0)) (pe_at 1 (pv 1))) (pa_cons (pe_op op_mulW (pe_at 0 (pv 0)) (pe_at 1 (pv 1))) pa_nil)))), ?_⟩
    refine sp_ret (evp_part (t := a * c) (b := b * d) (ev_mulW (ev_fst rfl px) (ev_fst rfl py) sa.wd sc.wd) (ev_mulW (ev_snd rfl px) (ev_snd rfl py) sb.wd sd.wd)
      (Int.mul_pos h1 h2) (big1 (sa.mul sc)) (big1 (sb.mul sd))) fun v H1 e p => k v H1 e ?_
    rw [rt_mul _ _ _ _ h1 h2] at p
    exact p
abbrev sLLess : Stmt := top 52
theorem scLLess : FnScope ["_law_one", "_law_other"] ["_law_one", "_law_other"] (defScope sLLess) := ⟨rfl, rfl, rfl, by decide +kernel, rfl, by decide +kernel, by decide +kernel⟩
theorem ok_lLess {f : Addr} {fd : FuncData} (F : Fun K "_law_less" "_law_less" sLLess f fd) : FnOk P w K mg base CX0 1 f fd ["_law_one", "_law_other"] (spLess K) := by
  refine F.ok scLLess (fun vs H Q E h => ?_) (fun cdv A outer s H vs Q E hr h => ?_)
  · obtain ⟨a, ⟨x, y, rfl, _⟩, _⟩ := h
    rfl
  · obtain ⟨⟨⟨a, b⟩, c, d⟩, ⟨x, y, rfl, px, py, h1, h2, sa, sb, sc, sd⟩, k⟩ := h
    have h1 : 0 < b := h1
    have h2 : 0 < d := h2
    refine ⟨_, pss_one (ps_ret (pe_cmpR op_lt (pe_op op_mulW (pe_at 0 (pv 0)) (pe_at 1 (pv 1))) (pe_op op_mulW (pe_at 1 (pv 1)) (pe_at 0 (pv 0))) (nomark _))), ?_⟩
    refine Evl.s_ret (Evl.ev_op (ev_mulW (ev_fst rfl px) (ev_snd rfl py) sa.wd sd.wd) (ev_mulW (ev_fst rfl py) (ev_snd rfl px) sc.wd sb.wd) Evl.rv_I0) fun H1 e => k _ H1 e ?_
    show V.bl _ = V.bl _
    congr 1
    exact decide_eq_decide.mpr (rt_lt _ _ _ _ h1 h2)
end
end WD
set_option Elab.async false
set_option linter.all false
set_option maxRecDepth 100000
set_option maxHeartbeats 4000000
set_option exponentiation.threshold 500000
namespace WD
open PySem PySem.Spec PyProof.Rows L2 WR WK
open Evl (Ex Ev EvL EvU EvT EvA EvO RV ex_l ex_t)
section
variable {P : Program} {w : World} {K : PySem.W.Frag} {mg : Str → Option Value} {base : Heap} {H H' : Hp} {σ : L2.St} {as ls : List Int} {qs rs : List Rat} {te ta tb : TE} {ws : List Nat} {D : Ends} {tz tu : TS}
theorem evp_pair {n d : Int} (ha : Ev ta σ H (.int n)) (hb : Ev tb σ H (.int d)) : Evp (tTup (tCons ta (tCons tb tNil))) σ H (PrAt K n d) := fun H1 e Q q =>
  Evl.eu_tup (Evl.ea_cons ha (Evl.ea_cons hb Evl.ea_nil)) (by show 2 ≤ 100000; decide) H1 e _ fun p H2 hp e2 h2 => q _ H2 e2 ⟨p, rfl, SqT.of h2⟩
theorem evp_cat (ha : Evp ta σ H (FrsT K qs)) (hb : Evp tb σ H (FrsT K rs)) (hl : qs.length + rs.length ≤ 1000) : Evp (tOp (rCatA K) ta tb) σ H (FrsT K (qs ++ rs)) := fun H1 e Q q =>
  ha H1 e _ fun v H2 e2 ⟨a, xs, ev, s1, f1⟩ => hb H2 (e.trans e2) _ fun u H3 e3 ⟨b, ys, eu, s2, f2⟩ => by
    subst ev eu
    have l1 := f1.length
    have l2 := f2.length
    have f1' := f1.mono e3
    refine ⟨a, b, xs, ys, rfl, rfl, ex_t e3 s1, s2, Nat.le_trans (by omega : _ ≤ 1000) (by decide), fun hx => q _ H3 (e2.trans e3) ⟨b, ys, rfl, s2, ?_⟩, fun _ hy => q _ H3 (e2.trans e3) ⟨a, xs, rfl, ex_t e3 s1, ?_⟩, fun _ _ p hp => q _ _ ((e2.trans e3).trans (Ex.new hp)) ⟨p, _, rfl, SqT.of upd_same, Paired.app (Frs.mono (Ex.new hp) f1') (f2.mono (Ex.new hp))⟩⟩
    · have : qs = [] := List.length_eq_zero_iff.mp (by rw [← l1, hx]; rfl)
      subst this
      exact f2
    · have : rs = [] := List.length_eq_zero_iff.mp (by rw [← l2, hy]; rfl)
      subst this
      rw [List.append_nil]
      exact f1'
/-! ### _law_parts_of -/
def Th.red : Th → Prop
  | .i _ => True
  | .p n d => (rt n d).num = n ∧ ((rt n d).den : Int) = d
  | .no => False
def TupTh (K : PySem.W.Frag) (ts : List Th) : Hpr := fun v H => ∃ a xs, v = .ref a ∧ SqT K H a xs ∧ Ths K H xs ts
instance mon_tupTh {ts : List Th} : Mon (TupTh K ts) := ⟨fun _ _ _ e ⟨a, xs, r, s, p⟩ => ⟨a, xs, r, ex_t e s, Paired.mapP p fun _ _ h => mon_th.mo _ _ _ e h⟩⟩
def spParts (K : PySem.W.Frag) : Sp := spS (A := List Th) (fun ts vs H => (∃ x, vs = [x] ∧ TupTh K ts x H) ∧ ts.length ≤ 100 ∧ ∀ t ∈ ts, t.red) (fun ts => FrsT K (ts.map Th.val))
abbrev sLParts : Stmt := top 56
theorem scLParts : FnScope ["_law_volumes", "_law_volume"] ["_law_volumes"] (defScope sLParts) := ⟨rfl, rfl, rfl, by decide +kernel, rfl, by decide +kernel, by decide +kernel⟩
theorem ok_lParts {f fd} (F : Fun K "_law_parts_of" "_law_parts_of" sLParts f fd) (B : Bl mg) : FnOk P w K mg base CX0 1 f fd ["_law_volumes"] (spParts K) := by
  refine F.ok scLParts (fun vs H Q E h => ?_) (fun cdv A outer s H vs Q E hr h => ?_)
  · obtain ⟨a, ⟨⟨x, rfl, _⟩, _⟩, _⟩ := h
    rfl
  · obtain ⟨ts, ⟨⟨x, rfl, a, xs, rfl, hs, hf⟩, hl, hred⟩, k⟩ := h
    refine ⟨_, pss_one (ps_ret (pe_callTy call_tuple_of rfl B.tup (by decide +kernel) (pa_cons (pe_lc (own := [("_law_volume", 1)]) (g := gName 1) (tt := tYes) rfl scLParts.nd (pi_tup (pv 0)) (blkOk_by (N := ["_law_volumes", "_law_volume"]) (sc := defScope sLParts) (by decide +kernel))
      (fun _ _ _ _ _ => pg_name (i := 1) scLParts.nd rfl (Or.inl rfl)) (fun _ _ _ _ _ => pts_nil)
      (fun _ _ _ _ _ => pe_ifExp (pt_val (pe_callB (r := rIsi K) call_isi rfl B.isi (by decide +kernel) (pa_cons (pv 1) (pa_cons (pe_bltn rfl B.tup (by decide +kernel) (v := .ty "tuple") rfl) pa_nil)))) (pv 1) (pe_tup (pa_cons (pv 1) (pa_cons pe_int pa_nil))))) pa_nil))), ?_⟩
    have hxl := hf.length
    refine sp_ret (P := FrsT K (ts.map Th.val)) (evp_tupOf (evp_lc (wi_tup (xs := xs) (.var (i := 0) rfl (P := fun v H => ∃ b, v = .ref b ∧ SqT K H b xs) ⟨a, rfl, hs⟩ (m := ⟨fun _ _ _ e ⟨a, r, s⟩ => ⟨a, r, ex_t e s⟩⟩))) (fun i => FrAt K ((ts.map Th.val).getD i 0)) (fun _ => mon_pr) (fun _ => lf_pr) (by omega) ?_) ?_) fun v H1 e p => k v H1 e p
    · rintro i x H2 H3 hi e2 ⟨rfl, hx⟩
      obtain ⟨t, htt, pt⟩ := Paired.get' hf hx
      have hr := hred t (List.mem_of_getElem? htt)
      have pt : ThAt K t x H3 := mon_th.mo _ _ _ e2 pt
      have ee : (ts.map Th.val).getD i 0 = t.val := by rw [List.getD_eq_getElem?_getD, List.getElem?_map, htt]; rfl
      refine ⟨Ex.refl _, _, fun R r => r, rfl, ?_⟩
      rw [ee]
      cases t with
      | no => exact hr.elim
      | p n d =>
        have hx : PrAt K n d x H3 := pt
        obtain ⟨b, rfl, hb⟩ := id hx
        refine evp_if (b := true) (Evl.et_B (ev_isi (t := "tuple") (Evl.ev_var rfl) (fun H1 e => tyx_tup (ex_t e hb)) (by decide +kernel))) (fun _ => ?_) (fun h => by cases h)
        show Evp _ _ _ (PrAt K (rt n d).num (rt n d).den)
        rw [hr.1, hr.2]
        exact .var (P := PrAt K n d) rfl hx
      | i n =>
        cases (show x = .int n from pt)
        refine evp_if (b := false) (Evl.et_B (ev_isi (t := "int") (Evl.ev_var rfl) (fun H1 e => .base (.int n)) (by decide +kernel))) (fun h => by cases h) (fun _ => ?_)
        show Evp _ _ _ (FrAt K (rt n 1))
        rw [rt_one]
        exact evp_pair (Evl.ev_var rfl) Evl.ev_c
    · intro v H' e h
      obtain ⟨a, ys, rfl, hy, hf'⟩ := ths_frs hxl h
      exact ⟨a, ys, rfl, SqL.of hy, fun p hp => ⟨p, ys, rfl, SqT.of upd_same, hf'.mono (Ex.new hp)⟩⟩
/-! ### _law_open -/
def spLOpen (K : PySem.W.Frag) : Sp := spS (A := (List Int × List Rat) × (Nat × Nat)) (fun a vs H => (∃ x y, vs = [x, y, .int a.2.1] ∧ IntsT K a.1.1 x H ∧ FrsT K a.1.2 y H) ∧ Areas a.1.1 ∧ a.1.1.length ≤ 6 ∧ 0 < a.2.1 ∧ a.2.1 < a.1.1.length ∧ RowInv a.2.2 a.1.1 a.1.2 ∧ a.2.2 ≤ 68) (fun a => FrsT K (openR a.1.1 a.1.2 a.2.1))
abbrev sLOpen : Stmt := top 57
abbrev nLOpen : List Str := ["_law_areas", "_law_volumes", "_law_weir", "_law_both", "_law_one", "_law_other", "_law_first"]
theorem scLOpen : FnScope nLOpen ["_law_areas", "_law_volumes", "_law_weir"] (defScope sLOpen) := ⟨rfl, rfl, rfl, by decide +kernel, rfl, by decide +kernel, by decide +kernel⟩
theorem ok_lOpen {f fd} (F : Fun K "_law_open" "_law_open" sLOpen f fd) (cPl : Cal P w K mg base CX0 3 "_law_plus" (spBin K (· + ·))) (cTi : Cal P w K mg base CX0 3 "_law_times" (spBin K (· * ·))) (cPa : Cal P w K mg base CX0 2 "_law_part" (spPart K)) :
    FnOk P w K mg base CX0 4 f fd ["_law_areas", "_law_volumes", "_law_weir"] (spLOpen K) := by
  refine F.ok scLOpen (fun vs H Q E h => ?_) (fun cdv A outer s H vs Q E hr h => ?_)
  · obtain ⟨a, ⟨⟨x, y, rfl, _⟩, _⟩, _⟩ := h
    rfl
  · obtain ⟨⟨⟨as, qs⟩, n, e⟩, ⟨⟨x, y, rfl, hx, hy⟩, hA, h6, hn0, hn, inv, he⟩, k⟩ := h
    have hA : Areas as := hA
    have h6 : as.length ≤ 6 := h6
    have hn1 : 1 ≤ n := hn0
    have hn2 : n < as.length := hn
    have inv : RowInv e as qs := inv
    have he : e ≤ 68 := he
    have hln := inv.len
    have hr2 : Room 2 _ := hr.mono (by decide)
    refine ⟨_, pss_cons (ps_set (i := 3) scLOpen.nd rfl (Or.inl rfl) (pe_c0 cPl hr (pa_cons (pe_ix ix_tup (pv 1) (pe_op op_sub (pv 2) pe_int) (fun _ _ => rfl)) (pa_cons (pe_ix ix_tup (pv 1) (pv 2) (fun _ _ => rfl)) pa_nil))))
      (pss_cons (ps_par (i := 4) (j := 5) rfl scLOpen.nd rfl rfl (by decide) rfl rfl (pa_cons (pe_ix ix_tup (pv 0) (pe_op op_sub (pv 2) pe_int) (fun _ _ => rfl)) (pa_cons (pe_ix ix_tup (pv 0) (pv 2) (fun _ _ => rfl)) pa_nil)) (by rfl))
      (pss_cons (ps_set (i := 6) scLOpen.nd rfl (Or.inl rfl) (pe_c0 cTi hr (pa_cons (pv 3) (pa_cons (pe_tup (pa_cons (pv 4) (pa_cons (pe_op op_add (pv 4) (pv 5)) pa_nil))) pa_nil))))
      (pss_one (ps_ret (pe_op op_catA (pe_op op_catA (pe_slice sl_tupA (pv 1) po_none (po_some (pe_op op_sub (pv 2) pe_int)))
        (pe_tup (pa_cons (pe_c0 cPa hr2 (pa_cons (pe_at 6 (pv 6)) (pa_cons (pe_at 6 (pv 6)) pa_nil))) (pa_cons (pe_c0 cTi hr (pa_cons (pv 3) (pa_cons (pe_tup (pa_cons (pv 5) (pa_cons (pe_op op_add (pv 4) (pv 5)) pa_nil))) pa_nil))) pa_nil)))) (pe_slice sl_tupA (pv 1) (po_some (pe_op op_add (pv 2) pe_int)) po_none)))))), ?_⟩
    have ew : V.int ((n : Int) - 1) = V.int ((n - 1 : Nat) : Int) := by congr 1; omega
    have ew2 : V.int ((n : Int) + 1) = V.int ((n + 1 : Nat) : Int) := by congr 1
    have a0 : as[n - 1]? = some (as.getD (n - 1) 1) := as_some (by omega)
    have a1 : as[n]? = some (as.getD n 1) := as_some hn2
    have q0 : qs[n - 1]? = some (vo qs (n - 1)) := vo_some (by omega)
    have q1 : qs[n]? = some (vo qs n) := vo_some (by omega)
    have har : ∀ {σ : L2.St} {H1 : Hp}, Ex H H1 → σ[0]? = some (some x) → Evp (tVar 0) σ H1 (IntsT K as) := fun e h => .var h (mon_intsT.mo _ _ _ e hx)
    have hvo : ∀ {σ : L2.St} {H1 : Hp}, Ex H H1 → σ[1]? = some (some y) → Evp (tVar 1) σ H1 (FrsT K qs) := fun e h => .var h (mon_frsT.mo _ _ _ e hy)
    have hwm : ∀ {σ : L2.St} {H1 : Hp}, σ[2]? = some (some (.int (n : Int))) → Ev (tOp (rI0 fun i j => .int (i - j)) (tVar 2) (tC (.int 1))) σ H1 (.int ((n - 1 : Nat) : Int)) := fun h => Evl.ev_is (Evl.ev_op (Evl.ev_var h) Evl.ev_c Evl.rv_I0) ew
    obtain ⟨i0, i4⟩ := hA.at (n - 1)
    obtain ⟨j0, j4⟩ := hA.at n
    have b0 : Bk 700 (vo qs (n - 1)) := (inv.bk hA (n - 1)).mono (by omega)
    have b1 : Bk 700 (vo qs n) := (inv.bk hA n).mono (by omega)
    have bB : Bk 1401 (vo qs (n - 1) + vo qs n) := b0.add b1
    refine sp_set ((evp_binF (g := (· + ·)) (evp_ixF (hvo (Ex.refl _) rfl) (hwm rfl) q0) (evp_ixF (hvo (Ex.refl _) rfl) (Evl.ev_var rfl) q1) (b0.mono (by decide)) (b1.mono (by decide)))) fun vb H1 e1 pb => ?_
    refine sp_par (eap_ea (Evl.ea_cons (ev_ixI (har e1 rfl) (hwm rfl) a0) (Evl.ea_cons (ev_ixI (har e1 rfl) (Evl.ev_var rfl) a1) Evl.ea_nil))) fun vs H2 e2 ev => ⟨_, _, ev, ?_⟩
    have e02 := e1.trans e2
    generalize hx0 : as.getD (n - 1) 1 = x0 at *
    generalize hx1 : as.getD n 1 = x1 at *
    have sm16 : ∀ z : Int, z.natAbs < 16 → Sm z := fun z h => Sm.mk (k := 4) h (by decide)
    have sB := Bk.sm bB (by decide : 1401 ≤ 2200)
    have bP : Bk 4 (rt x0 (x0 + x1)) := Bk.rt (by show _ < 16; omega) (by show _ < 16; omega) (by omega)
    have bE : Bk 1405 ((vo qs (n - 1) + vo qs n) * rt x0 (x0 + x1)) := bB.mul bP
    have tim : ∀ {σ : L2.St} {H1 : Hp} {tb : TE} {z : Int}, Evp (tVar 3) σ H1 (FrAt K (vo qs (n - 1) + vo qs n)) → Evp tb σ H1 (PrAt K z (x0 + x1)) → 1 ≤ z → z ≤ 4 → Evp (tCl (spBin K (· * ·)) (fun _ => E0) (tCons (tVar 3) (tCons tb tNil))) σ H1 (FrAt K ((vo qs (n - 1) + vo qs n) * rt z (x0 + x1))) := fun h1 h2 z1 z4 => by
      have := evp_bin (g := (· * ·)) h1 h2 (den_pos' _) (by omega) sB.1 sB.2 (sm16 _ (by omega)) (sm16 _ (by omega))
      rw [rt_self] at this
      exact this
    refine sp_set (tim (.var (P := FrAt K (vo qs (n - 1) + vo qs n)) rfl (PrAt.mono e2 pb)) (evp_pair (Evl.ev_var rfl) (Evl.ev_op (Evl.ev_var rfl) (Evl.ev_var rfl) Evl.rv_I0)) i0 i4) fun vf H3 e3 pf => ?_
    have e03 := e02.trans e3
    have sE := bE.mono (show 1405 ≤ 4500 by decide)
    have hR : openR as qs n = (WD.sub 0 (n - 1) qs ++ [(vo qs (n - 1) + vo qs n) * rt x0 (x0 + x1), (vo qs (n - 1) + vo qs n) * rt x1 (x0 + x1)]) ++ WD.sub (n + 1) qs.length qs := by
      unfold openR
      rw [open_parts _ _ _ _ hn1 (by omega), rt_eq _ _ (by omega), rt_eq _ _ (by omega), Rat.intCast_add, ← hx0, ← hx1, List.append_assoc]
      rfl
    have l0 : (WD.sub 0 (n - 1) qs).length ≤ 6 := by simp [WD.sub]; omega
    have l1 : (WD.sub (n + 1) qs.length qs).length ≤ 6 := by simp [WD.sub]; omega
    refine sp_ret (P := FrsT K (openR as qs n)) ?_ fun v H4 e4 p => k v H4 (e03.trans e4) p
    rw [hR]
    refine evp_cat (evp_cat (evp_slF (a := 0) (b := n - 1) (hvo e03 rfl) Evl.eo_none (Evl.eo_some (hwm rfl)) rfl (by rw [HT.sIx_nat]; omega)) ?_ (by show _ + 2 ≤ 1000; omega)) (evp_slF (a := n + 1) (b := qs.length) (hvo e03 rfl) (Evl.eo_some (Evl.ev_is (Evl.ev_op (Evl.ev_var rfl) Evl.ev_c Evl.rv_I0) ew2)) Evl.eo_none (by rw [HT.sIx_nat]; omega) rfl) (by rw [List.length_append]; show _ + 2 + _ ≤ 1000; omega)
    refine evp_tup (eap2 ((evp_part (ev_fst rfl pf) (ev_snd rfl pf) (den_pos' _) sE.n (by rw [Int.natAbs_natCast]; exact sE.d)).cast (rt_self _)) (tim (.var (P := FrAt K (vo qs (n - 1) + vo qs n)) rfl (PrAt.mono (e2.trans e3) pb)) (evp_pair (Evl.ev_var rfl) (Evl.ev_op (Evl.ev_var rfl) (Evl.ev_var rfl) Evl.rv_I0)) j0 j4)) (fun vs H1 ⟨x, y, e, _⟩ => by rw [e]; show 2 ≤ sizeLine; decide) fun vs H1 p e ⟨x, y, ev, p1, p2⟩ hp => ?_
    subst ev
    exact ⟨p, _, rfl, SqT.of upd_same, .cons (PrAt.mono (Ex.new hp) p1) (.cons (PrAt.mono (Ex.new hp) p2) .nil)⟩
/-! ### _law_behind -/
def spLBehind (K : PySem.W.Frag) : Sp := spS (A := (List Int × List Rat) × (List Nat × Nat)) (fun a vs H => (∃ x y o, vs = [x, y, .ref o] ∧ IntsT K a.1.1 x H ∧ FrsT K a.1.2 y H ∧ SqA K H o (ordV a.2.1)) ∧ Areas a.1.1 ∧ a.1.1.length ≤ 6 ∧ Weirs a.1.1.length a.2.1 ∧ a.2.1.length ≤ 5 ∧ RowInv a.2.2 a.1.1 a.1.2 ∧ a.2.2 ≤ 63) (fun a => FrsT K (behindR a.1.1 a.1.2 a.2.1))
abbrev sLBehind : Stmt := top 58
abbrev nLBehind : List Str := ["_law_areas", "_law_volumes", "_law_order_here", "_law_weir"]
theorem scLBehind : FnScope nLBehind ["_law_areas", "_law_volumes", "_law_order_here"] (defScope sLBehind) := ⟨rfl, rfl, rfl, by decide +kernel, rfl, by decide +kernel, by decide +kernel⟩
theorem evp_lOpen {tc : TE} {n e : Nat} (ha : Evp ta σ H (IntsT K as)) (hb : Evp tb σ H (FrsT K qs)) (hc : Ev tc σ H (.int (n : Nat))) (hA : Areas as) (h6 : as.length ≤ 6) (h0 : 0 < n) (hn : n < as.length) (inv : RowInv e as qs) (he : e ≤ 68) : Evp (tCl (spLOpen K) (fun _ => E0) (tCons ta (tCons tb (tCons tc tNil)))) σ H (FrsT K (openR as qs n)) :=
  evp_cl ((as, qs), (n, e)) (eap3 ha hb (ev_evp hc)) fun vs H1 _ ⟨x, y, z, ev, hx, hy, hz⟩ => ⟨⟨x, y, by rw [ev, hz], hx, hy⟩, hA, h6, h0, hn, inv, he⟩
theorem ok_lBehind {f fd} (F : Fun K "_law_behind" "_law_behind" sLBehind f fd) (cO : Cal P w K mg base CX0 4 "_law_open" (spLOpen K)) : FnOk P w K mg base CX0 5 f fd ["_law_areas", "_law_volumes", "_law_order_here"] (spLBehind K) := by
  refine F.ok scLBehind (fun vs H Q E h => ?_) (fun cdv A outer s H vs Q E hr h => ?_)
  · obtain ⟨a, ⟨⟨x, y, o, rfl, _⟩, _⟩, _⟩ := h
    rfl
  · obtain ⟨⟨⟨as, qs⟩, ws, e⟩, ⟨⟨x, y, o, rfl, hx, hy, ho⟩, hA, h6, hw, h5, inv, he⟩, k⟩ := h
    have hw : Weirs as.length ws := hw
    have h5 : ws.length ≤ 5 := h5
    have inv : RowInv e as qs := inv
    have he : e ≤ 63 := he
    refine ⟨_, pss_cons (ps_for PassesOwn.never rfl (pi_seq 2 (pv 2)) (pg_name (i := 3) scLBehind.nd rfl (Or.inl rfl)) (pss_one (ps_set (i := 1) scLBehind.nd rfl (Or.inl rfl) (pe_c0 cO hr (pa_cons (pv 0) (pa_cons (pv 1) (pa_cons (pv 3) pa_nil)))))))
      (pss_one (ps_ret (pv 1))), ?_⟩
    refine sp_for (wi_seq rfl ho) (fun i σ' H' => ∃ v u, σ' = [some x, some v, some (.ref o), u] ∧ FrsT K (behindR as qs (ws.take i)) v H') (fun H3 e3 => ⟨y, none, rfl, mon_frsT.mo _ _ _ e3 hy⟩) ?_ ?_
    · rintro i y' σ' H3 H4 Nx hi e3 ⟨v, u, rfl, rv⟩ ⟨rfl, hx'⟩ hN
      obtain ⟨n, hn, rfl⟩ := ord_get hx'
      obtain ⟨n0, n1⟩ := hw n (List.mem_of_getElem? hn)
      have inv' := RowInv.behind hA (ws.take i) inv (take_weirs hw i)
      refine sp_set1 (P := FrsT K (behindR as qs (ws.take (i + 1)))) ?_ fun v2 H5 e5 p5 => hN _ _ e5 ⟨v2, some _, rfl, p5⟩
      rw [behind_next hn]
      exact evp_lOpen (.var (P := IntsT K as) rfl (mon_intsT.mo _ _ _ e3 hx)) (.var (P := FrsT K (behindR as qs (ws.take i))) rfl rv) (Evl.ev_var rfl) hA h6 n0 n1 inv' (by rw [List.length_take]; omega)
    · rintro σ' H3 e3 ⟨v, u, rfl, rv⟩
      have : (ordV ws).length = ws.length := List.length_map ..
      rw [this, List.take_length] at rv
      exact Evl.s_ret (Evl.ev_var rfl) fun H4 e4 => k _ _ (e3.trans e4) (mon_frsT.mo _ _ _ e4 rv)
/-! ### _law_heights -/
def spLHts (K : PySem.W.Frag) : Sp := spS (A := List Int × List Rat) (fun a vs H => (∃ x y, vs = [x, y] ∧ IntsT K a.1 x H ∧ FrsT K a.2 y H) ∧ Areas a.1 ∧ a.1.length ≤ 6 ∧ a.2.length = a.1.length ∧ ∀ q ∈ a.2, Bk 700 q) (fun a => FrsL K (hts a.1 a.2))
abbrev sLHts : Stmt := top 59
abbrev nLHts : List Str := ["_law_areas", "_law_volumes", "_law_area", "_law_volume"]
theorem scLHts : FnScope nLHts ["_law_areas", "_law_volumes"] (defScope sLHts) := ⟨rfl, rfl, rfl, by decide +kernel, rfl, by decide +kernel, by decide +kernel⟩
theorem ok_lHts {f fd} (F : Fun K "_law_heights" "_law_heights" sLHts f fd) (B : Bl mg) (cTi : Cal P w K mg base CX0 3 "_law_times" (spBin K (· * ·))) : FnOk P w K mg base CX0 4 f fd ["_law_areas", "_law_volumes"] (spLHts K) := by
  refine F.ok scLHts (fun vs H Q E h => ?_) (fun cdv A outer s H vs Q E hr h => ?_)
  · obtain ⟨a, ⟨⟨x, y, rfl, _⟩, _⟩, _⟩ := h
    rfl
  · obtain ⟨⟨as, qs⟩, ⟨⟨x, y, rfl, ⟨aa, rfl, h3⟩, av, xs, rfl, h4, h5⟩, hA, h6, hlen, hb⟩, k⟩ := h
    have hA : Areas as := hA
    have h6 : as.length ≤ 6 := h6
    have hlen : qs.length = as.length := hlen
    refine ⟨_, pss_one (ps_ret (pe_lc (own := [("_law_area", 2), ("_law_volume", 3)]) (g := gTup K 2 (gCons (gName 2) (gCons (gName 3) gNil))) (tt := tYes) rfl scLHts.nd (RZ.pi_zipA rfl B.zip (pa_cons (pv 0) (pa_cons (pv 1) pa_nil))) (blkOk_by (N := nLHts) (sc := defScope sLHts) (by decide +kernel))
      (fun _ _ _ _ _ => pg_tup rfl (pgs_cons (pg_name (i := 2) scLHts.nd rfl (Or.inl rfl)) (pgs_cons (pg_name (i := 3) scLHts.nd rfl (Or.inl rfl)) pgs_nil))) (fun _ _ _ _ _ => pts_nil)
      (fun _ _ _ _ _ => pe_c0 cTi hr (pa_cons (pv 3) (pa_cons (pe_tup (pa_cons pe_int (pa_cons (pv 2) pa_nil))) pa_nil))))), ?_⟩
    have hxl : (as.map V.int).length = xs.length := by rw [h5.length, List.length_map]; exact hlen.symm
    have hz : Evpa (tCons (tVar 0) (tCons (tVar 1) tNil)) [some (.ref aa), some (.ref av), none, none] H (fun vs H' => vs = [.ref aa, .ref av] ∧ Ex H H') := fun H1 e Q q => eap_ea (Evl.ea_cons (Evl.ev_var rfl) (Evl.ea_cons (Evl.ev_var rfl) Evl.ea_nil)) H1 e Q fun vs H2 e2 h => q vs H2 e2 ⟨h, e.trans e2⟩
    refine sp_ret (evp_lc (wi_zipT (xs := as.map V.int) (ys := xs) hz (fun vs H1 ⟨e, eH⟩ => ⟨aa, av, e, ex_t eH h3, ex_t eH h4⟩) hxl) (fun i => FrAt K ((hts as qs).getD i 0)) (fun _ => mon_pr) (fun _ => lf_pr) (by rw [List.length_map]; omega) ?_) fun v H1 e h => k v H1 e ?_
    · rintro i x H2 H3 hi e2 y
      obtain ⟨e3, Tt, u, v, rfl, hT, hu, hv⟩ := YPair.use (K := K) y
      obtain ⟨q, hq, pu⟩ := Paired.get' h5 hv
      rw [List.getElem?_map] at hu
      obtain ⟨a, ha, rfl⟩ := Option.map_eq_some_iff.mp hu
      obtain ⟨a1, a4⟩ := hA a (List.mem_of_getElem? ha)
      have pu : FrAt K q v H3 := pu.mono (e2.trans e3)
      have sq := Bk.sm (hb q (List.mem_of_getElem? hq)) (by decide : 700 ≤ 2200)
      refine ⟨e3, _, fun R r => gtup2 hT r, rfl, ?_⟩
      have h := evp_bin (K := K) (g := (· * ·)) (σ := [some (.ref aa), some (.ref av), some (.int a), some v]) (H := H3) (ta := tVar 3) (.var (P := FrAt K q) rfl pu) (evp_pair (K := K) (n := 1) (d := a) (Evl.ev_c (v := .int 1)) (Evl.ev_var (i := 2) rfl)) (den_pos' q) (by omega) sq.1 sq.2 (Sm.mk (k := 3) (by decide) (by decide)) (Sm.mk (k := 3) (by show _ < 8; omega) (by decide))
      refine h.cast ?_
      rw [hts_get' hq ha, rt_self, rt_one, rt_eq _ _ (by omega), Rat.div_def, Rat.div_def]
      show q * (((1 : Int) : Rat) * _) = _
      have : ((1 : Int) : Rat) = 1 := rfl
      rw [this, Rat.one_mul]
    · obtain ⟨a, ys, rfl, hy, hf⟩ := h.frs (by rw [hts_length as qs hlen, List.length_map])
      exact ⟨a, ys, rfl, SqL.of hy, hf⟩
end
end WD
set_option Elab.async false
set_option linter.all false
set_option maxRecDepth 100000
set_option maxHeartbeats 4000000
set_option exponentiation.threshold 500000
namespace WD
open PySem PySem.Spec PyProof.Rows L2 WR WK
open Evl (Ex Ev EvL EvU EvT EvA EvO RV ex_l ex_t)
section
variable {P : Program} {w : World} {K : PySem.W.Frag} {mg : Str → Option Value} {base : Heap} {H H' : Hp} {σ : L2.St} {as ls : List Int} {qs rs : List Rat} {te ta tb : TE} {ws : List Nat} {D : Ends} {tz tu : TS}
/-! ### _law_joined -/
def PrsL (K : PySem.W.Frag) (ps : List (Nat × Nat)) : Hpr := fun v H => ∃ a xs, v = .ref a ∧ H a = some (.lst xs) ∧ Prs K H xs ps
instance mon_prsL {ps : List (Nat × Nat)} : Mon (PrsL K ps) := ⟨fun _ _ _ e ⟨a, xs, r, s, p⟩ => ⟨a, xs, r, e _ _ s, Paired.mapP p fun _ _ h => PrAt.mono e h⟩⟩
def spLJoined (K : PySem.W.Frag) : Sp := spS (A := Nat × List Nat) (fun a vs H => (∃ o, vs = [.int a.1, .ref o] ∧ SqA K H o (ordV a.2)) ∧ 1 ≤ a.1 ∧ a.1 ≤ 6) (fun a => PrsL K (runsR a.1 a.2))
abbrev sLJoined : Stmt := top 61
abbrev nLJoined : List Str := ["_law_many", "_law_order_here", "_law_found", "_law_first", "_law_weir"]
theorem scLJoined : FnScope nLJoined ["_law_many", "_law_order_here"] (defScope sLJoined) := ⟨rfl, rfl, rfl, by decide +kernel, rfl, by decide +kernel, by decide +kernel⟩
theorem ok_lJoined {f fd} (F : Fun K "_law_joined" "_law_joined" sLJoined f fd) (B : Bl mg) : FnOk P w K mg base CX0 1 f fd ["_law_many", "_law_order_here"] (spLJoined K) := by
  refine F.ok scLJoined (fun vs H Q E h => ?_) (fun cdv A outer s H vs Q E hr h => ?_)
  · obtain ⟨a, ⟨⟨o, rfl, _⟩, _⟩, _⟩ := h
    rfl
  · obtain ⟨⟨n, ws⟩, ⟨⟨o, rfl, ho⟩, hn1, hn6⟩, k⟩ := h
    have hn1 : 1 ≤ n := hn1
    have hn6 : n ≤ 6 := hn6
    refine ⟨_, pss_cons (ps_par (i := 2) (j := 3) rfl scLJoined.nd rfl rfl (by decide) rfl rfl (pa_cons (pe_lst pa_nil) (pa_cons pe_int pa_nil)) (by rfl))
      (pss_cons (ps_for PassesOwn.never rfl (pi_range2 rfl B.rng (pa_cons pe_int (pa_cons (pe_op op_add (pv 0) pe_int) pa_nil))) (pg_name (i := 4) scLJoined.nd rfl (Or.inl rfl))
        (pss_one (ps_if (PW.pt (pw_or (pt_cmpR op_eq (pv 4) (pv 0) (nomark _)) (pw_or1 (pt_cmpR op_notIn_seq (pv 4) (pv 1) rfl))))
          (pss_cons (ps_expr (pe_bm PySem.F.plainAttrs_list PySem.F.slot_list_append PySem.F.type_list_append mt_append (pv 2) (pa_cons (pe_tup (pa_cons (pv 3) (pa_cons (pv 4) pa_nil))) pa_nil))) (pss_one (ps_set (i := 3) scLJoined.nd rfl (Or.inl rfl) (pv 4)))) pss_nil)))
      (pss_one (ps_ret (pv 2)))), ?_⟩
    have hpar : Evpa (tCons (tLst tNil) (tCons (tC (.int 0)) tNil)) [some (.int (n : Nat)), some (.ref o), none, none, none] H (fun vs H' => ∃ l, vs = [.ref l, .int 0] ∧ H l = none ∧ H' l = some (.lst [])) := fun H3 e3 Q3 q3 =>
      Evl.el_lst Evl.ea_nil (by show 0 ≤ 100000; decide) H3 (Ex.refl _) _ fun l H4 hl e4 h4 => q3 _ H4 e4 ⟨l, rfl, Evl.fresh_back e3 hl, h4⟩
    refine sp_par hpar fun vs H3 e3 ⟨l, ev, hl, h3⟩ => ⟨_, _, ev, ?_⟩
    refine Evl.q_forR2 (lo := 1) (n := (n : Int) + 1) (Evl.ea_cons Evl.ev_c (Evl.ea_cons (Evl.ev_op (Evl.ev_var rfl) Evl.ev_c Evl.rv_I0) Evl.ea_nil)) (by omega)
      (fun i σ' H' => ∃ xs u, σ' = [some (.int (n : Nat)), some (.ref o), some (.ref l), some (.int ((runsTo n ws i).2 : Nat)), u] ∧ Ex H H' ∧ H' l = some (.lst xs) ∧ Prs K H' xs (runsTo n ws i).1 ∧ xs.length ≤ i)
      (fun H4 e4 => ⟨[], none, rfl, e3.trans e4, e4 _ _ h3, .nil, Nat.zero_le _⟩) ?_ ?_
    · rintro i σ' H4 hi ⟨xs, u, rfl, e4, h4, hp, hxl⟩
      have ei : V.int ((1 : Int) + (i : Int)) = V.int ((i + 1 : Nat) : Int) := by congr 1; omega
      show _
      rw [ei]
      have hstep : runsTo n ws (i + 1) = if i + 1 = n ∨ i + 1 ∉ ws then ((runsTo n ws i).1 ++ [((runsTo n ws i).2, i + 1)], i + 1) else runsTo n ws i := rfl
      refine Evl.s_if (b := decide (i + 1 = n) || !decide (i + 1 ∈ ws)) (Evl.et_or (Evl.et_is (Evl.et_test (Evl.ev_op (Evl.ev_var rfl) (Evl.ev_var rfl) (Evl.rv_eq rfl))) ?_) (fun _ => Evl.et_test (ev_notInA (Evl.ev_var rfl) (Evl.ev_var rfl) (ho.ex e4)))) (fun hb H5 e5 => ?_) (fun hb H5 e5 => ?_)
      · apply decide_eq_decide.mpr
        rw [V.int.injEq]
        omega
      · have hc : i + 1 = n ∨ i + 1 ∉ ws := by
          rcases Bool.or_eq_true_iff.mp hb with h | h
          · exact .inl (of_decide_eq_true h)
          · exact .inr (by simpa using h)
        rw [if_pos hc] at hstep
        refine q_appP (P := fun v H => ∃ p, v = .ref p ∧ H p = some (.tup [.int ((runsTo n ws i).2 : Nat), .int ((i + 1 : Nat) : Int)])) (e5 _ _ h4) (Evl.ev_var rfl) (fun H6 e6 Q6 q6 => Evl.eu_tup (Evl.ea_cons (Evl.ev_var rfl) (Evl.ea_cons (Evl.ev_var rfl) Evl.ea_nil)) (by show 2 ≤ 100000; decide) H6 (Ex.refl _) _ fun p H7 hp e7 h7 => q6 _ H7 e7 ⟨p, rfl, h7⟩) (by omega) fun v H6 e6 ⟨p, ev, h6⟩ => ?_
        refine Evl.s_asg (Evl.ev_var rfl) fun H7 e7 => ?_
        have hl6 : H6 l = some (.lst xs) := e6 _ _ (e5 _ _ h4)
        refine ⟨xs ++ [v], _, by rw [hstep]; rfl, (Ex.mut ((e4.trans e5).trans e6) hl).trans e7, e7 _ _ upd_same, ?_, by rw [List.length_append]; show xs.length + 1 ≤ i + 1; omega⟩
        rw [hstep]
        refine Paired.app (Paired.mapP hp fun y q hy => PrAt.mono e7 (lf_pr.lf _ _ _ _ _ hl6 (PrAt.mono (e5.trans e6) hy))) (.cons ?_ .nil)
        subst ev
        exact PrAt.mono e7 (lf_pr.lf _ _ _ _ _ hl6 ⟨p, rfl, SqT.of h6⟩)
      · have hc : ¬ (i + 1 = n ∨ i + 1 ∉ ws) := by
          rw [Bool.or_eq_false_iff] at hb
          rintro (h | h)
          · exact of_decide_eq_false hb.1 h
          · exact h (by simpa using hb.2)
        rw [if_neg hc] at hstep
        refine ⟨xs, _, by rw [hstep]; rfl, e4.trans e5, e5 _ _ h4, ?_, by omega⟩
        rw [hstep]
        exact Paired.mapP hp fun y q hy => PrAt.mono e5 hy
    · rintro σ' H4 ⟨xs, u, rfl, e4, h4, hp, hxl⟩
      have en : ((n : Int) + 1 - 1).toNat = n := by omega
      rw [en] at hp
      exact Evl.s_ret (Evl.ev_var rfl) fun H5 e5 => k _ H5 (e4.trans e5) ⟨l, xs, rfl, e5 _ _ h4, Paired.mapP hp fun y q hy => PrAt.mono e5 hy⟩
/-! ### _law_even -/
def spLEven (K : PySem.W.Frag) : Sp := spS (A := (List Int × List Rat) × List Nat) (fun a vs H => (∃ x y o, vs = [x, y, .ref o] ∧ IntsT K a.1.1 x H ∧ FrsT K a.1.2 y H ∧ SqA K H o (ordV a.2)) ∧ Areas a.1.1 ∧ 1 ≤ a.1.1.length ∧ a.1.1.length ≤ 6 ∧ RowInv 0 a.1.1 a.1.2) (fun a => FrsT K (goalR a.1.1 a.1.2 a.2))
abbrev sLEven : Stmt := top 62
abbrev nLEven : List Str := ["_law_areas", "_law_volumes", "_law_order_here", "_law_found", "_law_first", "_law_last", "_law_water", "_law_area", "_law_volume", "_law_one"]
theorem scLEven : FnScope nLEven ["_law_areas", "_law_volumes", "_law_order_here"] (defScope sLEven) := ⟨rfl, rfl, rfl, by decide +kernel, rfl, by decide +kernel, by decide +kernel⟩
theorem for_lstE {P : Hpr} {xs : List V} (h : Evp te σ H P) {g : TG} (hp : ∀ v H1, Ex H H1 → P v H1 → ∃ a, v = .ref a ∧ SqL K H1 a xs ∧ tSeq (tFor (fun σ H R => R (Itl K a) H) g tu) tz D σ H1) : tSeq (tFor (iList K te) g tu) tz D σ H := h H (Ex.refl _) _ fun v H1 e p => by
  obtain ⟨a, ev, s, k⟩ := hp v H1 e p
  exact ⟨a, ev, ⟨xs, s⟩, k⟩
theorem wi_itl {a : Addr} {xs : List V} (s : SqL K H a xs) : WiP (fun σ H R => R (Itl K a) H) σ H xs.length (YAt xs) := fun H1 e R q => q _ H1 _ (Ex.refl _) (walk_list (K := K) (a := a) (xs := xs)) fun H3 e4 => ex_l (e.trans e4) s
theorem wi_frsT {te : TE} {a : Addr} {xs : List V} (h : Ev te σ H (.ref a)) (s : SqT K H a xs) : WiP (iTup K te) σ H xs.length (YAt xs) := wi_tup (.of h fun H1 e => ⟨a, rfl, ex_t e s⟩)
theorem wi_frs (h : Evp te σ H (FrsT K qs)) : WiP (iTup K te) σ H qs.length (fun i H v H' => H' = H ∧ ∃ q, qs[i]? = some q ∧ FrAt K q v H) := fun H2 e2 R q => h H2 e2 _ fun v H3 e3 ⟨a, xs, ev, s, pp⟩ => by
  refine ⟨a, ev, ⟨xs, s⟩, q _ H3 (fun H' => SqT K H' a xs ∧ Frs K H' xs qs) e3 ?_ fun H4 e4 => ⟨ex_t e4 s, pp.mono e4⟩⟩
  have hw := walk_tup (K := K) (a := a) (xs := xs)
  have hl := pp.length
  rw [hl] at hw
  exact hw.mono (fun _ h => h.1) fun i H x H' _ h yy => ⟨yy.1, Paired.get' h.2 yy.2⟩
theorem sp_asgG {P : Hpr} {g : TG} (h : Evp te σ H P) (k : ∀ v H1, Ex H H1 → P v H1 → g v σ H1 (tz D)) : tSeq (tAsg te g) tz D σ H := h H (Ex.refl H) _ fun v H1 e p => k v H1 e p
theorem cut_len_le {α : Type} (l : List α) (a b : Nat) (h : l.length ≤ 6) : (cut l a b).length ≤ 6 := by rw [cut_length]; omega
theorem ok_lEven {f fd} (F : Fun K "_law_even" "_law_even" sLEven f fd) (B : Bl mg) (cJ : Cal P w K mg base CX0 1 "_law_joined" (spLJoined K)) (cPl : Cal P w K mg base CX0 3 "_law_plus" (spBin K (· + ·))) (cTi : Cal P w K mg base CX0 3 "_law_times" (spBin K (· * ·))) :
    FnOk P w K mg base CX0 4 f fd ["_law_areas", "_law_volumes", "_law_order_here"] (spLEven K) := by
  refine F.ok scLEven (fun vs H Q E h => ?_) (fun cdv A outer s H vs Q E hr h => ?_)
  · obtain ⟨a, ⟨⟨x, y, o, rfl, _⟩, _⟩, _⟩ := h
    rfl
  · obtain ⟨⟨⟨as, qs⟩, ws⟩, ⟨⟨x, y, o, rfl, hx, hy, ho⟩, hA, n1, n6, inv⟩, k⟩ := h
    have hA : Areas as := hA
    have n1 : 1 ≤ as.length := n1
    have n6 : as.length ≤ 6 := n6
    have inv : RowInv 0 as qs := inv
    have hr1 : Room 1 _ := hr.mono (by decide)
    have hln := inv.len
    refine ⟨_, pss_cons (ps_set (i := 3) scLEven.nd rfl (Or.inl rfl) (pe_tup pa_nil))
      (pss_cons (ps_for PassesOwn.never rfl (pi_list (pe_c0 cJ hr1 (pa_cons (pe_callB call_len_seq rfl B.len (by decide +kernel) (pa_cons (pv 0) pa_nil)) (pa_cons (pv 2) pa_nil)))) (pg_tup rfl (pgs_cons (pg_name (i := 4) scLEven.nd rfl (Or.inl rfl)) (pgs_cons (pg_name (i := 5) scLEven.nd rfl (Or.inl rfl)) pgs_nil)))
        (pss_cons (ps_asg (pe_tup (pa_cons (pe_tup (pa_cons pe_int (pa_cons pe_int pa_nil))) (pa_cons (pe_callB (cr_sumT rfl) rfl B.sum (by decide +kernel) (pa_cons (pe_slice sl_tupA (pv 0) (po_some (pv 4)) (po_some (pv 5))) pa_nil)) pa_nil))) (pg_tup rfl (pgs_cons (pg_name (i := 6) scLEven.nd rfl (Or.inr rfl)) (pgs_cons (pg_name (i := 7) scLEven.nd rfl (Or.inr rfl)) pgs_nil))))
        (pss_cons (ps_for PassesOwn.never rfl (pi_tup (pe_slice sl_tupA (pv 1) (po_some (pv 4)) (po_some (pv 5)))) (pg_name (i := 8) scLEven.nd rfl (Or.inl rfl)) (pss_one (ps_set (i := 6) scLEven.nd rfl (Or.inr rfl) (pe_c0 cPl hr (pa_cons (pv 6) (pa_cons (pv 8) pa_nil))))))
        (pss_one (ps_aug (i := 3) scLEven.nd rfl (Or.inl rfl) (pe_callTy call_tuple_of rfl B.tup (by decide +kernel) (pa_cons (pe_lc (own := [("_law_one", 9)]) (g := gName 9) (tt := tYes) rfl scLEven.nd (pi_tup (pe_slice sl_tupA (pv 0) (po_some (pv 4)) (po_some (pv 5)))) (blkOk_by (N := nLEven) (sc := defScope sLEven) (by decide +kernel))
          (fun _ _ _ _ _ => pg_name (i := 9) scLEven.nd rfl (Or.inl rfl)) (fun _ _ _ _ _ => pts_nil) (fun _ _ _ _ _ => pe_c0 cTi hr (pa_cons (pv 6) (pa_cons (pe_tup (pa_cons (pv 9) (pa_cons (pv 7) pa_nil))) pa_nil)))) pa_nil)) iop_catT)))))
      (pss_one (ps_ret (pv 3)))), ?_⟩
    obtain ⟨b9, b0⟩ := inv0_bk hA inv
    have har : ∀ {σ : L2.St} {H1 : Hp}, Ex H H1 → σ[0]? = some (some x) → Evp (tVar 0) σ H1 (IntsT K as) := fun e h => .var h (mon_intsT.mo _ _ _ e hx)
    have hvo : ∀ {σ : L2.St} {H1 : Hp}, Ex H H1 → σ[1]? = some (some y) → Evp (tVar 1) σ H1 (FrsT K qs) := fun e h => .var h (mon_frsT.mo _ _ _ e hy)
    refine sp_set (P := FrsT K []) (fun H1 e Q q => Evl.eu_tup Evl.ea_nil (by show 0 ≤ 100000; decide) H1 (Ex.refl _) _ fun p H2 hp e2 h2 => q _ H2 e2 ⟨p, [], rfl, SqT.of h2, .nil⟩) fun v0 H1 e1 p0 => ?_
    refine sp_for (n := (runsR as.length ws).length) (Y := fun i H v H' => H' = H ∧ ∃ p : Nat × Nat, (runsR as.length ws)[i]? = some p ∧ PrAt K (p.1 : Nat) (p.2 : Nat) v H) ?_ (fun i σ' H' => ∃ v u4 u5 u6 u7 u8, σ' = [some x, some y, some (.ref o), some v, u4, u5, u6, u7, u8, none] ∧ FrsT K (evens as qs ((runsR as.length ws).take i)) v H')
      (fun H2 e2 => ⟨v0, _, _, _, _, _, rfl, mon_frsT.mo _ _ _ e2 p0⟩) ?_ ?_
    · have hj := evp_cl (pre := fun (a : Nat × List Nat) vs H => (∃ o, vs = [.int a.1, .ref o] ∧ SqA K H o (ordV a.2)) ∧ 1 ≤ a.1 ∧ a.1 ≤ 6) (post := fun a => PrsL K (runsR a.1 a.2)) (as.length, ws) (E := fun _ => E0) (eap2 (ev_evp (ev_intsLen (har (σ := [some x, some y, some (.ref o), some v0, none, none, none, none, none, none]) e1 rfl))) (Evp.of (P := fun v H1 => v = .ref o ∧ SqA K H1 o (ordV ws)) (Evl.ev_var (i := 2) rfl) fun H2 e => ⟨rfl, ho.ex (e1.trans e)⟩)) fun vs H2 _ ⟨a, b, ev, h1, h2, h3⟩ => ⟨⟨o, by rw [ev, h1, h2], h3⟩, n1, n6⟩
      intro H2 e2 R q
      refine hj H2 e2 _ fun v H3 e3 ⟨a, xs, ev, s, pp⟩ => ⟨a, ev, ⟨xs, SqL.of s⟩, q _ H3 (fun H' => SqL K H' a xs ∧ Prs K H' xs (runsR as.length ws)) e3 ?_ fun H4 e4 => ⟨SqL.of (e4 _ _ s), Paired.mapP pp fun _ _ h => PrAt.mono e4 h⟩⟩
      have hw := walk_list (K := K) (a := a) (xs := xs)
      have hl := pp.length
      rw [hl] at hw
      exact hw.mono (fun _ h => h.1) fun i H x H' _ h yy => ⟨yy.1, by
        obtain ⟨p, hp, pr⟩ := Paired.get' h.2 yy.2
        exact ⟨p, hp, pr⟩⟩
    · rintro i z σ' H3 H3' Nx hi e2 ⟨v, u4, u5, u6, u7, u8, rfl, pv⟩ ⟨e33, ⟨f1, l1⟩, hq, pr⟩ hN
      subst e33
      obtain ⟨m1, m2⟩ := runs_mem (List.mem_of_getElem? hq)
      have m1 : f1 < l1 := m1
      have m2 : l1 ≤ as.length := m2
      obtain ⟨T', rfl, sT⟩ := pr
      refine gtup2 sT ?_
      have e02 := e1.trans e2
      obtain ⟨c1, c2, c3, c4⟩ := even_bk hA n6 b9 b0 m1 m2
      obtain ⟨s1, s2⟩ := cut_sum hA n6 m1 m2
      have hi' : ∀ {n : Nat}, n = as.length → HT.sIx n 0 (some (f1 : Int)) = f1 ∧ HT.sIx n n (some (l1 : Int)) = l1 := fun e => by
        subst e
        exact ⟨by rw [HT.sIx_nat]; omega, by rw [HT.sIx_nat]; omega⟩
      have hsa : ∀ {σ : L2.St} {H1 : Hp}, Ex H H1 → σ[0]? = some (some x) → σ[4]? = some (some (.int (f1 : Nat))) → σ[5]? = some (some (.int (l1 : Nat))) → Evp (tSl (rSlA K) (tVar 0) (tPart (tVar 4)) (tPart (tVar 5))) σ H1 (IntsT K (cut as f1 l1)) := fun e h0 h4 h5 =>
        evp_slI (a := f1) (b := l1) (har e h0) (Evl.eo_some (Evl.ev_var h4)) (Evl.eo_some (Evl.ev_var h5)) (hi' rfl).1 (hi' rfl).2
      -- water, area
      refine sp_asgG (P := fun v H => ∃ T u, v = .ref T ∧ SqT K H T [u, .int (cut as f1 l1).sum] ∧ FrAt K 0 u H) (evp_tup (eap2 (P := FrAt K 0) (evp_pair Evl.ev_c Evl.ev_c) (ev_evp (ev_sumT (hsa e02 rfl rfl rfl)))) (fun vs H1 ⟨a, b, e, _⟩ => by rw [e]; show 2 ≤ sizeLine; decide) fun vs H1 p e ⟨a, b, ev, pa, pb⟩ hp => ⟨p, a, rfl, SqT.of (by rw [upd_same, ev, pb]), PrAt.mono (Ex.new hp) pa⟩) fun vt H4 e4 ⟨T2, w0, et, sT2, pw0⟩ => ?_
      subst et
      refine gtup2 sT2 ?_
      have e04 := e02.trans e4
      have hWl : (cut qs f1 l1).length ≤ 6 := cut_len_le _ _ _ (by omega)
      have hsv : ∀ {σ : L2.St} {H1 : Hp}, Ex H H1 → σ[1]? = some (some y) → σ[4]? = some (some (.int (f1 : Nat))) → σ[5]? = some (some (.int (l1 : Nat))) → Evp (tSl (rSlA K) (tVar 1) (tPart (tVar 4)) (tPart (tVar 5))) σ H1 (FrsT K (cut qs f1 l1)) := fun e h0 h4 h5 =>
        evp_slF (a := f1) (b := l1) (hvo e h0) (Evl.eo_some (Evl.ev_var h4)) (Evl.eo_some (Evl.ev_var h5)) (hi' hln).1 (hi' hln).2
      refine sp_for (wi_frs (hsv e04 rfl rfl rfl)) (fun j σ' H' => ∃ vw u8', σ' = [some x, some y, some (.ref o), some v, some (.int (f1 : Nat)), some (.int (l1 : Nat)), some vw, some (.int (cut as f1 l1).sum), u8', none] ∧ FrAt K ((cut qs f1 l1).take j).sum vw H')
        (fun H5 e5 => ⟨w0, _, rfl, PrAt.mono e5 pw0⟩) ?_ ?_
      · rintro j z σ' H5 H6 Ny hj e5 ⟨vw, u8', rfl, pw⟩ ⟨rfl, q, hq', pz⟩ hN'
        have bq : Bk 2200 q := (b9 q (cut_mem (List.mem_of_getElem? hq'))).mono (by decide)
        have bw : Bk 2200 ((cut qs f1 l1).take j).sum := (Bk.sum (k := 9) _ fun q hq => b9 q (cut_mem (List.mem_of_mem_take hq))).mono (by rw [List.length_take]; omega)
        refine sp_set1 (P := FrAt K ((cut qs f1 l1).take (j + 1)).sum) ?_ fun v2 H7 e7 p7 => hN' _ _ e7 ⟨v2, _, rfl, p7⟩
        rw [sum_next hq']
        exact evp_binF (g := (· + ·)) (.var (P := FrAt K _) rfl pw) (.var (P := FrAt K q) rfl pz) bw bq
      · rintro σ' H5 e5 ⟨vw, u8', rfl, pw⟩
        rw [List.take_length] at pw
        have e05 := e04.trans e5
        have sW := Bk.sm c1 (by decide : 61 ≤ 2200)
        have hlc : Evp (tCB (rTupOf K) (tCons (tLc (iTup K (tSl (rSlA K) (tVar 0) (tPart (tVar 4)) (tPart (tVar 5)))) (gName 9) tYes (tCl (spBin K (· * ·)) (fun _ => E0) (tCons (tVar 6) (tCons (tTup (tCons (tVar 9) (tCons (tVar 7) tNil))) tNil))) [9]) tNil)) [some x, some y, some (.ref o), some v, some (.int (f1 : Nat)), some (.int (l1 : Nat)), some vw, some (.int (cut as f1 l1).sum), u8', none] H5 (FrsT K (evenOf as qs f1 l1)) := by
          refine evp_tupOf (evp_lc (wi_tup (xs := (cut as f1 l1).map V.int) (hsa e05 rfl rfl rfl)) (fun i => FrAt K ((evenOf as qs f1 l1).getD i 0)) (fun _ => mon_pr) (fun _ => lf_pr) (by rw [List.length_map]; have := cut_len_le as f1 l1 n6; omega) ?_) ?_
          · rintro j z H6 H7 hj e6 ⟨rfl, hz⟩
            rw [List.getElem?_map] at hz
            obtain ⟨n, hn, rfl⟩ := Option.map_eq_some_iff.mp hz
            obtain ⟨a1, a4⟩ := hA n (cut_mem (List.mem_of_getElem? hn))
            refine ⟨Ex.refl _, _, fun R r => r, rfl, ?_⟩
            have h := evp_bin (K := K) (g := (· * ·)) (σ := [some x, some y, some (.ref o), some v, some (.int (f1 : Nat)), some (.int (l1 : Nat)), some vw, some (.int (cut as f1 l1).sum), u8', some (.int n)]) (H := H7) (ta := tVar 6) (.var (P := FrAt K (cut qs f1 l1).sum) rfl (PrAt.mono e6 pw)) (evp_pair (K := K) (Evl.ev_var (i := 9) (v := .int n) rfl) (Evl.ev_var (i := 7) (v := .int (cut as f1 l1).sum) rfl)) (den_pos' _) s1 sW.1 sW.2 (Sm.mk (k := 3) (by show _ < 8; omega) (by decide)) (Sm.mk (k := 5) (by show _ < 32; omega) (by decide))
            refine h.cast ?_
            have ee : (evenOf as qs f1 l1).getD j 0 = (cut qs f1 l1).sum / ((cut as f1 l1).sum : Rat) * (n : Rat) := by
              rw [List.getD_eq_getElem?_getD, evenOf, List.getElem?_map, hn]
              rfl
            rw [ee, rt_self, rt_eq _ _ s1, Rat.div_def, Rat.div_def, Rat.mul_assoc, Rat.mul_comm (n : Rat)]
          · intro v' H' e' h
            obtain ⟨b, zs, rfl, hb, hz⟩ := h.frs (by rw [List.length_map, evenOf_length as qs f1 l1 m2, cut_length]; omega)
            exact ⟨b, zs, rfl, SqL.of hb, fun p hp => ⟨p, zs, rfl, SqT.of upd_same, hz.mono (Ex.new hp)⟩⟩
        have hlen : (evens as qs ((runsR as.length ws).take i)).length + (evenOf as qs f1 l1).length ≤ 1000 := by
          have z3 : (evens as qs ((runsR as.length ws).take i)).length ≤ as.length * ((runsR as.length ws).take i).length := evens_len fun p hp => (runs_mem (List.mem_of_mem_take hp)).2
          have z4 : ((runsR as.length ws).take i).length ≤ 6 := by
            have := runs_len as.length ws as.length
            rw [List.length_take]
            show min i (runsTo as.length ws as.length).1.length ≤ 6
            omega
          have z5 : as.length * ((runsR as.length ws).take i).length ≤ 6 * 6 := Nat.mul_le_mul n6 z4
          rw [evenOf_length as qs f1 l1 m2]
          omega
        have hcat := evp_cat (ta := tVar 3) (.var (P := FrsT K (evens as qs ((runsR as.length ws).take i))) rfl (mon_frsT.mo _ _ _ (e4.trans e5) pv)) hlc hlen
        refine hcat H5 (Ex.refl _) _ fun z H6 e6 pz => hN _ _ ((e4.trans e5).trans e6) ⟨z, _, _, _, _, _, rfl, ?_⟩
        rw [evens_next hq]
        exact pz
    · rintro σ' H2 e2 ⟨v, u4, u5, u6, u7, u8, rfl, pv⟩
      rw [List.take_length] at pv
      exact Evl.s_ret (Evl.ev_var rfl) fun H3 e3 => k _ H3 ((e1.trans e2).trans e3) (mon_frsT.mo _ _ _ e3 pv)
end
end WD
set_option Elab.async false
set_option linter.all false
set_option maxRecDepth 100000
set_option maxHeartbeats 4000000
set_option exponentiation.threshold 500000
namespace WD
open PySem PySem.Spec PyProof.Rows L2 WR WK
open Evl (Ex Ev EvL EvU EvT EvA EvO RV ex_l ex_t)
section
variable {P : Program} {w : World} {K : PySem.W.Frag} {mg : Str → Option Value} {base : Heap} {H H' : Hp} {σ : L2.St} {as ls : List Int} {qs rs : List Rat} {te ta tb : TE} {ws : List Nat} {D : Ends} {tz tu : TS}
/-! ### _law_gap -/
theorem for_zipE {g : TG} {t : TA} {S : List V → Hp → Prop} (h : Evpa t σ H S) (k : ∀ vs H2, Ex H H2 → S vs H2 → ∃ a b xs ys, vs = [.ref a, .ref b] ∧ SqL K H2 a xs ∧ SqL K H2 b ys ∧ tSeq (tFor (fun σ H R => R (Itz K a b) H) g tu) tz D σ H2) :
    tSeq (tFor (RZ.iZipA K t) g tu) tz D σ H := h H (Ex.refl _) _ fun vs H2 e2 s => by
  obtain ⟨a, b, xs, ys, ev, s1, s2, hk⟩ := k vs H2 e2 s
  exact ⟨a, b, xs, ys, ev, .inl ⟨s1, s2, hk⟩⟩
theorem wi_itz {a b : Addr} {xs ys : List V} (s1 : SqL K H a xs) (s2 : SqL K H b ys) : WiP (fun σ H R => R (Itz K a b) H) σ H (min xs.length ys.length) (YPair (fun i => xs[i]?) (fun i => ys[i]?)) := fun H1 e R q =>
  q _ H1 _ (Ex.refl _) (walk_zip (K := K) (a := a) (b := b) (xs := xs) (ys := ys) rfl) fun H3 e4 => ⟨ex_l (e.trans e4) s1, ex_l (e.trans e4) s2⟩
def spLGap (K : PySem.W.Frag) : Sp := spS (A := List Int × (List Rat × List Rat)) (fun a vs H => (∃ x y z, vs = [x, y, z] ∧ IntsT K a.1 x H ∧ FrsT K a.2.1 y H ∧ FrsT K a.2.2 z H) ∧ DisOk a.1 a.2.1 a.2.2) (fun a => FrAt K (gapR a.1 a.2.1 a.2.2))
theorem evp_lHts (h1 : Evp ta σ H (IntsT K as)) (h2 : Evp tb σ H (FrsT K qs)) (ar : Areas as) (n6 : as.length ≤ 6) (l1 : qs.length = as.length) (b1 : ∀ q ∈ qs, Bk 700 q) : Evp (tCl (spLHts K) (fun _ => E0) (tCons ta (tCons tb tNil))) σ H (FrsL K (hts as qs)) :=
  evp_cl (as, qs) (eap2 h1 h2) fun vs H1 _ ⟨x, y, ev, hx, hy⟩ => ⟨⟨x, y, ev, hx, hy⟩, ar, n6, l1, b1⟩
abbrev sLGap : Stmt := top 63
abbrev nLGap : List Str := ["_law_areas", "_law_one", "_law_other", "_law_found", "_law_mine", "_law_theirs", "_law_late"]
theorem scLGap : FnScope nLGap ["_law_areas", "_law_one", "_law_other"] (defScope sLGap) := ⟨rfl, rfl, rfl, by decide +kernel, rfl, by decide +kernel, by decide +kernel⟩
theorem difs_at {i : Nat} {h k : Rat} (h1 : (hts as qs)[i]? = some h) (h2 : (hts as rs)[i]? = some k) : (difs as qs rs)[i]? = some (abR (h - k)) := by
  rw [difs, List.getElem?_zipWith, h1, h2]
theorem ok_lGap {f fd} (F : Fun K "_law_gap" "_law_gap" sLGap f fd) (B : Bl mg) (cH : Cal P w K mg base CX0 4 "_law_heights" (spLHts K)) (cM : Cal P w K mg base CX0 3 "_law_minus" (spBin K (· - ·))) (cL : Cal P w K mg base CX0 1 "_law_less" (spLess K)) :
    FnOk P w K mg base CX0 5 f fd ["_law_areas", "_law_one", "_law_other"] (spLGap K) := by
  refine F.ok scLGap (fun vs H Q E h => ?_) (fun cdv A outer s H vs Q E hr h => ?_)
  · obtain ⟨a, ⟨⟨x, y, z, rfl, _⟩, _⟩, _⟩ := h
    rfl
  · obtain ⟨⟨as, qs, rs⟩, ⟨⟨x, y, z, rfl, hx, hy, hz⟩, ok⟩, k⟩ := h
    have ok : DisOk as qs rs := ok
    have hr1 : Room 1 _ := hr.mono (by decide)
    have hr3 : Room 3 _ := hr.mono (by decide)
    refine ⟨_, pss_cons (ps_set (i := 3) scLGap.nd rfl (Or.inl rfl) (pe_tup (pa_cons pe_int (pa_cons pe_int pa_nil))))
      (pss_cons (ps_for PassesOwn.never rfl (RZ.pi_zipA rfl B.zip (pa_cons (pe_c0 cH hr (pa_cons (pv 0) (pa_cons (pv 1) pa_nil))) (pa_cons (pe_c0 cH hr (pa_cons (pv 0) (pa_cons (pv 2) pa_nil))) pa_nil))) (pg_tup rfl (pgs_cons (pg_name (i := 4) scLGap.nd rfl (Or.inl rfl)) (pgs_cons (pg_name (i := 5) scLGap.nd rfl (Or.inl rfl)) pgs_nil)))
        (pss_cons (ps_set (i := 6) scLGap.nd rfl (Or.inl rfl) (pe_c0 cM hr3 (pa_cons (pv 4) (pa_cons (pv 5) pa_nil))))
        (pss_cons (ps_set (i := 6) scLGap.nd rfl (Or.inl rfl) (pe_tup (pa_cons (pe_callB call_abs rfl B.abs (by decide +kernel) (pa_cons (pe_at 6 (pv 6)) pa_nil)) (pa_cons (pe_at 6 (pv 6)) pa_nil))))
        (pss_one (ps_set (i := 3) scLGap.nd rfl (Or.inl rfl) (pe_ifExp (pt_val (pe_c0 cL hr1 (pa_cons (pv 3) (pa_cons (pv 6) pa_nil)))) (pv 6) (pv 3)))))))
      (pss_one (ps_ret (pv 3)))), ?_⟩
    refine sp_set (P := FrAt K 0) (evp_pair Evl.ev_c Evl.ev_c) fun v0 H1 e1 p0 => ?_
    have h1 := evp_lHts (ta := tVar 0) (tb := tVar 1) (σ := [some x, some y, some z, some v0, none, none, none]) (.var (P := IntsT K as) rfl (mon_intsT.mo _ _ _ e1 hx)) (.var (P := FrsT K qs) rfl (mon_frsT.mo _ _ _ e1 hy)) ok.ar ok.n6 ok.l1 ok.b1
    have h2 := evp_lHts (ta := tVar 0) (tb := tVar 2) (σ := [some x, some y, some z, some v0, none, none, none]) (.var (P := IntsT K as) rfl (mon_intsT.mo _ _ _ e1 hx)) (.var (P := FrsT K rs) rfl (mon_frsT.mo _ _ _ e1 hz)) ok.ar ok.n6 ok.l2 ok.b2
    refine for_zipE (eap2 h1 h2) fun vs H2 e2 ⟨u, v, ev, ⟨a1, xs1, eu, s1, f1⟩, ⟨a2, xs2, ev2, s2, f2⟩⟩ => ⟨a1, a2, xs1, xs2, by rw [ev, eu, ev2], s1, s2, ?_⟩
    have hl1 : xs1.length = as.length := f1.length.trans (hts_length as qs ok.l1)
    have hl2 : xs2.length = as.length := f2.length.trans (hts_length as rs ok.l2)
    have hdl := difs_length as qs rs ok.l1 ok.l2
    obtain ⟨d0, ds0, g1, g2, g3, g4⟩ := gap_cons ok
    have hdb : ∀ q ∈ difs as qs rs, Bk 1407 q := fun q hq => g4 q (by rw [← g1]; exact hq)
    refine sp_for (wi_itz s1 s2) (fun i σ' H' => ∃ v u4 u5 u6, σ' = [some x, some y, some z, some v, u4, u5, u6] ∧ FrAt K (((difs as qs rs).take i).foldl maxR 0) v H') (fun H3 e3 => ⟨v0, _, _, _, rfl, PrAt.mono (e2.trans e3) p0⟩) ?_ ?_
    · rintro i zz σ' H3 H4 Nx hi e3 ⟨v', u4, u5, u6, rfl, pv'⟩ yy hN
      obtain ⟨e4, T', u', w', rfl, hT, hu, hv⟩ := YPair.use (K := K) yy
      obtain ⟨h, hh, ph⟩ := Paired.get' f1 hu
      obtain ⟨k', hk, pk⟩ := Paired.get' f2 hv
      refine gtup2 hT ?_
      have e34 := e3.trans e4
      have bd : Bk 1407 (abR (h - k')) := hdb _ (List.mem_of_getElem? (difs_at hh hk))
      have bf : Bk 2200 (((difs as qs rs).take i).foldl maxR 0) := Bk.foldMax _ _ (Bk.zero (by decide)) fun q hq => (hdb q (List.mem_of_mem_take hq)).mono (by decide)
      refine sp_set (evp_binF (g := (· - ·)) (.var (P := FrAt K h) rfl (PrAt.mono e34 ph)) (.var (P := FrAt K k') rfl (PrAt.mono e34 pk)) ((hts_bk ok.ar ok.b1 hh).mono (by decide)) ((hts_bk ok.ar ok.b2 hk).mono (by decide))) fun vl H5 e5 pl => ?_
      refine sp_set (P := FrAt K (abR (h - k'))) (by
        have e : (abR (h - k')).num = ((h - k').num.natAbs : Int) := by
          rw [abR_num]
          split <;> omega
        show Evp _ _ _ (PrAt K (abR (h - k')).num ((abR (h - k')).den : Int))
        rw [e, abR_den]
        exact evp_pair (ev_abs (ev_fst rfl pl)) (ev_snd rfl pl)) fun va H6 e6 pa => ?_
      have es : ((difs as qs rs).take (i + 1)).foldl maxR 0 = maxR (((difs as qs rs).take i).foldl maxR 0) (abR (h - k')) := by rw [List.take_add_one, difs_at hh hk, List.foldl_append]; rfl
      have pv6 := PrAt.mono ((e4.trans e5).trans e6) pv'
      refine sp_set1 (P := FrAt K (((difs as qs rs).take (i + 1)).foldl maxR 0)) (evp_if (Evl.et_B (ev_lessF (Evp.var (P := FrAt K _) rfl pv6) (Evp.var (P := FrAt K (abR (h - k'))) rfl pa) bf (bd.mono (by decide)))) (fun hb => ?_) (fun hb => ?_)) fun v2 H7 e7 p7 => hN _ _ (((e4.trans e5).trans e6).trans e7) ⟨v2, _, _, _, rfl, p7⟩
      · refine (Evp.var (P := FrAt K (abR (h - k'))) rfl pa).cast ?_
        rw [es, maxR_lt (of_decide_eq_true hb)]
      · refine (Evp.var (P := FrAt K _) rfl pv6).cast ?_
        rw [es, maxR_nlt (of_decide_eq_false hb)]
    · rintro σ' H3 e3 ⟨v', u4, u5, u6, rfl, pv'⟩
      have en : min xs1.length xs2.length = (difs as qs rs).length := by omega
      rw [en, List.take_length] at pv'
      exact Evl.s_ret (Evl.ev_var rfl) fun H4 e4 => k _ H4 (((e1.trans e2).trans e3).trans e4) (PrAt.mono e4 pv')
/-! ### _law_number -/
def spNum (K : PySem.W.Frag) : Sp := spS (A := List Int × Int) (fun a vs H => (∃ o, vs = [.ref o, .int a.2] ∧ SqL K H o (a.1.map V.int)) ∧ a.1.length ≤ 63) (fun _ v _ => ∃ r : Int, v = .int r)
abbrev sNum : Stmt := top 46
abbrev nNum : List Str := ["_law_script", "_law_index", "_law_cell", "_law_blend"]
theorem scNum : FnScope nNum ["_law_script", "_law_index"] (defScope sNum) := ⟨rfl, rfl, rfl, by decide +kernel, rfl, by decide +kernel, by decide +kernel⟩
theorem ev_mulR {i j : Int} (ha : Ev ta σ H (.int i)) (hb : Ev tb σ H (.int j)) (h : -(2 ^ 64) < j ∧ j < 2 ^ 64) : Ev (tOp (rI CMul fun i j => .int (i * j)) ta tb) σ H (.int (i * j)) := Evl.ev_op ha hb (Evl.rv_I (.inr h))
theorem ev_mulL {i j : Int} (ha : Ev ta σ H (.int i)) (hb : Ev tb σ H (.int j)) (h : -(2 ^ 64) < i ∧ i < 2 ^ 64) : Ev (tOp (rI CMul fun i j => .int (i * j)) ta tb) σ H (.int (i * j)) := Evl.ev_op ha hb (Evl.rv_I (.inl h))
theorem ev_add {i j : Int} (ha : Ev ta σ H (.int i)) (hb : Ev tb σ H (.int j)) : Ev (tOp (rI0 fun i j => .int (i + j)) ta tb) σ H (.int (i + j)) := Evl.ev_op ha hb Evl.rv_I0
theorem ev_mod {i j : Int} (ha : Ev ta σ H (.int i)) (hb : Ev tb σ H (.int j)) (h : 0 < j) : Ev (tOp (rI (fun _ j => 0 < j) fun i j => .int (i % j)) ta tb) σ H (.int (i % j)) := Evl.ev_op ha hb (Evl.rv_I h)
theorem ev_pow {i j : Int} (ha : Ev ta σ H (.int i)) (hb : Ev tb σ H (.int j)) (h : CPow i j) : Ev (tOp (rI CPow fun i j => .int (i ^ j.toNat)) ta tb) σ H (.int (i ^ j.toNat)) := Evl.ev_op ha hb (Evl.rv_I h)
theorem ev_lenS {p : Addr} {xs : List V} (ha : Ev ta σ H (.ref p)) (h : SqL K H p xs) : Ev (tCB (Evl.rLenS K) (tCons ta tNil)) σ H (.int (xs.length : Int)) := Evl.ev_len ha h
theorem ints_list_ok (ns : List Int) : SeqAt.shaped (.list (ns.map PyData.int)) = true := shaped_of (GA.lst (GA.map (k := 0) (f := PyData.int) int_ok ns)) (by decide)
theorem eqv_ints_list (ns ms : List Int) : PyData.eqv (.list (ns.map .int)) (.list (ms.map .int)) = decide (ns = ms) := by
  rw [PyData.eqv, eqvAll_map eqv_int]
theorem ok_num {f fd} (F : Fun K "_law_number" "_law_number" sNum f fd) (B : Bl mg) : FnOk P w K mg base CX0 1 f fd ["_law_script", "_law_index"] (spNum K) := by
  refine F.ok scNum (fun vs H Q E h => ?_) (fun cdv A outer s H vs Q E hr h => ?_)
  · obtain ⟨a, ⟨⟨o, rfl, _⟩, _⟩, _⟩ := h
    rfl
  · obtain ⟨⟨ns, n⟩, ⟨⟨o, rfl, hs⟩, hl⟩, k⟩ := h
    have hs : SqL K H o (ns.map V.int) := hs
    have hl : ns.length ≤ 63 := hl
    have il : ∀ {X : Cx} {a : Expr} {t : TE}, True := trivial
    refine ⟨_, pss_cons (ps_if (pt_cmpR (op_eqD hr.units) (pv 0) (pe_lst pa_nil) (nomark _)) (pss_one (ps_ret (pe_callTy call_int1 rfl B.int (by decide +kernel) (pa_cons (pe_op op_mod (pe_op op_add (pe_op op_mul (pv 1) pe_int) pe_int) pe_int) pa_nil)))) pss_nil)
      (pss_cons (ps_set (i := 2) scNum.nd rfl (Or.inl rfl) (pe_ix ix_list (pv 0) (pe_op op_mod (pv 1) (pe_callB call_len_seq rfl B.len (by decide +kernel) (pa_cons (pv 0) pa_nil))) (fun _ _ => rfl)))
      (pss_cons (ps_if (pt_cmpR op_ge (pe_callB call_abs rfl B.abs (by decide +kernel) (pa_cons (pv 2) pa_nil)) (pe_op op_pow pe_int pe_int) (nomark _)) (pss_one (ps_set (i := 2) scNum.nd rfl (Or.inl rfl) (pe_op op_mod (pv 2) (pe_op op_pow pe_int pe_int)))) pss_nil)
      (pss_cons (ps_set (i := 3) scNum.nd rfl (Or.inl rfl) (pe_op op_mod (pe_op op_add (pe_op op_mul (pe_op op_add (pv 2) (pe_op op_mul pe_int (pv 1))) pe_int) (pe_op op_mul pe_int (pe_callB call_len_seq rfl B.len (by decide +kernel) (pa_cons (pv 0) pa_nil)))) pe_int))
      (pss_one (ps_ret (pe_callTy call_int1 rfl B.int (by decide +kernel) (pa_cons (pe_op op_mod (pe_op op_add (pe_op op_mul (pe_op op_mod (pe_op op_mul (pv 3) pe_int) pe_int) pe_int) (pv 1)) pe_int) pa_nil))))))), ?_⟩
    have hvar : ∀ {σ : L2.St} {H1 : Hp}, Ex H H1 → σ[0]? = some (some (.ref o)) → Evp (tVar 0) σ H1 (fun v H => v = .ref o ∧ SqL K H o (ns.map V.int)) := fun e h => Evp.of (Evl.ev_var h) fun H2 e2 => ⟨rfl, ex_l (e.trans e2) hs⟩
    refine Evl.q_if (Evl.et_test (evp_eqD (b := decide (ns = [])) (d := .list (ns.map .int)) (e := .list (([] : List Int).map .int)) (hvar (Ex.refl _) rfl) (R := fun v H => ∃ p, v = .ref p ∧ H p = some (.lst [])) (fun H1 e Q q => Evl.el_lst Evl.ea_nil (by show 0 ≤ 100000; decide) H1 (Ex.refl _) _ fun p H2 hp e2 h2 => q _ H2 e2 ⟨p, rfl, h2⟩)
      ⟨fun _ _ _ e ⟨a, b⟩ => ⟨a, ex_l e b⟩⟩ (fun v H1 ⟨a, b⟩ => by rw [a]; exact .lst b (dp_ints ns)) (fun v H1 ⟨p, a, b⟩ => by rw [a]; exact .lst (SqL.of b) .nil) (ints_list_ok ns) (ints_list_ok []) (eqv_ints_list ns []))) (fun hb H1 e1 => ?_) (fun hb H1 e1 => ?_)
    · exact Evl.s_ret (ev_int1 (ev_mod (ev_add (ev_mulR (Evl.ev_var rfl) Evl.ev_c ⟨by decide, by decide⟩) Evl.ev_c) Evl.ev_c (by decide))) fun H2 e2 => k _ H2 (e1.trans e2) ⟨_, rfl⟩
    · have hne : ns ≠ [] := of_decide_eq_false hb
      have hpos : 0 < ns.length := List.length_pos_iff.mpr hne
      obtain ⟨j, hj⟩ : ∃ j : Nat, n % (ns.length : Int) = (j : Int) := ⟨(n % (ns.length : Int)).toNat, (Int.toNat_of_nonneg (Int.emod_nonneg _ (by omega))).symm⟩
      have hjl : j < ns.length := by
        have := Int.emod_lt_of_pos n (show (0 : Int) < (ns.length : Int) by omega)
        omega
      have hlen : ∀ {σ : L2.St} {H1 : Hp}, Ex H H1 → σ[0]? = some (some (.ref o)) → Ev (tCB (Evl.rLenS K) (tCons (tVar 0) tNil)) σ H1 (.int (ns.length : Int)) := fun e h => by
        have := ev_lenS (K := K) (Evl.ev_var h) (ex_l e hs)
        rw [List.length_map] at this
        exact this
      refine Evl.q_asg (v := .int ns[j]) (Evl.ev_op (Evl.ev_var rfl) (Evl.ev_is (ev_mod (Evl.ev_var rfl) (hlen e1 rfl) (by omega)) (by rw [hj])) (Evl.rv_ixL (ex_l e1 hs) (atI_nat (by rw [List.getElem?_map, List.getElem?_eq_getElem hjl]; rfl)))) fun H2 e2 => ?_
      have rest : ∀ (c : Int) (H3 : Hp), Ex H H3 → tSeq (tAsg (tOp (rI (fun _ j => 0 < j) fun i j => .int (i % j)) (tOp (rI0 fun i j => .int (i + j)) (tOp (rI CMul fun i j => .int (i * j)) (tOp (rI0 fun i j => .int (i + j)) (tVar 2) (tOp (rI CMul fun i j => .int (i * j)) (tC (.int 977)) (tVar 1))) (tC (.int 48271))) (tOp (rI CMul fun i j => .int (i * j)) (tC (.int 31)) (tCB (Evl.rLenS K) (tCons (tVar 0) tNil)))) (tC (.int 2147483647))) (gName 3))
          (tRet (tCB rInt1 (tCons (tOp (rI (fun _ j => 0 < j) fun i j => .int (i % j)) (tOp (rI0 fun i j => .int (i + j)) (tOp (rI CMul fun i j => .int (i * j)) (tOp (rI (fun _ j => 0 < j) fun i j => .int (i % j)) (tOp (rI CMul fun i j => .int (i * j)) (tVar 3) (tC (.int 69621))) (tC (.int 2147483629))) (tC (.int 16807))) (tVar 1)) (tC (.int 2147483587))) tNil))) { nx := fun _ H' => Q .non H', rt := Q } [some (.ref o), some (.int n), some (.int c), none] H3 := fun c H3 e3 => by
        refine Evl.q_asg (ev_mod (ev_add (ev_mulR (ev_add (Evl.ev_var rfl) (ev_mulL Evl.ev_c (Evl.ev_var rfl) ⟨by decide, by decide⟩)) Evl.ev_c ⟨by decide, by decide⟩) (ev_mulL Evl.ev_c (hlen e3 rfl) ⟨by decide, by decide⟩)) Evl.ev_c (by decide)) fun H4 e4 => ?_
        exact Evl.s_ret (ev_int1 (ev_mod (ev_add (ev_mulR (ev_mod (ev_mulR (Evl.ev_var rfl) Evl.ev_c ⟨by decide, by decide⟩) Evl.ev_c (by decide)) Evl.ev_c ⟨by decide, by decide⟩) (Evl.ev_var rfl)) Evl.ev_c (by decide))) fun H5 e5 => k _ H5 ((e3.trans e4).trans e5) ⟨_, rfl⟩
      refine Evl.q_if (Evl.et_test (Evl.ev_op (ev_abs (Evl.ev_var rfl)) (ev_pow Evl.ev_c Evl.ev_c ⟨by decide, by decide, by decide⟩) Evl.rv_I0)) (fun _ H3 e3 => ?_) (fun _ H3 e3 => ?_)
      · exact Evl.s_asg (ev_mod (Evl.ev_var rfl) (ev_pow Evl.ev_c Evl.ev_c ⟨by decide, by decide, by decide⟩) (by decide)) fun H4 e4 => rest _ H4 (((e1.trans e2).trans e3).trans e4)
      · exact rest _ H3 ((e1.trans e2).trans e3)
end
end WD
set_option Elab.async false
set_option linter.all false
set_option maxRecDepth 100000
set_option maxHeartbeats 4000000
set_option exponentiation.threshold 500000
namespace WD
open PySem PySem.Spec PyProof.Rows L2 WR WK
open Evl (Ex Ev EvL EvU EvT EvA EvO RV ex_l ex_t)
/-! ### the draws: the list at d goes on, all else stays -/
def Ed (d : Addr) (H H' : Hp) : Prop := Ex (era d H) H'
theorem Ed.ex {d : Addr} {H H' : Hp} (e : Ex H H') : Ed d H H' := (era_ex d H).trans e
theorem Ed.era {d : Addr} {H H' : Hp} (e : Ed d H H') : Ex (era d H) (era d H') := fun b o h => by
  have hb : b ≠ d := fun z => by subst z; rw [era_none] at h; cases h
  exact era_at (e b o h) hb
theorem Ed.trans {d : Addr} {H H1 H2 : Hp} (a : Ed d H H1) (b : Ed d H1 H2) : Ed d H H2 := a.era.trans b
theorem Ed.refl (d : Addr) (H : Hp) : Ed d H H := era_ex d H
structure Dr (K : PySem.W.Frag) (d s : Addr) (ns : List Int) (H : Hp) : Prop where
  at_ : ∃ n : Int, H d = some (.lst [.ref s, .int n])
  sc : SqL K (era d H) s (ns.map V.int)
  le : ns.length ≤ 63
theorem Dr.ex {K : PySem.W.Frag} {d s : Addr} {ns : List Int} {H H' : Hp} (e : Ex H H') (h : Dr K d s ns H) : Dr K d s ns H' := by
  obtain ⟨n, hn⟩ := h.at_
  exact ⟨⟨n, e _ _ hn⟩, ex_l (Ed.ex e).era h.sc, h.le⟩
section
variable {P : Program} {w : World} {K : PySem.W.Frag} {mg : Str → Option Value} {base : Heap} {H H' : Hp} {σ : L2.St} {as ls : List Int} {te ta tb : TE} {D : Ends} {tz tu : TS} {d s : Addr} {ns : List Int}
def spTake (K : PySem.W.Frag) : Sp := fun vs H Q _ => ∃ d s ns m, vs = [.ref d, .int m] ∧ 0 < m ∧ Dr K d s ns H ∧ ∀ r H', 0 ≤ r → r < m → Ed d H H' → Dr K d s ns H' → Q (.int r) H'
abbrev sTake : Stmt := top 47
theorem scTake : FnScope ["_law_draw", "_law_many"] ["_law_draw", "_law_many"] (defScope sTake) := ⟨rfl, rfl, rfl, by decide +kernel, rfl, by decide +kernel, by decide +kernel⟩
theorem ev_num {n : Int} {o : Addr} (ha : Ev ta σ H (.ref o)) (hb : Ev tb σ H (.int n)) (hs : SqL K H o (ns.map V.int)) (hl : ns.length ≤ 63) : Evp (tCl (spNum K) (fun _ => E0) (tCons ta (tCons tb tNil))) σ H (fun v _ => ∃ r : Int, v = .int r) :=
  evp_cl (ns, n) (eap2 (Evp.of (P := fun v H1 => v = .ref o ∧ SqL K H1 o (ns.map V.int)) ha fun H1 e => ⟨rfl, ex_l e hs⟩) (ev_evp hb) (m := ⟨fun _ _ _ e ⟨a, b⟩ => ⟨a, ex_l e b⟩⟩)) fun vs H1 _ ⟨x, y, ev, ⟨hx, hso⟩, hy⟩ => ⟨⟨o, by rw [ev, hx, hy], hso⟩, hl⟩
theorem q_tick {n : Int} (h0 : σ[0]? = some (some (.ref d))) (hn : H d = some (.lst [.ref s, .int n])) (k : tz D σ (upd H d (.lst [.ref s, .int (n + 1)]))) : tSeq (tAugS (tVar 0) (tC (.int 1)) (tC (.int 1)) rGetL (ipI fun i j => i + j) rSetL) tz D σ H :=
  ⟨_, h0, d, _, 1, .int n, rfl, rfl, hn, rfl, n, 1, rfl, rfl, d, _, 1, 1, rfl, rfl, hn, rfl, k⟩
theorem ok_take {f fd} (F : Fun K "_law_take" "_law_take" sTake f fd) (B : Bl mg) (cN : Cal P w K mg base CX0 1 "_law_number" (spNum K)) : FnOk P w K mg base CX0 2 f fd ["_law_draw", "_law_many"] (spTake K) := by
  refine F.ok scTake (fun vs H Q E h => ?_) (fun cdv A outer s H vs Q E hr h => ?_)
  · obtain ⟨d, s, ns, m, rfl, _⟩ := h
    rfl
  · obtain ⟨d, s, ns, m, rfl, hm, dr, k⟩ := h
    obtain ⟨n, hn⟩ := dr.at_
    refine ⟨_, pss_cons (ps_augS (pv 0) pe_int pget_list pe_int ip_add set_list)
      (pss_one (ps_ret (pe_op op_mod (pe_callTy call_int1 rfl B.int (by decide +kernel) (pa_cons (pe_c0 cN hr (pa_cons (pe_ix ix_list (pv 0) pe_int (fun _ _ => rfl)) (pa_cons (pe_callTy call_int1 rfl B.int (by decide +kernel) (pa_cons (pe_ix ix_list (pv 0) pe_int (fun _ _ => rfl)) pa_nil)) pa_nil))) pa_nil)) (pv 1)))), ?_⟩
    refine q_tick rfl hn ?_
    have e1 : Ed d H (upd H d (.lst [.ref s, .int (n + 1)])) := fun b o h => by
      have hb : b ≠ d := fun z => by subst z; rw [era_none] at h; cases h
      rw [upd_ne hb]
      exact era_ex d H b o h
    have h1 : upd H d (.lst [.ref s, .int (n + 1)]) d = some (.lst [.ref s, .int (n + 1)]) := upd_same
    generalize upd H d (.lst [.ref s, .int (n + 1)]) = H1 at *
    have s1 : SqL K H1 s (ns.map V.int) := ex_l e1 dr.sc
    have d1 : Dr K d s ns H1 := ⟨⟨_, h1⟩, ex_l e1.era dr.sc, dr.le⟩
    have ix0 : Ev (tOp (rIxL K) (tVar 0) (tC (.int 0))) [some (.ref d), some (.int m)] H1 (.ref s) := Evl.ev_op (Evl.ev_var rfl) Evl.ev_c (Evl.rv_ixL (SqL.of h1) (atI_nat (j := 0) rfl))
    have ix1 : Ev (tOp (rIxL K) (tVar 0) (tC (.int 1))) [some (.ref d), some (.int m)] H1 (.int (n + 1)) := Evl.ev_op (Evl.ev_var rfl) Evl.ev_c (Evl.rv_ixL (SqL.of h1) (atI_nat (j := 1) rfl))
    refine ev_num (K := K) ix0 (ev_int1 ix1) s1 dr.le H1 (Ex.refl _) _ fun v H2 e2 ⟨r, ev⟩ => ?_
    subst ev
    refine .inl ⟨r, rfl, .int m, rfl, r, m, rfl, rfl, hm, ?_⟩
    exact k _ H2 (Int.emod_nonneg _ (by omega)) (Int.emod_lt_of_pos _ hm) (e1.trans (Ed.ex e2)) (d1.ex e2)
/-- what a draw is asked for -/
def TakeR (K : PySem.W.Frag) (d s : Addr) (ns : List Int) (te : TE) (σ : L2.St) (H : Hp) (m : Int) : Prop := ∀ Q : VK, (∀ r H', 0 ≤ r → r < m → Ed d H H' → Dr K d s ns H' → Q (.int r) H') → te σ H Q
theorem take_r {m : Int} (ha : Ev ta σ H (.ref d)) (hb : Ev tb σ H (.int m)) (hm : 0 < m) (dr : Dr K d s ns H) : TakeR K d s ns (tCl (spTake K) (fun _ => E0) (tCons ta (tCons tb tNil))) σ H m := fun Q q =>
  ha H (Ex.refl _) _ fun H1 e1 => hb H1 e1 _ fun H2 e2 => ⟨d, s, ns, m, rfl, hm, dr.ex (e1.trans e2), fun r H' h0 h1 e d' => q r H' h0 h1 ((Ed.ex (e1.trans e2)).trans e) d'⟩
/-! ### _law_pick -/
def spPick (K : PySem.W.Frag) : Sp := fun vs H Q _ => ∃ d s ns l xs, vs = [.ref d, .ref l] ∧ Dr K d s ns H ∧ SqL K (era d H) l xs ∧ 0 < xs.length ∧ xs.length ≤ 1000 ∧ ∀ v H', v ∈ xs → Ed d H H' → Dr K d s ns H' → Q v H'
abbrev sPick : Stmt := top 48
theorem scPick : FnScope ["_law_draw", "_law_items"] ["_law_draw", "_law_items"] (defScope sPick) := ⟨rfl, rfl, rfl, by decide +kernel, rfl, by decide +kernel, by decide +kernel⟩
theorem ok_pick {f fd} (F : Fun K "_law_pick" "_law_pick" sPick f fd) (B : Bl mg) (cT : Cal P w K mg base CX0 2 "_law_take" (spTake K)) : FnOk P w K mg base CX0 3 f fd ["_law_draw", "_law_items"] (spPick K) := by
  refine F.ok scPick (fun vs H Q E h => ?_) (fun cdv A outer s H vs Q E hr h => ?_)
  · obtain ⟨d, s, ns, l, xs, rfl, _⟩ := h
    rfl
  · obtain ⟨d, s, ns, l, xs, rfl, dr, hl, h0, h1, k⟩ := h
    refine ⟨_, pss_one (ps_ret (pe_ix ix_list (pv 1) (pe_c0 cT hr (pa_cons (pv 0) (pa_cons (pe_callB call_len_seq rfl B.len (by decide +kernel) (pa_cons (pv 1) pa_nil)) pa_nil))) (fun _ _ => rfl))), ?_⟩
    have hl' : SqL K H l xs := ex_l (era_ex d H) hl
    refine ⟨.ref l, rfl, ?_⟩
    refine take_r (K := K) (d := d) (s := s) (ns := ns) (Evl.ev_var rfl) (ev_lenS (Evl.ev_var rfl) hl') (by omega) dr _ fun r H1 r0 r1 e1 d1 => ?_
    obtain ⟨j, rfl⟩ : ∃ j : Nat, r = (j : Int) := ⟨r.toNat, by omega⟩
    have hj : j < xs.length := by omega
    exact ⟨l, xs, j, xs[j], rfl, rfl, ex_l e1 hl, atI_nat (List.getElem?_eq_getElem hj), k _ H1 (List.getElem_mem hj) e1 d1⟩
/-! ### comprehensions whose items are drawn -/
theorem ne_dr {x : Addr} (h : Dr K d s ns H) (hx : H x = none) : x ≠ d := fun z => by
  subst z
  obtain ⟨n, hn⟩ := h.at_
  rw [hx] at hn
  cases hn
theorem era_upd_ne {x : Addr} {o : HO} (h : x ≠ d) : era d (upd H x o) = upd (era d H) x o := by
  funext b
  unfold era upd
  by_cases hb : b = d
  · subst hb
    simp [h.symm]
  · simp [hb]
/-- [e for x in range(n)], each item drawn: a promise about the items, told of the heap without the draws -/
theorem evd_lc {i0 j n : Nat} {vs : List Nat} (F : Hpr) (mF : Mon F) (lF : Lf F) (hs : σ[i0]? = some (some (.int (n : Nat)))) (hn : n ≤ 1000) (hw : ∀ x, wipe ((wipe σ vs).set j (some x)) vs = wipe σ vs) (dr : Dr K d s ns H)
    (he : ∀ (i : Nat) H1, i < n → Ed d H H1 → Dr K d s ns H1 → ∀ Q : VK, (∀ v H2, Ed d H1 H2 → Dr K d s ns H2 → F v (era d H2) → Q v H2) → te ((wipe σ vs).set j (some (.int (i : Nat)))) H1 Q)
    (Q : VK) (q : ∀ E xs H2, Ed d H H2 → Dr K d s ns H2 → H E = none → H2 E = some (.lst xs) → xs.length = n → (∀ x ∈ xs, F x (era d H2)) → Q (.ref E) H2) : tLc (iRng1 (tCons (tVar i0) tNil)) (gName j) tYes te vs σ H Q := by
  refine ⟨_, hs, n, rfl, by omega, by omega, fun E hE => ?_⟩
  have hEd : E ≠ d := ne_dr dr hE
  have en : (n : Int).toNat = n := by omega
  rw [en]
  refine lc_range (lo := 0) (n := n) (fun i H' => Ed d H H' ∧ Dr K d s ns H' ∧ ∃ xs, H' E = some (.lst xs) ∧ xs.length = i ∧ ∀ x ∈ xs, F x (era d H')) ⟨Ed.ex (Ex.new hE), dr.ex (Ex.new hE), [], upd_same, rfl, fun x h => by cases h⟩ ?_ ?_
  · rintro i H1 hi ⟨e1, d1, xs, hx, hl, hF⟩
    have ei : (0 : Int) + (i : Int) = (i : Int) := Int.zero_add _
    show wipe ((wipe σ vs).set j (some (.int ((0 : Int) + (i : Int))))) vs = wipe σ vs ∧ _
    rw [ei]
    refine ⟨hw _, ?_⟩
    unfold tYes
    dsimp only
    rw [if_pos rfl]
    refine he i H1 hi e1 d1 _ fun v H2 e2 d2 hv => ?_
    have hx2 : H2 E = some (.lst xs) := e2 _ _ (era_at hx hEd)
    refine ⟨xs, hx2, Nat.lt_of_lt_of_le (by omega : xs.length < 100000) (by decide), ?_⟩
    have e3 : Ed d H (upd H2 E (.lst (xs ++ [v]))) := fun b o h => by
      have h2 := (e1.trans e2) b o h
      have hb : b ≠ E := fun z => by
        subst z
        rw [era_ex d H _ _ h] at hE
        cases hE
      rw [upd_ne hb]
      exact h2
    refine ⟨e3, ?_, xs ++ [v], upd_same, by rw [List.length_append, hl]; rfl, fun x hx' => ?_⟩
    · obtain ⟨m, hm⟩ := d2.at_
      exact ⟨⟨m, by rw [upd_ne hEd.symm]; exact hm⟩, ex_l e3.era dr.sc, d2.le⟩
    · rw [era_upd_ne hEd]
      have hxe : era d H2 E = some (.lst xs) := era_at hx2 hEd
      rcases List.mem_append.mp hx' with h | h
      · exact lF.lf _ _ _ _ _ hxe (mF.mo _ _ _ e2.era (hF x h))
      · rw [List.mem_singleton] at h
        subst h
        exact lF.lf _ _ _ _ _ hxe hv
  · rintro H1 ⟨e1, d1, xs, hx, hl, hF⟩
    exact q E xs H1 e1 d1 hE hx hl hF
end
end WD
set_option Elab.async false
set_option linter.all false
set_option maxRecDepth 100000
set_option maxHeartbeats 4000000
set_option exponentiation.threshold 500000
namespace WD
open PySem PySem.Spec PyProof.Rows L2 WR WK
open Evl (Ex Ev EvL EvU EvT EvA EvO RV ex_l ex_t)
section
variable {P : Program} {w : World} {K : PySem.W.Frag} {mg : Str → Option Value} {base : Heap} {H H' : Hp} {σ : L2.St} {as ls : List Int} {te ta tb : TE} {D : Ends} {tz tu : TS} {d s : Addr} {ns : List Int}
theorem q_asgD {i : Nat} {R : V → Hp → Prop} {lc : TE} (h : ∀ Q : VK, (∀ v H2, R v H2 → Q v H2) → lc σ H Q) (k : ∀ v H2, R v H2 → tz D (σ.set i (some v)) H2) : tSeq (tAsg lc (gName i)) tz D σ H := h _ k
theorem q_setT {i : Nat} {f : Int → Int → Int} {m c : Int} (h : TakeR K d s ns te σ H m) (k : ∀ r H1, 0 ≤ r → r < m → Ed d H H1 → Dr K d s ns H1 → tz D (σ.set i (some (.int (f c r)))) H1) : tSeq (tAsg (tOp (rI0 fun i j => .int (f i j)) (tC (.int c)) te) (gName i)) tz D σ H :=
  h _ fun r H1 r0 r1 e1 d1 => ⟨c, r, rfl, rfl, k r H1 r0 r1 e1 d1⟩
theorem q_setE {i : Nat} {m c : Int} (h : TakeR K d s ns te σ H m) (k : ∀ b H1, Ed d H H1 → Dr K d s ns H1 → tz D (σ.set i (some (.bl b))) H1) : tSeq (tAsg (tOp rEq te (tC (.int c))) (gName i)) tz D σ H :=
  h _ fun r H1 r0 r1 e1 d1 => ⟨rfl, k _ H1 e1 d1⟩
theorem q_setTup {i n : Nat} {F : Hpr} (mF : Mon F) {lc : TE} (h : ∀ Q : VK, (∀ E xs H2, Ed d H H2 → Dr K d s ns H2 → H E = none → H2 E = some (.lst xs) → xs.length = n → (∀ x ∈ xs, F x (era d H2)) → Q (.ref E) H2) → lc σ H Q)
    (k : ∀ p xs H3, Ed d H H3 → Dr K d s ns H3 → H3 p = some (.tup xs) → xs.length = n → (∀ x ∈ xs, F x (era d H3)) → tz D (σ.set i (some (.ref p))) H3) : tSeq (tAsg (tCB (rTupOf K) (tCons lc tNil)) (gName i)) tz D σ H :=
  h _ fun E xs H2 e2 d2 hE hx hl hF => ⟨E, xs, rfl, .inl ⟨SqL.of hx, fun p hp => k p xs _ (e2.trans (Ed.ex (Ex.new hp))) (d2.ex (Ex.new hp)) upd_same hl fun x h => mF.mo _ _ _ (Ed.ex (Ex.new hp)).era (hF x h)⟩⟩
/-! ### the drawn volumes -/
def vols0 : List Th := [.i 0, .i 0, .i 1, .i 2, .i 3, .i 5, .i 8, .p 1 2, .p 7 3]
def VolV (K : PySem.W.Frag) : Hpr := fun v H => ∃ t, t ∈ vols0 ∧ ThAt K t v H
instance mon_vol : Mon (VolV K) := ⟨fun _ _ _ e ⟨t, h, p⟩ => ⟨t, h, mon_th.mo _ _ _ e p⟩⟩
instance lf_th {t : Th} : Lf (ThAt K t) := ⟨fun v H D xs ys hD h => by
  cases t with
  | i n => exact h
  | p n d => exact lf_pr.lf _ _ _ _ _ hD h
  | no => exact h⟩
instance lf_vol : Lf (VolV K) := ⟨fun v H D xs ys hD ⟨t, h, p⟩ => ⟨t, h, lf_th.lf _ _ _ _ _ hD p⟩⟩
theorem th_era {t : Th} {v : V} (dr : Dr K d s ns H) (h : ThAt K t v H) : ThAt K t v (era d H) := by
  obtain ⟨n, hn⟩ := dr.at_
  cases t with
  | i n => exact h
  | p n d =>
    obtain ⟨a, r, st⟩ := h
    exact ⟨a, r, era_tL hn st⟩
  | no => exact h
theorem ev_vi {n : Int} (h : Th.i n ∈ vols0) : Evp (tC (.int n)) σ H (VolV K) := .of Evl.ev_c fun _ _ => ⟨_, h, rfl⟩
theorem ev_vp {n m : Int} (h : Th.p n m ∈ vols0) : Evp (tTup (tCons (tC (.int n)) (tCons (tC (.int m)) tNil))) σ H (VolV K) := (evp_pair Evl.ev_c Evl.ev_c).imp fun v H1 _ p => ⟨_, h, p⟩
def AllV (F : Hpr) : List V → Hp → Prop := fun vs H => ∀ x ∈ vs, F x H
theorem eav_nil {F : Hpr} : Evpa tNil σ H (fun vs H => vs.length = 0 ∧ AllV F vs H) := fun H1 _ _ q => q [] H1 (Ex.refl _) ⟨rfl, fun x h => by cases h⟩
theorem eav_cons {F : Hpr} [m : Mon F] {t : TA} {n : Nat} (h : Evp te σ H F) (ht : Evpa t σ H (fun vs H => vs.length = n ∧ AllV F vs H)) : Evpa (tCons te t) σ H (fun vs H => vs.length = n + 1 ∧ AllV F vs H) := fun H1 e Q q =>
  h H1 e _ fun v H2 e2 p => ht H2 (e.trans e2) _ fun vs H3 e3 ⟨hl, hF⟩ => q _ H3 (e2.trans e3) ⟨by rw [List.length_cons, hl], fun x hx => by
    rcases List.mem_cons.mp hx with rfl | hx
    · exact m.mo _ _ _ e3 p
    · exact hF x hx⟩
/-- items drawn from a list: at least one, told of the heap without the draws -/
theorem pick_r {F : Hpr} (mF : Mon F) {l : Addr} {xs : List V} (ha : Ev ta σ H (.ref d)) (hb : Ev tb σ H (.ref l)) (dr : Dr K d s ns H) (hl : SqL K (era d H) l xs) (h0 : 0 < xs.length) (h1 : xs.length ≤ 1000) (hF : ∀ x ∈ xs, F x (era d H)) (Q : VK) (q : ∀ v H2, Ed d H H2 → Dr K d s ns H2 → F v (era d H2) → v ∈ xs → Q v H2) :
    tCl (spPick K) (fun _ => E0) (tCons ta (tCons tb tNil)) σ H Q := ha H (Ex.refl _) _ fun H1 e1 => hb H1 e1 _ fun H2 e2 => by
  have e := Ed.ex (d := d) (e1.trans e2)
  exact ⟨d, s, ns, l, xs, rfl, dr.ex (e1.trans e2), ex_l e.era hl, h0, h1, fun v H' hv e' d' => q v H' (e.trans e') d' (mF.mo _ _ _ (e.trans e').era (hF v hv)) hv⟩
/-- rising ints, drawn one by one -/
theorem evd_locks {i0 j n : Nat} {vs : List Nat} {tk : TE} (hs : σ[i0]? = some (some (.int (n : Nat)))) (h1 : 1 ≤ n) (hn : n ≤ 1000) (hw : ∀ x, wipe ((wipe σ vs).set j (some x)) vs = wipe σ vs) (hj : j < (wipe σ vs).length) (dr : Dr K d s ns H)
    (he : ∀ (i : Nat) H1, Ed d H H1 → Dr K d s ns H1 → TakeR K d s ns tk ((wipe σ vs).set j (some (.int (i : Nat)))) H1 7)
    (Q : VK) (q : ∀ (E : Addr) (ls : List Int) (H2 : Hp), Ed d H H2 → Dr K d s ns H2 → E ≠ d → H2 E = some (.lst (ls.map V.int)) → ls.Pairwise (· < ·) → (∀ l ∈ ls, 1 ≤ l ∧ l < (n : Int)) → ls.length ≤ n → Q (.ref E) H2) :
    tLc (iRng2 (tCons (tC (.int 1)) (tCons (tVar i0) tNil))) (gName j) (tTest (tOp rEq tk (tC (.int 0)))) (tVar j) vs σ H Q := by
  refine ⟨_, hs, 1, n, rfl, ⟨by omega, by omega, by omega, by omega⟩, fun E hE => ?_⟩
  have hEd : E ≠ d := ne_dr dr hE
  have en : ((n : Int) - 1).toNat = n - 1 := by omega
  rw [en]
  refine lc_range (lo := 1) (n := n - 1) (fun i H' => Ed d H H' ∧ Dr K d s ns H' ∧ ∃ ls : List Int, H' E = some (.lst (ls.map V.int)) ∧ ls.Pairwise (· < ·) ∧ (∀ l ∈ ls, 1 ≤ l ∧ l < 1 + (i : Int)) ∧ ls.length ≤ i) ⟨Ed.ex (Ex.new hE), dr.ex (Ex.new hE), [], upd_same, .nil, (fun x h => by cases h), Nat.le_refl _⟩ ?_ ?_
  · rintro i H1 hi ⟨e1, d1, ls, hx, hp, hl, hlen⟩
    have ei : (1 : Int) + (i : Int) = ((1 + i : Nat) : Int) := by omega
    show wipe ((wipe σ vs).set j (some (.int ((1 : Int) + (i : Int))))) vs = wipe σ vs ∧ _
    rw [ei]
    refine ⟨hw _, ?_⟩
    refine he (1 + i) H1 e1 d1 _ fun r H2 r0 r1 e2 d2 => ⟨rfl, _, rfl, ?_⟩
    have hx2 : H2 E = some (.lst (ls.map V.int)) := e2 _ _ (era_at hx hEd)
    dsimp only
    split
    · refine ⟨_, List.getElem?_set_self hj, ls.map V.int, hx2, Nat.lt_of_lt_of_le (by rw [List.length_map]; omega : _ < 100000) (by decide), ?_⟩
      have e3 : Ed d H (upd H2 E (.lst (ls.map V.int ++ [.int ((1 + i : Nat) : Int)]))) := fun b o h => by
        have h2 := (e1.trans e2) b o h
        have hb : b ≠ E := fun z => by
          subst z
          rw [era_ex d H _ _ h] at hE
          cases hE
        rw [upd_ne hb]
        exact h2
      obtain ⟨m, hm⟩ := d2.at_
      refine ⟨e3, ⟨⟨m, by rw [upd_ne hEd.symm]; exact hm⟩, ex_l e3.era dr.sc, d2.le⟩, ls ++ [((1 + i : Nat) : Int)], by rw [upd_same, List.map_append]; rfl, ?_, fun l h => ?_, by rw [List.length_append]; show ls.length + 1 ≤ i + 1; omega⟩
      · rw [List.pairwise_append]
        refine ⟨hp, List.pairwise_singleton .., fun a ha b hb => ?_⟩
        rw [List.mem_singleton] at hb
        have := (hl a ha).2
        omega
      · rcases List.mem_append.mp h with h | h
        · have := hl l h
          omega
        · rw [List.mem_singleton] at h
          omega
    · refine ⟨e1.trans e2, d2, ls, hx2, hp, fun l h => ?_, by omega⟩
      have := hl l h
      omega
  · rintro H1 ⟨e1, d1, ls, hx, hp, hl, hlen⟩
    exact q E ls H1 e1 d1 hEd hx hp (fun l h => by have := hl l h; omega) (by omega)
/-! ### _law_drawn -/
def spDrawn (K : PySem.W.Frag) : Sp := fun vs H Q _ => ∃ d s ns, vs = [.ref d, .int 6] ∧ Dr K d s ns H ∧ ∀ T a v l as ls ts H', Ed d H H' → Dr K d s ns H' → H' T = some (.tup [a, v, .ref l]) → IntsT K as a (era d H') → TupTh K ts v (era d H') → H' l = some (.lst (ls.map V.int)) → l ≠ d → Geo as ls → ts.length = as.length → (∀ t ∈ ts, t ∈ vols0) → Q (.ref T) H'
abbrev sDrawn : Stmt := top 55
abbrev nDrawn : List Str := ["_law_draw", "_law_most", "_law_many", "_law_even_here", "_law_areas", "_law_volumes", "_law_locks", "_law_basin", "_law_weir"]
theorem scDrawn : FnScope nDrawn ["_law_draw", "_law_most"] (defScope sDrawn) := ⟨rfl, rfl, rfl, by decide +kernel, rfl, by decide +kernel, by decide +kernel⟩
theorem ints_of (F : Int → Prop) : ∀ {xs : List V}, (∀ x ∈ xs, ∃ a : Int, x = .int a ∧ F a) → ∃ as : List Int, xs = as.map V.int ∧ ∀ a ∈ as, F a
  | [], _ => ⟨[], rfl, fun a h => by cases h⟩
  | x :: xs, h => by
    obtain ⟨a, rfl, ha⟩ := h x (List.mem_cons_self ..)
    obtain ⟨as, rfl, has⟩ := ints_of F (xs := xs) fun y hy => h y (List.mem_cons_of_mem _ hy)
    exact ⟨a :: as, rfl, fun b hb => by
      rcases List.mem_cons.mp hb with rfl | hb
      · exact ha
      · exact has b hb⟩
theorem ths_of : ∀ {xs : List V}, (∀ x ∈ xs, VolV K x H) → ∃ ts : List Th, Ths K H xs ts ∧ ∀ t ∈ ts, t ∈ vols0
  | [], _ => ⟨[], .nil, fun a h => by cases h⟩
  | x :: xs, h => by
    obtain ⟨t, ht, p⟩ := h x (List.mem_cons_self ..)
    obtain ⟨ts, hp, hts⟩ := ths_of (xs := xs) fun y hy => h y (List.mem_cons_of_mem _ hy)
    exact ⟨t :: ts, .cons p hp, fun b hb => by
      rcases List.mem_cons.mp hb with rfl | hb
      · exact ht
      · exact hts b hb⟩
theorem ok_drawn {f fd} (F : Fun K "_law_drawn" "_law_drawn" sDrawn f fd) (B : Bl mg) (cT : Cal P w K mg base CX0 2 "_law_take" (spTake K)) (cP : Cal P w K mg base CX0 3 "_law_pick" (spPick K)) : FnOk P w K mg base CX0 4 f fd ["_law_draw", "_law_most"] (spDrawn K) := by
  refine F.ok scDrawn (fun vs H Q E h => ?_) (fun cdv A outer st H vs Q E hr h => ?_)
  · obtain ⟨d, s, ns, rfl, _⟩ := h
    rfl
  · obtain ⟨d, s, ns, rfl, dr, k⟩ := h
    have hr2 : Room 2 _ := hr.mono (by decide)
    refine ⟨_, pss_cons (ps_set (i := 2) scDrawn.nd rfl (Or.inl rfl) (pe_op op_add pe_int (pe_c0 cT hr2 (pa_cons (pv 0) (pa_cons (pv 1) pa_nil)))))
      (pss_cons (ps_set (i := 3) scDrawn.nd rfl (Or.inr rfl) (pe_cmpR op_eq (pe_c0 cT hr2 (pa_cons (pv 0) (pa_cons pe_int pa_nil))) pe_int (nomark _)))
      (pss_cons (ps_set (i := 4) scDrawn.nd rfl (Or.inl rfl) (pe_callTy call_tuple_of rfl B.tup (by decide +kernel) (pa_cons (pe_lc (own := [("_law_basin", 7)]) (g := gName 7) (tt := tYes) rfl scDrawn.nd (pi_range1 rfl B.rng (pa_cons (pv 2) pa_nil)) (blkOk_by (N := nDrawn) (sc := defScope sDrawn) (by decide +kernel))
        (fun _ _ _ _ _ => pg_name (i := 7) scDrawn.nd rfl (Or.inl rfl)) (fun _ _ _ _ _ => pts_nil) (fun _ _ _ _ _ => pe_ifExp (pt_val (pv 3)) pe_int (pe_op op_add pe_int (pe_c0 cT hr2 (pa_cons (pv 0) (pa_cons pe_int pa_nil)))))) pa_nil)))
      (pss_cons (ps_set (i := 5) scDrawn.nd rfl (Or.inl rfl) (pe_callTy call_tuple_of rfl B.tup (by decide +kernel) (pa_cons (pe_lc (own := [("_law_basin", 7)]) (g := gName 7) (tt := tYes) rfl scDrawn.nd (pi_range1 rfl B.rng (pa_cons (pv 2) pa_nil)) (blkOk_by (N := nDrawn) (sc := defScope sDrawn) (by decide +kernel))
        (fun _ _ _ _ _ => pg_name (i := 7) scDrawn.nd rfl (Or.inl rfl)) (fun _ _ _ _ _ => pts_nil) (fun _ _ _ _ _ => pe_c0 cP hr (pa_cons (pv 0) (pa_cons (pe_lst (pa_cons pe_int (pa_cons pe_int (pa_cons pe_int (pa_cons pe_int (pa_cons pe_int (pa_cons pe_int (pa_cons pe_int (pa_cons (pe_tup (pa_cons pe_int (pa_cons pe_int pa_nil))) (pa_cons (pe_tup (pa_cons pe_int (pa_cons pe_int pa_nil))) pa_nil)))))))))) pa_nil)))) pa_nil)))
      (pss_cons (ps_setLc (i := 6) (own := [("_law_weir", 8)]) (g := gName 8) rfl scDrawn.nd rfl rfl (sw_true rfl rfl rfl (by decide +kernel)) (pi_range2 rfl B.rng (pa_cons pe_int (pa_cons (pv 2) pa_nil))) (blkOk_by (N := nDrawn) (sc := defScope sDrawn) (by decide +kernel))
        (fun _ _ _ _ _ => pg_name (i := 8) scDrawn.nd rfl (Or.inl rfl)) (fun _ _ _ _ _ => pts_one (pt_cmpR op_eq (pe_c0 cT hr2 (pa_cons (pv 0) (pa_cons pe_int pa_nil))) pe_int (nomark _))) (fun _ _ _ _ _ => pv 8))
      (pss_one (ps_ret (pe_tup (pa_cons (pv 4) (pa_cons (pv 5) (pa_cons (pv 6) pa_nil)))))))))), ?_⟩
    refine q_setT (take_r (Evl.ev_var rfl) (Evl.ev_var rfl) (by decide) dr) fun r H1 r0 r1 e1 d1 => ?_
    obtain ⟨n, hn⟩ : ∃ n : Nat, 1 + r = (n : Int) := ⟨(1 + r).toNat, by omega⟩
    rw [hn]
    have n1 : 1 ≤ n := by omega
    have n6 : n ≤ 6 := by omega
    refine q_setE (take_r (Evl.ev_var rfl) Evl.ev_c (by decide) d1) fun b H2 e2 d2 => ?_
    -- areas
    refine q_setTup (K := K) (d := d) (s := s) (ns := ns) (F := fun v _ => ∃ a : Int, v = .int a ∧ 1 ≤ a ∧ a ≤ 4) (n := n) ⟨fun _ _ _ _ h => h⟩ (evd_lc (K := K) (d := d) (s := s) (ns := ns) (n := n) (i0 := 2) (j := 7) (vs := [7]) (fun v _ => ∃ a : Int, v = .int a ∧ 1 ≤ a ∧ a ≤ 4) ⟨fun _ _ _ _ h => h⟩ ⟨fun _ _ _ _ _ _ h => h⟩ rfl (by omega) (fun _ => rfl) d2 fun i H3 hi e3 d3 Q' q' => ?_) fun p as0 H3 e3 d3 hp3 hl3 hF3 => ?_
    · refine ⟨.bl b, rfl, b, rfl, ?_⟩
      dsimp only
      split
      · exact q' _ H3 (Ed.refl _ _) d3 ⟨1, rfl, by decide, by decide⟩
      · exact take_r (K := K) (Evl.ev_var rfl) Evl.ev_c (by decide : (0 : Int) < 4) d3 _ fun r H4 r0 r1 e4 d4 => ⟨1, r, rfl, rfl, q' _ H4 e4 d4 ⟨1 + r, rfl, by omega, by omega⟩⟩
    obtain ⟨as, rfl, has⟩ := ints_of (fun a => 1 ≤ a ∧ a ≤ 4) hF3
    rw [List.length_map] at hl3
    -- volumes
    refine q_setTup (K := K) (d := d) (s := s) (ns := ns) (F := VolV K) (n := n) mon_vol (evd_lc (K := K) (d := d) (s := s) (ns := ns) (n := n) (i0 := 2) (j := 7) (vs := [7]) (VolV K) mon_vol lf_vol rfl (by omega) (fun _ => rfl) d3 fun i H4 hi e4 d4 Q' q' => ?_) fun p2 vs0 H4 e4 d4 hp4 hl4 hF4 => ?_
    · have hlst := fun σ0 : L2.St => evp_lst (σ := σ0) (R := fun v H => ∃ l xs, v = .ref l ∧ H l = some (.lst xs) ∧ xs.length = 9 ∧ AllV (VolV K) xs H) (eav_cons (F := VolV K) (σ := σ0) (H := H4) (ev_vi (n := 0) (by simp [vols0])) (eav_cons (ev_vi (n := 0) (by simp [vols0])) (eav_cons (ev_vi (n := 1) (by simp [vols0])) (eav_cons (ev_vi (n := 2) (by simp [vols0])) (eav_cons (ev_vi (n := 3) (by simp [vols0])) (eav_cons (ev_vi (n := 5) (by simp [vols0])) (eav_cons (ev_vi (n := 8) (by simp [vols0])) (eav_cons (ev_vp (n := 1) (m := 2) (by simp [vols0])) (eav_cons (ev_vp (n := 7) (m := 3) (by simp [vols0])) eav_nil)))))))))
        (fun vs H1 h => by rw [h.1]; decide) fun vs H1 p e h hp => ⟨p, vs, rfl, upd_same, h.1, fun x hx => mon_vol.mo _ _ _ (Ex.new hp) (h.2 x hx)⟩
      refine ⟨.ref d, rfl, ?_⟩
      refine hlst _ H4 (Ex.refl _) _ fun v H5 e5 ⟨l, xs, ev, hl, hlen, hF⟩ => ?_
      subst ev
      have d5 := d4.ex e5
      obtain ⟨m, hm⟩ := d5.at_
      have hld : l ≠ d := ne_of hl hm (by intro q; simp only [HO.lst.injEq] at q; rw [q] at hlen; simp at hlen)
      refine ⟨d, s, ns, l, xs, rfl, d5, SqL.of (era_at hl hld), by omega, by omega, fun v H' hv e' d' => q' v H' ((Ed.ex e5).trans e') d' ?_⟩
      obtain ⟨t, ht, pt⟩ := hF v hv
      exact ⟨t, ht, mon_th.mo _ _ _ e'.era (th_era d5 pt)⟩
    obtain ⟨ts, hts, hvs⟩ := ths_of hF4
    -- locks
    refine q_asgD (R := fun v H5 => ∃ (E : Addr) (ls : List Int), v = .ref E ∧ Ed d H4 H5 ∧ Dr K d s ns H5 ∧ E ≠ d ∧ H5 E = some (.lst (ls.map V.int)) ∧ ls.Pairwise (· < ·) ∧ (∀ l ∈ ls, 1 ≤ l ∧ l < (n : Int)) ∧ ls.length ≤ n) (fun Q' q' => evd_locks (n := n) (K := K) (d := d) (s := s) (ns := ns) (H := H4) (σ := [some (.ref d), some (.int 6), some (.int (n : Nat)), some (.bl b), some (.ref p), some (.ref p2), none, none, none]) (tk := tCl (spTake K) (fun _ => E0) (tCons (tVar 0) (tCons (tC (.int 7)) tNil))) (i0 := 2) (j := 8) (vs := [8]) rfl n1 (by omega) (fun _ => rfl) (by show 8 < 9; decide) d4 (fun i H5 e5 d5 => take_r (Evl.ev_var rfl) Evl.ev_c (by decide) d5) Q' fun E ls H5 a1 a2 a3 a4 a5 a6 a7 => q' _ _ ⟨E, ls, rfl, a1, a2, a3, a4, a5, a6, a7⟩) fun v5 H5 ⟨E, ls, ev5, e5, d5, hEd, hE, hp5, hl5, hlen5⟩ => ?_
    subst ev5
    refine Evl.s_retU (Evl.eu_tup (Evl.ea_cons (Evl.ev_var rfl) (Evl.ea_cons (Evl.ev_var rfl) (Evl.ea_cons (Evl.ev_var rfl) Evl.ea_nil))) (by show 3 ≤ 100000; decide)) fun T H6 hT e6 h6 => ?_
    have e56 : Ed d H4 H6 := e5.trans (Ed.ex e6)
    have e36 : Ed d H3 H6 := e4.trans e56
    obtain ⟨m3, hm3⟩ := d3.at_
    obtain ⟨m4, hm4⟩ := d4.at_
    have a3 : era d H3 p = some (.tup (as.map V.int)) := era_at hp3 (ne_of hp3 hm3 (by intro q; cases q))
    have a4 : era d H4 p2 = some (.tup vs0) := era_at hp4 (ne_of hp4 hm4 (by intro q; cases q))
    refine k T _ _ E as ls ts H6 ((((e1.trans e2).trans e3).trans e4).trans e56) (d5.ex e6) h6 ⟨p, rfl, SqT.of (e36.era _ _ a3)⟩ ⟨p2, vs0, rfl, SqT.of (e56.era _ _ a4), Paired.mapP hts fun v t h => mon_th.mo _ _ _ e56.era h⟩ (e6 _ _ hE) hEd ⟨by omega, by omega, fun a ha => has a ha, hp5, fun l hl => by have := hl5 l hl; omega, by omega⟩ (by rw [← hts.length, hl4, hl3]) hvs
end
end WD
set_option Elab.async false
set_option linter.all false
set_option maxRecDepth 100000
set_option maxHeartbeats 4000000
set_option exponentiation.threshold 500000
namespace WD
open PySem PySem.Spec PyProof.Rows L2 WR WK
open Evl (Ex Ev EvL EvU EvT EvA EvO RV ex_l ex_t)
section
variable {P : Program} {w : World} {K : PySem.W.Frag} {mg : Str → Option Value} {base : Heap} {H H' : Hp} {σ : L2.St} {as ls : List Int} {te ta tb : TE} {D : Ends} {tz tu : TS} {d s : Addr} {ns : List Int}
def spOrder (K : PySem.W.Frag) : Sp := fun vs H Q _ => ∃ (d s : Addr) (ns : List Int) (l : Addr) (ls : List Int) (m : Nat), vs = [.ref d, .ref l, .int (m : Nat)] ∧ Dr K d s ns H ∧ SqL K (era d H) l (ls.map V.int) ∧ ls.length ≤ 1000 ∧ m ≤ 5 ∧
  ∀ (o : Addr) (os : List Int) H', Ed d H H' → Dr K d s ns H' → o ≠ d → H' o = some (.lst (os.map V.int)) → os.length ≤ m → (∀ x ∈ os, x ∈ ls) → Q (.ref o) H'
abbrev sOrder : Stmt := top 60
abbrev nOrder : List Str := ["_law_draw", "_law_weirs", "_law_many", "_law_turn"]
theorem scOrder : FnScope nOrder ["_law_draw", "_law_weirs", "_law_many"] (defScope sOrder) := ⟨rfl, rfl, rfl, by decide +kernel, rfl, by decide +kernel, by decide +kernel⟩
theorem sqL_at {l : Addr} {xs : List V} {o : HO} {x : Addr} (h : SqL K H l xs) (hx : H x = none) : l ≠ x ∨ True := .inr trivial
/-- the two lists compared: not empty -/
theorem ev_neNil {b : Bool} {o : Addr} {ns : List Int} (ha : Ev ta σ H (.ref o)) (hs : SqL K H o (ns.map V.int)) (hb : (!decide (ns = [])) = b) : Ev (tOp (rNeD K) ta (tLst tNil)) σ H (.bl b) :=
  evp_neD (S := fun v H => v = .ref o ∧ SqL K H o (ns.map V.int)) (R := fun v H => ∃ p, v = .ref p ∧ H p = some (.lst [])) (d := .list (ns.map .int)) (e := .list (([] : List Int).map .int)) (Evp.of ha fun H2 e2 => ⟨rfl, ex_l e2 hs⟩)
    (fun H1 e Q q => Evl.el_lst Evl.ea_nil (by show 0 ≤ 100000; decide) H1 (Ex.refl _) _ fun p H2 hp e2 h2 => q _ H2 e2 ⟨p, rfl, h2⟩) ⟨fun _ _ _ e ⟨a, b⟩ => ⟨a, ex_l e b⟩⟩ (fun v H1 ⟨a, b⟩ => by rw [a]; exact .lst b (dp_ints ns)) (fun v H1 ⟨p, a, b⟩ => by rw [a]; exact .lst (SqL.of b) .nil) (ints_list_ok ns) (ints_list_ok []) (by rw [eqv_ints_list]; exact hb)
theorem ok_order {f fd} (F : Fun K "_law_order" "_law_order" sOrder f fd) (B : Bl mg) (cP : Cal P w K mg base CX0 3 "_law_pick" (spPick K)) : FnOk P w K mg base CX0 4 f fd ["_law_draw", "_law_weirs", "_law_many"] (spOrder K) := by
  refine F.ok scOrder (fun vs H Q E h => ?_) (fun cdv A outer st H vs Q E hr h => ?_)
  · obtain ⟨d, s, ns, l, ls, m, rfl, _⟩ := h
    rfl
  · obtain ⟨d, s, ns, l, ls, m, rfl, dr, hl, hll, hm, k⟩ := h
    refine ⟨_, pss_one (ps_ret (pe_ifExp (pt_cmpR (op_neD hr.units) (pv 1) (pe_lst pa_nil) (nomark _)) (pe_lc (own := [("_law_turn", 3)]) (g := gName 3) (tt := tYes) rfl scOrder.nd (pi_range1 rfl B.rng (pa_cons (pv 2) pa_nil)) (blkOk_by (N := nOrder) (sc := defScope sOrder) (by decide +kernel))
      (fun _ _ _ _ _ => pg_name (i := 3) scOrder.nd rfl (Or.inl rfl)) (fun _ _ _ _ _ => pts_nil) (fun _ _ _ _ _ => pe_c0 cP hr (pa_cons (pv 0) (pa_cons (pv 1) pa_nil)))) (pe_lst pa_nil))), ?_⟩
    have hl0 : SqL K H l (ls.map V.int) := ex_l (era_ex d H) hl
    refine Evl.et_test (ev_neNil (b := !decide (ls = [])) (Evl.ev_var (v := .ref l) rfl) hl0 rfl) H (Ex.refl _) _ fun H1 e1 => ?_
    have d1 := dr.ex e1
    have l1 : SqL K (era d H1) l (ls.map V.int) := ex_l (Ed.ex e1).era hl
    by_cases hne : ls = []
    · subst hne
      dsimp only
      rw [if_neg (by simp)]
      refine Evl.el_lst Evl.ea_nil (by show 0 ≤ 100000; decide) H1 (Ex.refl _) _ fun p H2 hp e2 h2 => ?_
      exact k p [] H2 (Ed.ex (e1.trans e2)) (d1.ex e2) (ne_dr d1 hp) h2 (Nat.zero_le _) fun x h => by cases h
    · dsimp only
      rw [if_pos (by simp [hne])]
      have hpos : 0 < ls.length := List.length_pos_iff.mpr hne
      refine evd_lc (K := K) (d := d) (s := s) (ns := ns) (n := m) (i0 := 2) (j := 3) (vs := [3]) (fun v _ => ∃ a : Int, v = .int a ∧ a ∈ ls) ⟨fun _ _ _ _ h => h⟩ ⟨fun _ _ _ _ _ _ h => h⟩ rfl (by omega) (fun _ => rfl) d1 (fun i H2 hi e2 d2 Q' q' => ?_) _ fun E xs H2 e2 d2 hE hx hlen hF => ?_
      · exact pick_r (F := fun v _ => ∃ a : Int, v = .int a ∧ a ∈ ls) ⟨fun _ _ _ _ h => h⟩ (l := l) (xs := ls.map V.int) (Evl.ev_var rfl) (Evl.ev_var rfl) d2 (ex_l e2.era l1) (by rw [List.length_map]; exact hpos) (by rw [List.length_map]; exact hll) (fun x hx => by
          obtain ⟨a, ha, rfl⟩ := List.mem_map.mp hx
          exact ⟨a, rfl, ha⟩) Q' fun v H3 e3 d3 hv _ => q' v H3 e3 d3 hv
      · obtain ⟨os, rfl, hos⟩ := ints_of (fun a => a ∈ ls) hF
        rw [List.length_map] at hlen
        exact k E os H2 ((Ed.ex e1).trans e2) d2 (ne_dr d1 hE) hx (by omega) hos
end
end WD
set_option Elab.async false
set_option linter.all false
set_option maxRecDepth 100000
set_option maxHeartbeats 4000000
set_option exponentiation.threshold 500000
namespace WD
open PySem PySem.Spec PyProof.Rows L2 WR WK
open Evl (Ex Ev EvL EvU EvT EvA EvO RV ex_l ex_t)
/-! ### the law's mathematics, over the rounds -/
section
variable {as ls : List Int} {ws : List Nat} {qs : List Rat}
theorem Setup.pos (S : Setup as ls ws qs) : 0 < as.length := S.g.n1
theorem Setup.stays (S : Setup as ls ws qs) {t u : Nat} (h : hit as qs ws t = true) (hu : t ≤ u) : hit as qs ws u = true :=
  decide_eq_true (settled_stays S.g.ar S.ok.weirs S.pos S.inv.len (of_decide_eq_true h) hu)
theorem Setup.within (S : Setup as ls ws qs) {t : Nat} (h : hit as qs ws t = true) : hit as qs ws as.length = true :=
  decide_eq_true (settles_within S.g.ar S.ok.weirs S.pos S.inv.len (of_decide_eq_true h))
theorem Setup.falls (S : Setup as ls ws qs) (t : Nat) : gapAt as qs ws (t + 1) ≤ gapAt as qs ws t := gap_falls S.g.ar S.ok.weirs S.pos S.inv.len t
theorem Setup.gapPos (S : Setup as ls ws qs) (h : hit as qs ws as.length = false) : 0 < gapAt as qs ws as.length := by
  have hg := goalR_length as qs ws S.pos
  by_cases hz : gapAt as qs ws as.length ≤ 0
  · exfalso
    have := gap_zero S.g.ar (by rw [roundsR_length]; exact S.inv.len) hg hz
    rw [show hit as qs ws as.length = true from decide_eq_true this] at h
    cases h
  · exact Rat.not_le.mp hz
/-- when the law's own loop came to the limit, behind i looks -/
def reach (as : List Int) (qs : List Rat) (ws : List Nat) (i : Nat) : Option Nat := (List.range i).find? (hit as qs ws)
theorem reach_next (i : Nat) : reach as qs ws (i + 1) = match reach as qs ws i with | some t => some t | none => if hit as qs ws i = true then some i else none := by
  unfold reach
  rw [List.range_succ, List.find?_append]
  cases List.find? (hit as qs ws) (List.range i) with
  | some t => rfl
  | none =>
    show List.find? (hit as qs ws) [i] = _
    by_cases h : hit as qs ws i = true <;> simp [h]
theorem Setup.reach13 (S : Setup as ls ws qs) : reach as qs ws 13 = firstHit as qs ws := by
  have n6 := S.g.n6
  cases hf : firstHit as qs ws with
  | some t =>
    obtain ⟨t1, t2, t3⟩ := firstHit_some hf
    unfold reach
    rw [List.find?_range_eq_some]
    exact ⟨t2, List.mem_range.mpr (by omega), fun j hj => by simp [t3 j hj]⟩
  | none =>
    unfold reach
    rw [List.find?_eq_none]
    intro t ht h
    have := firstHit_none hf as.length (Nat.le_refl _)
    rw [S.within h] at this
    cases this
def rchV : Option Nat → V
  | some t => .int (t : Nat)
  | none => .non
theorem Setup.showsS (S : Setup as ls ws qs) {t : Nat} (h : firstHit as qs ws = some t) : showsS as qs ws t = true ∧ showsS as qs ws (t + 1) = false ∧ (0 < t → WD.showsS as qs ws (t - 1) = false) := by
  obtain ⟨t1, t2, t3⟩ := firstHit_some h
  refine ⟨?_, ?_, fun h0 => ?_⟩
  · unfold WD.showsS
    rw [t2, Bool.true_and, Bool.not_eq_true', List.any_eq_false]
    intro j hj
    rw [t3 j (List.mem_range.mp hj)]
    exact Bool.false_ne_true
  · unfold WD.showsS
    have : (List.range (t + 1)).any (hit as qs ws) = true := List.any_eq_true.mpr ⟨t, List.mem_range.mpr (by omega), t2⟩
    rw [this]
    simp
  · unfold WD.showsS
    rw [t3 (t - 1) (by omega)]
    rfl
theorem Setup.showsT (S : Setup as ls ws qs) (h : firstHit as qs ws = none) : showsT as qs ws (gapAt as qs ws as.length) = true ∧ showsT as qs ws (gapAt as qs ws as.length + rt 1 9) = false ∧ WD.showsT as qs ws 0 = false := by
  have hg := S.gapPos (firstHit_none h as.length (Nat.le_refl _))
  refine ⟨?_, ?_, ?_⟩
  · unfold WD.showsT
    have := (num_pos_iff _).mpr hg
    simp [this]
  · unfold WD.showsT
    have h9 : (0 : Rat) < rt 1 9 := by rw [rt_eq _ _ (by decide), Rat.div_def]; exact Rat.mul_pos (by decide) (Rat.inv_pos.mpr (by decide))
    have : ¬ gapAt as qs ws as.length = gapAt as qs ws as.length + rt 1 9 := fun e => by grind
    simp [this]
  · unfold WD.showsT
    rfl
/-- the drawn volumes -/
theorem vols0_ok : ∀ t ∈ vols0, t.isPart = true ∧ t.small ∧ 0 ≤ t.val.num ∧ t.red ∧ Vol0 t.val := by
  intro t ht
  simp only [vols0, List.mem_cons, List.not_mem_nil, or_false] at ht
  have two : ∀ n : Nat, n < 16 → n < 2 ^ 4500 := fun n h => Nat.lt_of_lt_of_le h (show 2 ^ 4 ≤ 2 ^ 4500 from Nat.pow_le_pow_right (by decide) (by decide))
  have hi : ∀ n : Int, 0 ≤ n → n < 16 → Vol0 (n : Rat) → (Th.i n).isPart = true ∧ (Th.i n).small ∧ 0 ≤ (Th.i n).val.num ∧ (Th.i n).red ∧ Vol0 (Th.i n).val := fun n h0 h1 hv => by
    refine ⟨rfl, two _ (by omega), ?_, trivial, ?_⟩
    · show 0 ≤ (rt n 1).num
      rw [rt_one]
      exact h0
    · show Vol0 (rt n 1)
      rw [rt_one]
      exact hv
  rcases ht with rfl | rfl | rfl | rfl | rfl | rfl | rfl | rfl | rfl
  · exact hi 0 (by decide) (by decide) (.inl rfl)
  · exact hi 0 (by decide) (by decide) (.inl rfl)
  · exact hi 1 (by decide) (by decide) (.inr (.inl rfl))
  · exact hi 2 (by decide) (by decide) (.inr (.inr (.inl rfl)))
  · exact hi 3 (by decide) (by decide) (.inr (.inr (.inr (.inl rfl))))
  · exact hi 5 (by decide) (by decide) (.inr (.inr (.inr (.inr (.inl rfl)))))
  · exact hi 8 (by decide) (by decide) (.inr (.inr (.inr (.inr (.inr (.inl rfl))))))
  · refine ⟨rfl, ⟨two _ (by decide), two _ (by decide)⟩, by decide, ⟨by decide, by decide⟩, ?_⟩
    show Vol0 (rt 1 2)
    exact .inr (.inr (.inr (.inr (.inr (.inr (.inl (by rw [rt_eq _ _ (by decide)]; rfl)))))))
  · refine ⟨rfl, ⟨two _ (by decide), two _ (by decide)⟩, by decide, ⟨by decide, by decide⟩, ?_⟩
    show Vol0 (rt 7 3)
    exact .inr (.inr (.inr (.inr (.inr (.inr (.inr (by rw [rt_eq _ _ (by decide)]; rfl)))))))
theorem geo_rowOk {ts : List Th} (g : Geo as ls) (hl : ts.length = as.length) (h : ∀ t ∈ ts, t ∈ vols0) : RowOk as ts ls where
  n1 := g.n1
  n24 := by have := g.n6; omega
  ar := fun a ha => by have := g.ar a ha; omega
  nt := hl
  pt := fun t ht => by
    obtain ⟨a, b, c, _⟩ := vols0_ok t (h t ht)
    exact ⟨a, b, c⟩
  up := g.up
  lk := g.lk
  nl := g.nl
theorem geo_inv {ts : List Th} (g : Geo as ls) (hl : ts.length = as.length) (h : ∀ t ∈ ts, t ∈ vols0) : RowInv 0 as (ts.map Th.val) :=
  rowInv0 g.ar (by rw [List.length_map]; exact hl) fun q hq => by
    obtain ⟨t, ht, rfl⟩ := List.mem_map.mp hq
    exact (vols0_ok t (h t ht)).2.2.2.2
def widths0 : List Th := [.p 1 2, .p 1 10, .p 3 1, .p 1 97]
theorem widths0_ok : ∀ t ∈ widths0, t.isPart = true ∧ t.small ∧ 0 < t.val ∧ Bk 2200 t.val ∧ t.red := by
  intro t ht
  simp only [widths0, List.mem_cons, List.not_mem_nil, or_false] at ht
  have two : ∀ n : Nat, n < 128 → n < 2 ^ 4500 := fun n h => Nat.lt_of_lt_of_le h (show 2 ^ 7 ≤ 2 ^ 4500 from Nat.pow_le_pow_right (by decide) (by decide))
  have hp : ∀ n d : Int, 0 < n → n < 128 → 0 < d → d < 128 → (rt n d).num = n → ((rt n d).den : Int) = d → (Th.p n d).isPart = true ∧ (Th.p n d).small ∧ 0 < (Th.p n d).val ∧ Bk 2200 (Th.p n d).val ∧ (Th.p n d).red := fun n d h1 h2 h3 h4 h5 h6 =>
    ⟨decide_eq_true (by omega), ⟨two _ (by omega), two _ (by omega)⟩, (num_pos_iff _).mp (by show 0 < (rt n d).num; rw [h5]; exact h1), (Bk.rt (k := 7) (by show _ < 128; omega) (by show _ < 128; omega) h3).mono (by decide), h5, h6⟩
  rcases ht with rfl | rfl | rfl | rfl
  · exact hp 1 2 (by decide) (by decide) (by decide) (by decide) (by decide) (by decide)
  · exact hp 1 10 (by decide) (by decide) (by decide) (by decide) (by decide) (by decide)
  · exact hp 3 1 (by decide) (by decide) (by decide) (by decide) (by decide) (by decide)
  · exact hp 1 97 (by decide) (by decide) (by decide) (by decide) (by decide) (by decide)
end
/-! ### either of two readings -/
section
variable {X : Cx}
theorem ps_or {st : Stmt} {t u : TS} (h1 : PS X st t) (h2 : PS X st u) : PS X st (fun D σ H => t D σ H ∨ u D σ H) := ⟨fun pins s σ H D I h => by
  rcases h with h | h
  · exact h1.run pins s σ H D I h
  · exact h2.run pins s σ H D I h⟩
def tNo : TT := fun _ _ _ => False
theorem pt_no {e : Expr} : PT X e tNo := ⟨fun _ _ _ _ _ _ h => h.elim⟩
end
end WD
set_option Elab.async false
set_option linter.all false
set_option maxRecDepth 100000
set_option maxHeartbeats 8000000
set_option exponentiation.threshold 500000
namespace WD
open PySem PySem.Spec PyProof.Rows L2 WR WK
open Evl (Ex Ev EvL EvU EvT EvA EvO RV ex_l ex_t)
section
variable {P : Program} {w : World} {K : PySem.W.Frag} {mg : Str → Option Value} {base : Heap} {H H' : Hp} {σ : L2.St} {C CO CS CT CN : Addr} {as ls : List Int} {qs : List Rat} {ws : List Nat} {te ta tb tc : TE} {D : Ends} {tz tu : TS} {d : Addr}
/-! ### what stays without the draws -/
class Er (P : Hpr) : Prop where
  er : ∀ v H (d : Addr) xs, H d = some (.lst xs) → P v H → P v (era d H)
instance er_pr {n m : Int} : Er (PrAt K n m) := ⟨fun v H d xs hd ⟨a, r, s⟩ => ⟨a, r, era_tL hd s⟩⟩
instance er_ints {ns : List Int} : Er (IntsT K ns) := ⟨fun v H d xs hd ⟨a, r, s⟩ => ⟨a, r, era_tL hd s⟩⟩
instance er_frs : Er (FrsT K qs) := ⟨fun v H d xs hd ⟨a, ys, r, s, p⟩ => ⟨a, ys, r, era_tL hd s, Paired.mapP p fun _ _ h => er_pr.er _ _ _ _ hd h⟩⟩
instance er_row : Er (RowAt K C as qs ls) := ⟨fun v H d xs' hd ⟨r, dx, aa, av, al, xs, h1, h2, h3, h4, h5, h6⟩ => ⟨r, dx, aa, av, al, xs, h1, era_at h2 (ne_of h2 hd (by intro q; cases q)), era_tL hd h3, era_tL hd h4, Paired.mapP h5 fun _ _ h => er_pr.er _ _ _ _ hd h, era_tL hd h6⟩⟩
theorem keepE {P : Hpr} [m : Mon P] [e : Er P] {v : V} {n : Int} {s : Addr} (hd : H d = some (.lst [.ref s, .int n])) (h : P v H) (ed : Ed d H H') : P v H' := m.mo _ _ _ ed (e.er _ _ _ _ hd h)
/-! ### orders -/
def OrdP (K : PySem.W.Frag) (ws : List Nat) : Hpr := fun v H => ∃ o, v = .ref o ∧ SqA K H o (ordV ws)
instance mon_ord : Mon (OrdP K ws) := ⟨fun _ _ _ e ⟨o, r, s⟩ => ⟨o, r, s.ex e⟩⟩
theorem evp_runs (h : Evp te σ H (RowAt K C as qs ls)) (ho : Evp ta σ H (OrdP K ws)) (S : Setup as ls ws qs) : Evp (tCl (spRuns K C CO) (fun _ => E0) (tCons te (tCons ta tNil))) σ H (PrsL K (runsR as.length ws)) := fun H1 e Q q =>
  h H1 e _ fun x H2 e2 r => ho H2 (e.trans e2) _ fun v H3 e3 ⟨o, ev, hs⟩ => ⟨x, o, as, qs, ls, ws, by rw [ev], mon_row.mo _ _ _ e3 r, S.g, hs, S.ok.sm, .inl ⟨S.ok.ok, fun a xs H' e' _ hx hp => q _ H' ((e2.trans e3).trans e') ⟨a, xs, rfl, hx, hp⟩⟩⟩
theorem evp_limitP (h : Evp te σ H (RowAt K C as qs ls)) (ho : Evp ta σ H (OrdP K ws)) (S : Setup as ls ws qs) : Evp (tCl (spLimit K C CO) (fun _ => E0) (tCons te (tCons ta tNil))) σ H (RowAt K C as (goalR as qs ws) ls) := fun H1 e Q q =>
  h H1 e _ fun x H2 e2 r => ho H2 (e.trans e2) _ fun v H3 e3 ⟨o, ev, hs⟩ => ⟨x, o, as, qs, ls, ws, by rw [ev], mon_row.mo _ _ _ e3 r, S.g, S.inv, hs, S.ok.sm, .inl ⟨S.ok.ok, fun v H' e' p => q v H' ((e2.trans e3).trans e') p⟩⟩
theorem evp_settP (h : Evp te σ H (RowAt K C as qs ls)) (ho : Evp ta σ H (OrdP K ws)) (S : Setup as ls ws qs) : Evp (tCl (spSettling K C CO CS CT) (fun _ => E0) (tCons te (tCons ta tNil))) σ H (Found K CS CT as qs ws) := fun H1 e Q q =>
  h H1 e _ fun x H2 e2 r => ho H2 (e.trans e2) _ fun v H3 e3 ⟨o, ev, hs⟩ => ⟨x, o, as, qs, ls, ws, by rw [ev], mon_row.mo _ _ _ e3 r, S.g, S.inv, hs, S.ok.sm, .inl ⟨S.ok.ok, fun v H' e' p => q v H' ((e2.trans e3).trans e') p⟩⟩
theorem evp_joined {n : Nat} (h : Ev ta σ H (.int (n : Nat))) (ho : Evp tb σ H (OrdP K ws)) (h1 : 1 ≤ n) (h6 : n ≤ 6) : Evp (tCl (spLJoined K) (fun _ => E0) (tCons ta (tCons tb tNil))) σ H (PrsL K (runsR n ws)) :=
  evp_cl (n, ws) (eap2 (ev_evp h) ho) fun vs H1 _ ⟨x, y, ev, hx, o, hy, hs⟩ => ⟨⟨o, by rw [ev, hx, hy], hs⟩, h1, h6⟩
theorem evp_lEven (h1 : Evp ta σ H (IntsT K as)) (h2 : Evp tb σ H (FrsT K qs)) (ho : Evp tc σ H (OrdP K ws)) (S : Setup as ls ws qs) : Evp (tCl (spLEven K) (fun _ => E0) (tCons ta (tCons tb (tCons tc tNil)))) σ H (FrsT K (goalR as qs ws)) :=
  evp_cl ((as, qs), ws) (eap3 h1 h2 ho) fun vs H1 _ ⟨x, y, z, ev, hx, hy, o, hz, hs⟩ => ⟨⟨x, y, o, by rw [ev, hz], hx, hy, hs⟩, S.g.ar, S.g.n1, S.g.n6, S.inv⟩
theorem evp_lGap {rs : List Rat} (h1 : Evp ta σ H (IntsT K as)) (h2 : Evp tb σ H (FrsT K qs)) (h3 : Evp tc σ H (FrsT K rs)) (ok : DisOk as qs rs) : Evp (tCl (spLGap K) (fun _ => E0) (tCons ta (tCons tb (tCons tc tNil)))) σ H (FrAt K (gapR as qs rs)) :=
  evp_cl (as, (qs, rs)) (eap3 h1 h2 h3) fun vs H1 _ ⟨x, y, z, ev, hx, hy, hz⟩ => ⟨⟨x, y, z, ev, hx, hy, hz⟩, ok⟩
theorem evp_lBehind {e : Nat} (h1 : Evp ta σ H (IntsT K as)) (h2 : Evp tb σ H (FrsT K qs)) (ho : Evp tc σ H (OrdP K ws)) (g : Geo as ls) (ok : OrdOk as ls ws) (inv : RowInv e as qs) (he : e ≤ 63) : Evp (tCl (spLBehind K) (fun _ => E0) (tCons ta (tCons tb (tCons tc tNil)))) σ H (FrsT K (behindR as qs ws)) :=
  evp_cl ((as, qs), (ws, e)) (eap3 h1 h2 ho) fun vs H1 _ ⟨x, y, z, ev, hx, hy, o, hz, hs⟩ => ⟨⟨x, y, o, by rw [ev, hz], hx, hy, hs⟩, g.ar, g.n6, ok.weirs, ok.sm, inv, he⟩
theorem one_no {f m : Str} {u : V} (h : (m == f) = false) : ([(f, u)] : List (Str × V)).lookup m = none := by simp [List.lookup, h]
theorem ev_showS {t : Nat} (h : Evp te σ H (OneAt CS "rounds" (fun v _ => v = .int (t : Nat)))) (hr : Evp ta σ H (RowAt K C as qs ls)) (ho : Evp tb σ H (OrdP K ws)) (S : Setup as ls ws qs) (ht : t ≤ 13) : Ev (tMt CS "shows" (spShowS K C CS) (fun _ => E0) te (tCons ta (tCons tb tNil))) σ H (.bl (showsS as qs ws t)) :=
  (evp_mt (P := OneAt CS "rounds" (fun v _ => v = .int (t : Nat))) ((as, qs, ls), (ws, t)) h (eap2 hr ho) (fun x H1 _ ⟨r, dx, u, e1, e2, e3⟩ => ⟨r, dx, _, e1, e2, one_no (by decide +kernel)⟩) fun x vs H1 _ px ⟨y, z, ev, hy, o, hz, hs⟩ => ⟨⟨x, y, o, by rw [ev, hz], px, hy, hs⟩, S, ht⟩).ev
theorem ev_showT {q : Rat} (h : Evp te σ H (OneAt CT "width" (FrAt K q))) (hr : Evp ta σ H (RowAt K C as qs ls)) (ho : Evp tb σ H (OrdP K ws)) (S : Setup as ls ws qs) : Ev (tMt CT "shows" (spShowT K C CT) (fun _ => E0) te (tCons ta (tCons tb tNil))) σ H (.bl (showsT as qs ws q)) :=
  (evp_mt (P := OneAt CT "width" (FrAt K q)) ((as, qs, ls), (ws, q)) h (eap2 hr ho) (fun x H1 _ ⟨r, dx, u, e1, e2, e3⟩ => ⟨r, dx, _, e1, e2, one_no (by decide +kernel)⟩) fun x vs H1 _ px ⟨y, z, ev, hy, o, hz, hs⟩ => ⟨⟨x, y, o, by rw [ev, hz], px, hy, hs⟩, S⟩).ev
theorem evp_parts {ts : List Th} (h : Evp te σ H (TupTh K ts)) (hl : ts.length ≤ 100) (hr : ∀ t ∈ ts, t.red) : Evp (tCl (spParts K) (fun _ => E0) (tCons te tNil)) σ H (FrsT K (ts.map Th.val)) := evp_cl ts (eap1 h) fun vs H1 _ h => ⟨h, hl, hr⟩
theorem ev_bool {b : Bool} {P : Hpr} (h : Evp te σ H P) (hi : ∀ v H1, P v H1 → ∃ a dx fs, v = .ref a ∧ H1 a = some (.ins CS dx fs)) : Ev (tCB (fun xs H Q => ∃ x, xs = [x] ∧ rTruO CS (spYes b) x H fun b H' => Q (.bl b) H') (tCons te tNil)) σ H (.bl b) := fun H1 e Q q => h H1 e _ fun v H2 e2 p => by
  obtain ⟨a, dx, fs, rfl, hi'⟩ := hi v H2 p
  exact ⟨_, rfl, a, dx, fs, rfl, hi', _, rfl, b, rfl, q H2 e2⟩
theorem et_tru {b : Bool} {P : Hpr} (h : Evp te σ H P) (hi : ∀ v H1, P v H1 → ∃ a dx fs, v = .ref a ∧ H1 a = some (.ins CS dx fs)) : EvT (fun σ H Q => te σ H fun x H' => rTruO CS (spYes b) x H' Q) σ H b := fun H1 e Q q => h H1 e _ fun v H2 e2 p => by
  obtain ⟨a, dx, fs, rfl, hi'⟩ := hi v H2 p
  exact ⟨a, dx, fs, rfl, hi', _, rfl, b, rfl, q H2 e2⟩
theorem one_ins {f : Str} {P : Hpr} (v : V) (H1 : Hp) (h : OneAt CS f P v H1) : ∃ a dx fs, v = .ref a ∧ H1 a = some (.ins CS dx fs) := by
  obtain ⟨r, dx, u, h1, h2, _⟩ := h
  exact ⟨r, dx, _, h1, h2⟩
def rIsNo : R2 := fun x y H Q => y = .non ∧ Q (.bl (decide (x = .non))) H
def rNotNo : R2 := fun x y H Q => y = .non ∧ Q (.bl (!decide (x = .non))) H
theorem ev_notNone {v : V} (h : Ev te σ H v) : Ev (tOp rNotNo te (tC .non)) σ H (.bl (!decide (v = .non))) := Evl.ev_op h Evl.ev_c fun H1 e Q q => ⟨rfl, q H1 (Ex.refl _)⟩
theorem ev_isNone {v : V} (h : Ev te σ H v) : Ev (tOp rIsNo te (tC .non)) σ H (.bl (decide (v = .non))) := Evl.ev_op h Evl.ev_c fun H1 e Q q => ⟨rfl, q H1 (Ex.refl _)⟩
theorem ev_eqI {i j : Int} (ha : Ev ta σ H (.int i)) (hb : Ev tb σ H (.int j)) : Ev (tOp rEq ta tb) σ H (.bl (decide (i = j))) := Evl.ev_is (Evl.ev_op ha hb (Evl.rv_eq rfl)) (by congr 1; exact decide_eq_decide.mpr (by rw [V.int.injEq]))
theorem ev_neI {i j : Int} (ha : Ev ta σ H (.int i)) (hb : Ev tb σ H (.int j)) : Ev (tOp rNe ta tb) σ H (.bl (!decide (i = j))) := Evl.ev_is (Evl.ev_op ha hb (Evl.rv_ne rfl)) (by congr 2; exact decide_eq_decide.mpr (by rw [V.int.injEq]))
theorem gtup3 {T : Addr} {u v x : V} {i j k : Nat} {R : L2.St → Hp → Prop} (h : SqT K H T [u, v, x]) (q : R (((σ.set i (some u)).set j (some v)).set k (some x)) H) : gTup K 3 (gCons (gName i) (gCons (gName j) (gCons (gName k) gNil))) (.ref T) σ H R :=
  ⟨T, [u, v, x], rfl, h, rfl, u, [v, x], rfl, v, [x], rfl, x, [], rfl, rfl, q⟩
theorem q_asgGD {R : V → Hp → Prop} {g : TG} (h : ∀ Q : VK, (∀ v H2, R v H2 → Q v H2) → te σ H Q) (k : ∀ v H2, R v H2 → g v σ H2 (tz D)) : tSeq (tAsg te g) tz D σ H := h _ k
theorem ev_notInLI {ns : List Int} {n : Int} (ha : Ev ta σ H (.int n)) (hb : Evp tb σ H (IntsL K ns)) : Ev (tOp (rIn K true) ta tb) σ H (.bl (!decide (n ∈ ns))) := fun H1 e Q q =>
  ha H1 e _ fun H2 e2 => hb H2 (e.trans e2) _ fun v H3 e3 ⟨a, ev, s⟩ => ⟨a, _, ev, .inl s, rfl, flat_ints ns, by rw [inV_ints]; exact q H3 (e2.trans e3)⟩
theorem prs_ok (ps : List (Nat × Nat)) : SeqAt.shaped (.list (ps.map dz)) = true := shaped_of (GA.lst (GA.map (k := 1) (f := dz) dz_ok ps)) (by decide)
theorem frs_ok (qs : List Rat) : SeqAt.shaped (.tuple (qs.map dq)) = true := shaped_of (GA.tup (GA.map (k := 1) (f := dq) dq_ok qs)) (by decide)
theorem ints_ok (ns : List Int) : SeqAt.shaped (.tuple (ns.map PyData.int)) = true := shaped_of (GA.tup (GA.map (k := 0) (f := PyData.int) int_ok ns)) (by decide)
theorem dp_frsT (v : V) (H1 : Hp) (h : FrsT K qs v H1) : Dp K H1 v (.tuple (qs.map dq)) := by
  obtain ⟨a, xs, rfl, s, p⟩ := h
  exact .tup s (dp_frs p)
theorem dp_intsT {ns : List Int} (v : V) (H1 : Hp) (h : IntsT K ns v H1) : Dp K H1 v (.tuple (ns.map .int)) := by
  obtain ⟨a, rfl, s⟩ := h
  exact .tup s (dp_ints ns)
theorem dp_prsL {ps : List (Nat × Nat)} (v : V) (H1 : Hp) (h : PrsL K ps v H1) : Dp K H1 v (.list (ps.map dz)) := by
  obtain ⟨a, xs, rfl, s, p⟩ := h
  exact .lst (SqL.of s) (dp_prs p)
theorem eqv_frs (qs rs : List Rat) : PyData.eqv (.tuple (qs.map dq)) (.tuple (rs.map dq)) = decide (qs = rs) := by rw [PyData.eqv, eqvAll_map eqv_dq]
/-- the weirs that are not locked -/
def freeW (as ls : List Int) : List Int := ((List.range (as.length - 1)).filter fun i => !decide (((1 + i : Nat) : Int) ∈ ls)).map fun i => ((1 + i : Nat) : Int)
theorem freeW_given (as ls : List Int) : Evl.given (as.length - 1) (fun i => !decide (((1 + i : Nat) : Int) ∈ ls)) (fun i => V.int ((1 + i : Nat) : Int)) = (freeW as ls).map V.int := by
  unfold Evl.given freeW
  rw [List.map_map]
  rfl
theorem freeW_ok {k : Int} (h : k ∈ freeW as ls) : ∃ n : Nat, k = (n : Int) ∧ inRow as ls n = true := by
  unfold freeW at h
  obtain ⟨i, hi, rfl⟩ := List.mem_map.mp h
  obtain ⟨h1, h2⟩ := List.mem_filter.mp hi
  have h1 := List.mem_range.mp h1
  refine ⟨1 + i, rfl, inRow_ok.mpr ⟨by omega, by omega, ?_⟩⟩
  simpa using h2
theorem ord_ok {os : List Int} (h : ∀ x ∈ os, x ∈ freeW as ls) : ∃ ws : List Nat, os.map V.int = ordV ws ∧ ws.length = os.length ∧ ∀ n ∈ ws, inRow as ls n = true := by
  induction os with
  | nil => exact ⟨[], rfl, rfl, fun n h => by cases h⟩
  | cons k os ih =>
    obtain ⟨ws, e1, e2, e3⟩ := ih fun x hx => h x (List.mem_cons_of_mem _ hx)
    obtain ⟨n, rfl, hn⟩ := freeW_ok (h k (List.mem_cons_self ..))
    exact ⟨n :: ws, by rw [List.map_cons, e1]; rfl, by simp [e2], fun m hm => by
      rcases List.mem_cons.mp hm with rfl | hm
      · exact hn
      · exact e3 m hm⟩
end
end WD
set_option Elab.async false
set_option linter.all false
set_option maxRecDepth 100000
set_option maxHeartbeats 8000000
set_option exponentiation.threshold 500000
namespace WD
open PySem PySem.Spec PyProof.Rows L2 WR WK
open Evl (Ex Ev EvL EvU EvT EvA EvO RV ex_l ex_t)
section
variable {P : Program} {w : World} {K : PySem.W.Frag} {mg : Str → Option Value} {base : Heap} {H H' : Hp} {σ : L2.St} {C CO CS CT CN : Addr} {as ls : List Int} {qs : List Rat} {ws : List Nat} {te ta tb tc : TE} {D : Ends} {tz tu : TS} {d : Addr}
theorem sp_par3 {i j l : Nat} {t : TA} {S : List V → Hp → Prop} (h : Evpa t σ H S) (k : ∀ vs H1, Ex H H1 → S vs H1 → ∃ u v z, vs = [u, v, z] ∧ tz D (((σ.set i (some u)).set j (some v)).set l (some z)) H1) : tSeq (tPar3 i j l t) tz D σ H :=
  h H (Ex.refl H) _ fun vs H1 e p => k vs H1 e p
def Pas (t : TS) (σ : L2.St) (H : Hp) : Prop := ∀ H1, Ex H H1 → ∀ D' : Ends, (∀ H2, Ex H1 H2 → D'.nx σ H2) → t D' σ H1
theorem pas_if {c : TT} {t : TS} (h : EvT c σ H false) : Pas (tIfS c t tNext) σ H := fun H1 e D' k => Evl.s_if (h.mono e) (fun h => by cases h) fun _ H2 e2 => k H2 e2
theorem q_two {t1 u1 t2 u2 t3 u3 : TS} (h : (Pas t1 σ H ∧ Pas t2 σ H ∧ Pas t3 σ H) ∨ (Pas u1 σ H ∧ Pas u2 σ H ∧ Pas u3 σ H)) (R : ∀ H', Ex H H' → tz D σ H') :
    tSeq (fun D σ H => t1 D σ H ∨ u1 D σ H) (tSeq (fun D σ H => t2 D σ H ∨ u2 D σ H) (tSeq (fun D σ H => t3 D σ H ∨ u3 D σ H) tz)) D σ H := by
  rcases h with ⟨h1, h2, h3⟩ | ⟨h1, h2, h3⟩
  · exact .inl (h1 H (Ex.refl _) _ fun H2 e2 => .inl (h2 H2 e2 _ fun H3 e3 => .inl (h3 H3 (e2.trans e3) _ fun H4 e4 => R H4 ((e2.trans e3).trans e4))))
  · exact .inr (h1 H (Ex.refl _) _ fun H2 e2 => .inr (h2 H2 e2 _ fun H3 e3 => .inr (h3 H3 (e2.trans e3) _ fun H4 e4 => R H4 ((e2.trans e3).trans e4))))
theorem eqv_prs (ps qs : List (Nat × Nat)) : PyData.eqv (.list (ps.map dz)) (.list (qs.map dz)) = decide (ps = qs) := by rw [PyData.eqv, eqvAll_map eqv_dz]
theorem eqv_intsT (ns ms : List Int) : PyData.eqv (.tuple (ns.map .int)) (.tuple (ms.map .int)) = decide (ns = ms) := by rw [PyData.eqv, eqvAll_map eqv_int]
theorem ev_any {bs : List Bool} (h : Evp te σ H fun v H => ∃ a, v = .ref a ∧ SqL K H a (bs.map V.bl)) : Ev (tCB (rAny K) (tCons te tNil)) σ H (.bl (bs.any id)) := fun H1 e Q q =>
  h H1 e _ fun v H2 e2 ⟨a, ev, s⟩ => ⟨a, bs, by rw [ev], s, q H2 e2⟩
theorem LstP.falses {n : Nat} {v : V} (h : LstP n (fun _ v _ => v = .bl false) v H) : ∃ a, v = .ref a ∧ SqL K H a ((List.replicate n false).map V.bl) := by
  obtain ⟨a, xs, r, hx, hl, hF⟩ := h
  refine ⟨a, r, SqL.of ?_⟩
  rw [hx]
  congr 2
  apply List.ext_getElem (by simp [hl])
  intro i h1 h2
  have := hF i xs[i] (List.getElem?_eq_getElem h1)
  simp [this]
theorem any_rep (n : Nat) : (List.replicate n false).any id = false := by simp
/-! ### values out of a given list -/
def InTh (K : PySem.W.Frag) (L : List Th) : Hpr := fun v H => ∃ t, t ∈ L ∧ ThAt K t v H
instance mon_inTh {L : List Th} : Mon (InTh K L) := ⟨fun _ _ _ e ⟨t, h, p⟩ => ⟨t, h, mon_th.mo _ _ _ e p⟩⟩
theorem ev_ip {L : List Th} {n m : Int} (h : Th.p n m ∈ L) : Evp (tTup (tCons (tC (.int n)) (tCons (tC (.int m)) tNil))) σ H (InTh K L) := (evp_pair Evl.ev_c Evl.ev_c).imp fun v H1 _ p => ⟨_, h, p⟩
/-- draws from a new list of such values -/
theorem pick_new {L : List Th} {s : Addr} {ns : List Int} {n : Nat} {t : TA} (ha : Ev ta σ H (.ref d)) (hl : Evpa t σ H (fun vs H => vs.length = n ∧ AllV (InTh K L) vs H)) (hn : 3 ≤ n) (hn2 : n ≤ 1000) (dr : Dr K d s ns H) (Q : VK)
    (q : ∀ v H2, Ed d H H2 → Dr K d s ns H2 → InTh K L v (era d H2) → Q v H2) : tCl (spPick K) (fun _ => E0) (tCons ta (tCons (tLst t) tNil)) σ H Q := ha H (Ex.refl _) _ fun H1 e1 => hl H1 e1 _ fun vs H2 e2 ⟨hlen, hF⟩ => by
  refine ⟨Nat.le_trans (by omega : _ ≤ 1000) (by decide), fun l hl0 => ?_⟩
  have e12 := e1.trans e2
  have e3 : Ex H2 (upd H2 l (.lst vs)) := Ex.new hl0
  have d3 := dr.ex (e12.trans e3)
  obtain ⟨m, hm⟩ := d3.at_
  have hl' : upd H2 l (.lst vs) l = some (.lst vs) := upd_same
  have hld : l ≠ d := ne_of hl' hm (by intro q; simp only [HO.lst.injEq] at q; rw [q] at hlen; simp at hlen; omega)
  refine ⟨d, s, ns, l, vs, rfl, d3, SqL.of (era_at hl' hld), by omega, by omega, fun v H' hv e' d' => q v H' ((Ed.ex (e12.trans e3)).trans e') d' ?_⟩
  obtain ⟨t, ht, pt⟩ := hF v hv
  exact ⟨t, ht, mon_th.mo _ _ _ e'.era (th_era d3 (mon_th.mo _ _ _ e3 pt))⟩
/-! ### rounds_within, a width that is right -/
theorem ev_within {t : Th} {n : Nat} (h : Evp ta σ H (RowAt K C as qs ls)) (ho : Evp tb σ H (OrdP K ws)) (hw : Evp tc σ H (ThAt K t)) (S : Setup as ls ws qs) (h1 : t.isPart = true) (h2 : t.small) (h3 : 0 < t.val) (h4 : Bk 2200 t.val) (hn : n ≤ 12) (hlt : ∀ i, i < n → t.val < gapAt as qs ws i) (hge : ¬ t.val < gapAt as qs ws n) :
    Ev (tCl (spWithin K C CN) (fun _ => E0) (tCons ta (tCons tb (tCons tc tNil)))) σ H (.int (n : Nat)) := fun H1 e Q q =>
  h H1 e _ fun x H2 e2 r => ho H2 (e.trans e2) _ fun v H3 e3 ⟨o, ev, hs⟩ => hw H3 ((e.trans e2).trans e3) _ fun u H4 e4 hu =>
    ⟨x, o, u, as, qs, ls, ws, t, by rw [ev], mon_row.mo _ _ _ (e3.trans e4) r, hs.ex e4, S, hu, h2, .inl ⟨h1, h3, h4, n, hn, hlt, hge, fun H' e' => q H' (((e2.trans e3).trans e4).trans e')⟩⟩
/-- the first of those that are late -/
theorem late_head {f : Nat → Bool} {n : Nat} (h : (List.range n).filter f ≠ []) : ∃ m rest, (List.range n).filter f = m :: rest ∧ m < n ∧ f m = true ∧ ∀ i, i < m → f i = false := by
  cases hl : (List.range n).filter f with
  | nil => exact absurd hl h
  | cons m rest =>
    have e : ((List.range n).filter f).head? = some m := by rw [hl]; rfl
    rw [List.head?_filter, List.find?_range_eq_some] at e
    obtain ⟨h1, h2, h3⟩ := e
    exact ⟨m, rest, rfl, List.mem_range.mp h2, h1, fun i hi => by simpa using h3 i hi⟩
/-! ### a written tuple of such values -/
theorem eath_nil : Evpa tNil σ H (fun vs H => Ths K H vs []) := fun H1 _ _ q => q [] H1 (Ex.refl _) .nil
theorem eath_cons {t : Th} {ts : List Th} {t' : TA} (h : Evp te σ H (ThAt K t)) (ht : Evpa t' σ H (fun vs H => Ths K H vs ts)) : Evpa (tCons te t') σ H (fun vs H => Ths K H vs (t :: ts)) := fun H1 e Q q =>
  h H1 e _ fun v H2 e2 p => ht H2 (e.trans e2) _ fun vs H3 e3 s => q _ H3 (e2.trans e3) (.cons (mon_th.mo _ _ _ e3 p) s)
theorem evp_tupTh {ts : List Th} {t' : TA} (h : Evpa t' σ H (fun vs H => Ths K H vs ts)) (hl : ts.length ≤ 1000) : Evp (tTup t') σ H (TupTh K ts) :=
  evp_tup h (fun vs H1 s => Nat.le_trans (by rw [s.length]; exact hl) (by decide)) fun vs H1 p e s hp => ⟨p, vs, rfl, SqT.of upd_same, Paired.mapP s fun _ _ h => mon_th.mo _ _ _ (Ex.new hp) h⟩
theorem wi_ths {ts : List Th} (h : Evp te σ H (TupTh K ts)) : WiP (iTup K te) σ H ts.length (fun i H v H' => H' = H ∧ ∃ t, ts[i]? = some t ∧ ThAt K t v H) := fun H2 e2 R q => h H2 e2 _ fun v H3 e3 ⟨a, xs, ev, s, pp⟩ => by
  refine ⟨a, ev, ⟨xs, s⟩, q _ H3 (fun H' => SqT K H' a xs ∧ Ths K H' xs ts) e3 ?_ fun H4 e4 => ⟨ex_t e4 s, Paired.mapP pp fun _ _ h => mon_th.mo _ _ _ e4 h⟩⟩
  have hw := walk_tup (K := K) (a := a) (xs := xs)
  have hl := pp.length
  rw [hl] at hw
  exact hw.mono (fun _ h => h.1) fun i H x H' _ h yy => ⟨yy.1, Paired.get' h.2 yy.2⟩
end
end WD
set_option Elab.async false
set_option linter.all false
set_option maxRecDepth 100000
set_option maxHeartbeats 8000000
set_option exponentiation.threshold 500000
namespace WD
open PySem PySem.Spec PyProof.Rows L2 WR WK
open Evl (Ex Ev EvL EvU EvT EvA EvO RV ex_l ex_t)
section
variable {P : Program} {w : World} {K : PySem.W.Frag} {mg : Str → Option Value} {base : Heap} {H H' : Hp} {σ : L2.St} {C CO CS CT CN : Addr}
def spLaw (K : PySem.W.Frag) : Sp := fun vs H Q _ => ∃ (a : Addr) (ns : List Int), vs = [.ref a] ∧ SqL K H a (ns.map V.int) ∧ ns.length ≤ 63 ∧ ∀ H', Q (.bl true) H'
abbrev sLaw : Stmt := top 64
abbrev nLaw : List Str := ["_law_script", "_law_draw", "_law_areas", "_law_volumes", "_law_locks", "_law_row", "_law_told", "_law_weirs", "_law_order_here", "_law_goal", "_law_now", "_law_gaps", "_law_reached", "_law_turn", "_law_late", "_law_found", "_law_width", "_law_wrong", "error", "_law_weir", "_law_one", "_law_at", "_law_gap_here"]
theorem scLaw : FnScope nLaw ["_law_script"] (defScope sLaw) := ⟨rfl, rfl, rfl, by decide +kernel, rfl, by decide +kernel, by decide +kernel⟩
/-- all that the law calls -/
structure Lib (P : Program) (w : World) (K : PySem.W.Frag) (mg : Str → Option Value) (base : Heap) (C CO CS CT CN fRI fSI fTI fBS fBT fO : Addr) : Prop where
  B : Bl mg
  drawn : Cal P w K mg base CX0 4 "_law_drawn" (spDrawn K)
  take : Cal P w K mg base CX0 2 "_law_take" (spTake K)
  pick : Cal P w K mg base CX0 3 "_law_pick" (spPick K)
  order : Cal P w K mg base CX0 4 "_law_order" (spOrder K)
  parts : Cal P w K mg base CX0 1 "_law_parts_of" (spParts K)
  even : Cal P w K mg base CX0 4 "_law_even" (spLEven K)
  joined : Cal P w K mg base CX0 1 "_law_joined" (spLJoined K)
  gap : Cal P w K mg base CX0 5 "_law_gap" (spLGap K)
  lbeh : Cal P w K mg base CX0 5 "_law_behind" (spLBehind K)
  less : Cal P w K mg base CX0 1 "_law_less" (spLess K)
  plus : Cal P w K mg base CX0 3 "_law_plus" (spBin K (· + ·))
  row : RowTxt K mg C fRI
  rowI : FnR P w K mg base CX0 4 fRI (spInit K C)
  runs : Cal P w K mg base (L2.CX P w) 4 "runs" (spRuns K C CO)
  limit : Cal P w K mg base (L2.CX P w) 7 "limit" (spLimit K C CO)
  sett : Cal P w K mg base (L2.CX P w) 10 "settling" (spSettling K C CO CS CT)
  within : Cal P w K mg base (L2.CX P w) 9 "rounds_within" (spWithin K C CN)
  TS : OneTxt K mg "Settles" CS "rounds" fSI
  setI : FnR P w K mg base CX0 1 fSI (spOne CS "rounds")
  TT : OneTxt K mg "Tends" CT "width" fTI
  tenI : FnR P w K mg base CX0 1 fTI (spOne CT "width")
  shS : CalM P w K mg base CX0 10 CS "shows" (spShowS K C CS)
  shT : CalM P w K mg base CX0 10 CT "shows" (spShowT K C CT)
  OBS : Own K CS "__bool__" fBS
  bS : FnR P w K mg base CX0 1 fBS (spYes true)
  OBT : Own K CT "__bool__" fBT
  bT : FnR P w K mg base CX0 1 fBT (spYes false)
  TN : ErrTxt K mg "BadNumber" CN
  teN : PySem.W.exmOne K (.ref CN) (.ref CN) = some true
  TO : PySem.OrdX.OrdTxt P K mg CO fO
def wrongs0 : List Th := [.i 0, .p (-1) 2, .no, .p 1 0]
theorem ok_law {f fd fRI fSI fTI fBS fBT fO} (F : Fun K "law" "law" sLaw f fd) (T : Lib P w K mg base C CO CS CT CN fRI fSI fTI fBS fBT fO) : FnOk P w K mg base CX0 11 f fd ["_law_script"] (spLaw K) := by
  have B := T.B
  refine F.ok scLaw (fun vs H Q E h => ?_) (fun cdv A outer st H vs Q E hr h => ?_)
  · obtain ⟨a, ns, rfl, _⟩ := h
    rfl
  · obtain ⟨sa, ns, rfl, hs, hnl, k⟩ := h
    have hr1 : Room 1 _ := hr.mono (by decide)
    have hr2 : Room 2 _ := hr.mono (by decide)
    have hr3 : Room 3 _ := hr.mono (by decide)
    have hr4 : Room 4 _ := hr.mono (by decide)
    have hr5 : Room 5 _ := hr.mono (by decide)
    have hr7 : Room 7 _ := hr.mono (by decide)
    have hr9 : Room 9 _ := hr.mono (by decide)
    refine ⟨_, pss_cons (ps_set (i := 1) scLaw.nd rfl (Or.inl rfl) (pe_lst (pa_cons (pv 0) (pa_cons pe_int pa_nil))))
      (pss_cons (ps_asg (pe_c0 T.drawn hr4 (pa_cons (pv 1) (pa_cons pe_int pa_nil))) (pg_tup rfl (pgs_cons (pg_name (i := 2) scLaw.nd rfl (Or.inl rfl)) (pgs_cons (pg_name (i := 3) scLaw.nd rfl (Or.inl rfl)) (pgs_cons (pg_name (i := 4) scLaw.nd rfl (Or.inr rfl)) pgs_nil)))))
      (pss_cons (ps_par (i := 5) (j := 6) rfl scLaw.nd rfl rfl (by decide) rfl rfl (pa_cons (pe_mk T.row.mc T.rowI hr5 T.row.g pass0 (pa_cons (pv 2) (pa_cons (pv 3) (pa_cons (pv 4) pa_nil)))) (pa_cons (pe_c0 T.parts hr1 (pa_cons (pv 3) pa_nil)) pa_nil)) (by rfl))
      (pss_cons (ps_setLc (i := 7) (own := [("_law_weir", 19)]) (g := gName 19) rfl scLaw.nd rfl rfl (sw_true rfl rfl rfl (by decide +kernel)) (pi_range2 rfl B.rng (pa_cons pe_int (pa_cons (pe_callB call_len_seq rfl B.len (by decide +kernel) (pa_cons (pv 2) pa_nil)) pa_nil))) (blkOk_by (N := nLaw) (sc := defScope sLaw) (by decide +kernel))
        (fun _ _ _ _ _ => pg_name (i := 19) scLaw.nd rfl (Or.inl rfl)) (fun _ _ _ _ _ => pts_one (pt_cmpR (r := rIn K true) op_notIn_seq (pv 19) (pv 4) rfl)) (fun _ _ _ _ _ => pv 19))
      (pss_cons (ps_set (i := 8) scLaw.nd rfl (Or.inl rfl) (pe_c0 T.order hr4 (pa_cons (pv 1) (pa_cons (pv 7) (pa_cons (pe_c0 T.take hr2 (pa_cons (pv 1) (pa_cons pe_int pa_nil))) pa_nil)))))
      (pss_cons (ps_set (i := 9) scLaw.nd rfl (Or.inl rfl) (pe_c0 T.even hr4 (pa_cons (pv 2) (pa_cons (pv 6) (pa_cons (pv 8) pa_nil)))))
      (pss_cons (ps_if (PW.pt (pw_or (pt_cmpR (op_neD hr.units) (pe_cX T.runs hr4 (pa_cons (pv 5) (pa_cons (pv 8) pa_nil))) (pe_c0 T.joined hr1 (pa_cons (pe_callB call_len_seq rfl B.len (by decide +kernel) (pa_cons (pv 2) pa_nil)) (pa_cons (pv 8) pa_nil))) (nomark _))
        (pw_or (pt_cmpR (op_neD hr.units) (pe_fld (pe_cX T.limit hr7 (pa_cons (pv 5) (pa_cons (pv 8) pa_nil))) rfl) (pv 9) (nomark _)) (pw_or1 (pt_cmpR (op_neD hr.units) (pe_fld (pe_cX T.limit hr7 (pa_cons (pv 5) (pa_cons (pe_callTy call_tuple_of rfl B.tup (by decide +kernel) (pa_cons (pv 8) pa_nil)) pa_nil))) rfl) (pv 2) (nomark _)))))) (pss_one (ps_ret pe_bl)) pss_nil)
      (pss_cons (ps_par3 (i := 10) (j := 11) (l := 12) rfl scLaw.nd rfl rfl rfl (by decide) (by decide) (by decide) rfl rfl rfl (pa_cons (pv 6) (pa_cons (pe_lst pa_nil) (pa_cons pe_non pa_nil))) (by rfl))
      (pss_cons (ps_for PassesOwn.never rfl (pi_range1 rfl B.rng (pa_cons pe_int pa_nil)) (pg_name (i := 13) scLaw.nd rfl (Or.inl rfl))
        (pss_cons (ps_if (PW.pt (pw_and (pt_cmpR (op_eqD hr.units) (pv 10) (pv 9) (nomark _)) (pw_and1 (pt_cmpR op_isN (pv 12) pe_non (nomark _))))) (pss_one (ps_set (i := 12) scLaw.nd rfl (Or.inl rfl) (pv 13))) pss_nil)
        (pss_cons (ps_expr (pe_bm PySem.F.plainAttrs_list PySem.F.slot_list_append PySem.F.type_list_append mt_append (pv 11) (pa_cons (pe_c0 T.gap hr5 (pa_cons (pv 2) (pa_cons (pv 10) (pa_cons (pv 9) pa_nil)))) pa_nil)))
        (pss_one (ps_set (i := 10) scLaw.nd rfl (Or.inl rfl) (pe_c0 T.lbeh hr5 (pa_cons (pv 2) (pa_cons (pv 10) (pa_cons (pv 8) pa_nil)))))))))
      (pss_cons (ps_if (pt_val (pe_callB (cr_any rfl) rfl B.any (by decide +kernel) (pa_cons (pe_lc (own := [("_law_one", 20), ("_law_late", 14)]) (g := gTup K 2 (gCons (gName 20) (gCons (gName 14) gNil))) (tt := tYes) rfl scLaw.nd (RZ.pi_zipA rfl B.zip (pa_cons (pv 11) (pa_cons (pe_slice sl_list (pv 11) (po_some pe_int) po_none) pa_nil))) (blkOk_by (N := nLaw) (sc := defScope sLaw) (by decide +kernel))
        (fun _ _ _ _ _ => pg_tup rfl (pgs_cons (pg_name (i := 20) scLaw.nd rfl (Or.inl rfl)) (pgs_cons (pg_name (i := 14) scLaw.nd rfl (Or.inl rfl)) pgs_nil))) (fun _ _ _ _ _ => pts_nil) (fun _ _ _ _ _ => pe_c0 T.less hr1 (pa_cons (pv 20) (pa_cons (pv 14) pa_nil)))) pa_nil))) (pss_one (ps_ret pe_bl)) pss_nil)
      (pss_cons (ps_set (i := 15) scLaw.nd rfl (Or.inl rfl) (pe_cX T.sett hr (pa_cons (pv 5) (pa_cons (pv 8) pa_nil))))
      (pss_cons (ps_or
        (ps_if (PW.pt (pw_or (pt_cmpR op_ne (pe_callTy (call_boolO T.OBS T.bS hr3 (fun _ _ _ _ _ _ _ h => h.elim)) rfl B.bool (by decide +kernel) (pa_cons (pv 15) pa_nil)) (pe_cmpR op_notN (pv 12) pe_non (nomark _)) (nomark _)) (pw_or (pt_not (pt_val (pe_m0 (pv 15) T.TS.cl T.shS hr (pa_cons (pv 5) (pa_cons (pv 8) pa_nil)))))
          (pw_or1 (PW.pt (pw_and (pt_cmpR op_notN (pv 12) pe_non (nomark _)) (pw_and1 (pt_cmpR op_gt (pv 12) (pe_callB call_len_seq rfl B.len (by decide +kernel) (pa_cons (pv 2) pa_nil)) (nomark _))))))))) (pss_one (ps_ret pe_bl)) pss_nil)
        (ps_if (PW.pt (pw_or (pt_cmpR op_ne (pe_callTy (call_boolO T.OBT T.bT hr3 (fun _ _ _ _ _ _ _ h => h.elim)) rfl B.bool (by decide +kernel) (pa_cons (pv 15) pa_nil)) (pe_cmpR op_notN (pv 12) pe_non (nomark _)) (nomark _)) (pw_or (pt_not (pt_val (pe_m0 (pv 15) T.TT.cl T.shT hr (pa_cons (pv 5) (pa_cons (pv 8) pa_nil)))))
          (pw_or1 (PW.pt (pw_and (pt_cmpR op_notN (pv 12) pe_non (nomark _)) (pw_and1 pt_no))))))) (pss_one (ps_ret pe_bl)) pss_nil))
      (pss_cons (ps_or
        (ps_if (PW.pt (pw_and (pt_truO (r := rTruO CS (spYes true)) (pv 15) (fun pins s σ H x v Q I rx h => truO T.OBS T.bS hr1 rfl (fun _ _ _ _ _ _ _ h => h.elim) I rx h)) (pw_and1 (PW.pt (pw_or (pt_cmpR op_ne (pe_fld (pv 15) rfl) (pv 12) (nomark _)) (pw_or (pt_val (pe_m0 (pe_mk T.TS.mc T.setI hr2 T.TS.g pass0 (pa_cons (pe_op op_add (pv 12) pe_int) pa_nil)) T.TS.cl T.shS hr (pa_cons (pv 5) (pa_cons (pv 8) pa_nil))))
          (pw_or1 (PW.pt (pw_and (pt_cmpR op_gt (pv 12) pe_int (nomark _)) (pw_and1 (pt_val (pe_m0 (pe_mk T.TS.mc T.setI hr2 T.TS.g pass0 (pa_cons (pe_op op_sub (pv 12) pe_int) pa_nil)) T.TS.cl T.shS hr (pa_cons (pv 5) (pa_cons (pv 8) pa_nil)))))))))))))) (pss_one (ps_ret pe_bl)) pss_nil)
        (ps_if (PW.pt (pw_and (pt_truO (r := rTruO CT (spYes false)) (pv 15) (fun pins s σ H x v Q I rx h => truO T.OBT T.bT hr1 rfl (fun _ _ _ _ _ _ _ h => h.elim) I rx h)) (pw_and1 pt_no))) (pss_one (ps_ret pe_bl)) pss_nil))
      (pss_cons (ps_or
        (ps_if (PW.pt (pw_and (pt_not (pt_truO (r := rTruO CS (spYes true)) (pv 15) (fun pins s σ H x v Q I rx h => truO T.OBS T.bS hr1 rfl (fun _ _ _ _ _ _ _ h => h.elim) I rx h))) (pw_and1 pt_no))) (pss_one (ps_ret pe_bl)) pss_nil)
        (ps_if (PW.pt (pw_and (pt_not (pt_truO (r := rTruO CT (spYes false)) (pv 15) (fun pins s σ H x v Q I rx h => truO T.OBT T.bT hr1 rfl (fun _ _ _ _ _ _ _ h => h.elim) I rx h))) (pw_and1 (PW.pt (pw_or (pt_cmpR (op_neD hr.units) (pe_fld (pv 15) rfl) (pe_ix ix_list (pv 11) (pe_callB call_len_seq rfl B.len (by decide +kernel) (pa_cons (pv 2) pa_nil)) (fun _ _ => rfl)) (nomark _))
          (pw_or (pt_val (pe_m0 (pe_mk T.TT.mc T.tenI hr2 T.TT.g pass0 (pa_cons (pe_c0 T.plus hr3 (pa_cons (pe_fld (pv 15) rfl) (pa_cons (pe_tup (pa_cons pe_int (pa_cons pe_int pa_nil))) pa_nil))) pa_nil)) T.TT.cl T.shT hr (pa_cons (pv 5) (pa_cons (pv 8) pa_nil))))
          (pw_or1 (pt_val (pe_m0 (pe_mk T.TT.mc T.tenI hr2 T.TT.g pass0 (pa_cons (pe_tup (pa_cons pe_int (pa_cons pe_int pa_nil))) pa_nil)) T.TT.cl T.shT hr (pa_cons (pv 5) (pa_cons (pv 8) pa_nil))))))))))) (pss_one (ps_ret pe_bl)) pss_nil))
      (pss_cons (ps_set (i := 16) scLaw.nd rfl (Or.inr rfl) (pe_c0 T.pick hr3 (pa_cons (pv 1) (pa_cons (pe_lst (pa_cons (pe_tup (pa_cons pe_int (pa_cons pe_int pa_nil))) (pa_cons (pe_tup (pa_cons pe_int (pa_cons pe_int pa_nil))) (pa_cons (pe_tup (pa_cons pe_int (pa_cons pe_int pa_nil))) (pa_cons (pe_tup (pa_cons pe_int (pa_cons pe_int pa_nil))) pa_nil))))) pa_nil))))
      (pss_cons (ps_setLc (i := 14) (own := [("_law_at", 21), ("_law_gap_here", 22)]) (g := gTup K 2 (gCons (gName 21) (gCons (gName 22) gNil))) rfl scLaw.nd rfl rfl (sw_true rfl rfl rfl (by decide +kernel)) (pi_enum rfl B.enu (pa_cons (pv 11) pa_nil)) (blkOk_by (N := nLaw) (sc := defScope sLaw) (by decide +kernel))
        (fun _ _ _ _ _ => pg_tup rfl (pgs_cons (pg_name (i := 21) scLaw.nd rfl (Or.inl rfl)) (pgs_cons (pg_name (i := 22) scLaw.nd rfl (Or.inl rfl)) pgs_nil))) (fun _ _ _ _ _ => pts_one (pt_not (pt_val (pe_c0 T.less hr1 (pa_cons (pv 16) (pa_cons (pv 22) pa_nil)))))) (fun _ _ _ _ _ => pv 21))
      (pss_cons (ps_if (PW.pt (pw_and (pt_cmpR (op_neD hr.units) (pv 14) (pe_lst pa_nil) (nomark _)) (pw_and1 (pt_cmpR op_ne (pe_cX T.within hr9 (pa_cons (pv 5) (pa_cons (pv 8) (pa_cons (pv 16) pa_nil)))) (pe_ix ix_list (pv 14) pe_int (fun _ _ => rfl)) (nomark _))))) (pss_one (ps_ret pe_bl)) pss_nil)
      (pss_cons (ps_for PassesOwn.never rfl (pi_tup (pe_tup (pa_cons pe_int (pa_cons (pe_tup (pa_cons (pe_un un_neg pe_int) (pa_cons pe_int pa_nil))) (pa_cons pe_non (pa_cons (pe_tup (pa_cons pe_int (pa_cons pe_int pa_nil))) pa_nil)))))) (pg_name (i := 17) scLaw.nd rfl (Or.inl rfl))
        (pss_one (ps_try_only (tb := fun W => tSeq (tDrop (tCl (spWithin K C CN) (WE W) (tCons (tVar 5) (tCons (tVar 8) (tCons (tVar 17) tNil))))) (tRet (tC (.bl false)))) (ts := fun _ _ _ => tNext) (Wout := fun _ _ _ _ => False) rfl rfl ⟨rfl, by decide, .inl T.TN.g⟩ takes0
          (fun W pn xe tk _ => pss_cons (ps_expr (by exact (pe_cE tk T.within hr9 (by exact (pa_cons (pv 5) (pa_cons (pv 8) (pa_cons (pv 17) pa_nil))))))) (pss_one (ps_ret pe_bl)))
          (fun a oe cls d pn _ _ => pss_one ps_pass))))
      (pss_cons (ps_try_as (i := 18) (tb := fun W => tDrop (tCl (spSettling K C CO CS CT) (WE W) (tCons (tVar 5) (tCons (tLst (tCons (tCB (Evl.rLenS K) (tCons (tVar 2) tNil)) tNil)) tNil)))) (ts := fun a cls d => tRet (tOp rEq (tByOrd CO a cls d (tVar 18)) (tC (.int 0)))) (Wout := fun _ _ _ _ => False) rfl rfl scLaw.nd rfl rfl ⟨rfl, by decide, .inl T.TO.gC⟩ takes0
          (fun W pn xe tk _ => pss_one (ps_expr (by exact (pe_cE tk T.sett hr (by exact (pa_cons (pv 5) (pa_cons (pe_lst (pa_cons (pe_callB call_len_seq rfl B.len (by decide +kernel) (pa_cons (pv 2) pa_nil)) pa_nil)) pa_nil)))))))
          (fun a oe cls d pn hz hf => pss_one (ps_ret (by exact (pe_cmpR op_eq (pe_byOrd T.TO hz hf (pv 18)) pe_int (nomark _))))))
      (pss_one (ps_ret pe_bl)))))))))))))))))))), ?_⟩
    -- the draw
    refine Evl.q_asgL (Evl.el_lst (Evl.ea_cons (Evl.ev_var rfl) (Evl.ea_cons Evl.ev_c Evl.ea_nil)) (by show 2 ≤ 100000; decide)) fun d H1 hd e1 h1 => ?_
    have dr1 : Dr K d sa ns H1 := ⟨⟨0, h1⟩, ex_l (fun b o hb => era_at (e1 _ _ hb) (ne_of_none hb hd)) hs, hnl⟩
    -- areas, volumes, locks
    refine q_asgGD (R := fun v H2 => ∃ (T' : Addr) (a v' : V) (l : Addr) (as ls : List Int) (ts : List Th), v = .ref T' ∧ Ed d H1 H2 ∧ Dr K d sa ns H2 ∧ H2 T' = some (.tup [a, v', .ref l]) ∧ IntsT K as a (era d H2) ∧ TupTh K ts v' (era d H2) ∧ H2 l = some (.lst (ls.map V.int)) ∧ l ≠ d ∧ Geo as ls ∧ ts.length = as.length ∧ ∀ t ∈ ts, t ∈ vols0)
      (fun Q' q' => ⟨.ref d, rfl, d, sa, ns, rfl, dr1, fun T' a v' l as ls ts H2 c1 c2 c3 c4 c5 c6 c7 c8 c9 c10 => q' _ H2 ⟨T', a, v', l, as, ls, ts, rfl, c1, c2, c3, c4, c5, c6, c7, c8, c9, c10⟩⟩) fun v2 H2 ⟨T', ar, vo', l, as, ls, ts, ev2, e2, dr2, hT, ha, hv, hl, hld, g, htl, hvs⟩ => ?_
    subst ev2
    refine gtup3 (SqT.of hT) ?_
    obtain ⟨aa, rfl, haa⟩ := id ha
    obtain ⟨av, xs0, rfl, hav, hth⟩ := id hv
    have g2 : Ex (era d H2) H2 := era_ex d H2
    have g6 := g.n6
    have inv : RowInv 0 as (ts.map Th.val) := geo_inv g htl hvs
    -- row, told
    have hrow := evp_row (K := K) (C := C) (σ := [some (.ref sa), some (.ref d), some (.ref aa), some (.ref av), some (.ref l), none, none, none, none, none, none, none, none, none, none, none, none, none, none, none, none, none, none]) (H := H2) (t := tCons (tVar 2) (tCons (tVar 3) (tCons (tVar 4) tNil))) (ts := ts) (as := as) (ls := ls) (eap_ea (Evl.ea_cons (Evl.ev_var rfl) (Evl.ea_cons (Evl.ev_var rfl) (Evl.ea_cons (Evl.ev_var rfl) Evl.ea_nil)))) (geo_rowOk g htl hvs)
      fun vs H3 e3 ev => ⟨aa, av, l, xs0, ev, ex_t (g2.trans e3) haa, ex_t (g2.trans e3) hav, Paired.mapP hth fun _ _ h => mon_th.mo _ _ _ (g2.trans e3) h, .inl (SqL.of (e3 _ _ hl))⟩
    have htold := evp_parts (σ := [some (.ref sa), some (.ref d), some (.ref aa), some (.ref av), some (.ref l), none, none, none, none, none, none, none, none, none, none, none, none, none, none, none, none, none, none]) (te := tVar 3) (.var (P := TupTh K ts) rfl (mon_tupTh.mo _ _ _ g2 hv)) (by omega) (fun t ht => (vols0_ok t (hvs t ht)).2.2.2.1)
    generalize ts.map Th.val = qs at *
    refine sp_par (eap2 hrow htold) fun vs H3 e3 ⟨x, td, ev, rx, rtd⟩ => ⟨x, td, ev, ?_⟩
    have dr3 := dr2.ex e3
    have ha3 : IntsT K as (.ref aa) H3 := mon_intsT.mo _ _ _ (g2.trans e3) ha
    have hl3 := e3 _ _ hl
    -- weirs
    refine Evl.q_asgL (evl_lcF (n := as.length - 1) (wi_r2 (lo := 1) (m := as.length) Evl.ev_c (ev_intsLen (.var rfl ha3)) (by decide) (by omega)) (fun i => !decide (((1 + i : Nat) : Int) ∈ ls)) (fun i => V.int ((1 + i : Nat) : Int)) (by omega) ?_) fun wl H4 hwl e4 h4 => ?_
    · rintro i z H5 H6 hi e5 ⟨rfl, rfl⟩
      exact ⟨Ex.refl _, _, fun R r => r, rfl, Evl.et_test (ev_notInLI (Evl.ev_var rfl) (.var (P := IntsL K ls) rfl ⟨l, rfl, SqL.of (e5 _ _ hl3)⟩)), fun _ => Evl.ev_var rfl⟩
    rw [freeW_given] at h4
    have dr4 := dr3.ex e4
    have hwd : wl ≠ d := ne_dr dr3 hwl
    -- the order
    refine q_asgD (R := fun v H5 => ∃ (o : Addr) (os : List Int), v = .ref o ∧ Ed d H4 H5 ∧ Dr K d sa ns H5 ∧ o ≠ d ∧ H5 o = some (.lst (os.map V.int)) ∧ os.length ≤ 5 ∧ ∀ z ∈ os, z ∈ freeW as ls) (fun Q' q' => ⟨.ref d, rfl, .ref wl, rfl, take_r (K := K) (d := d) (s := sa) (ns := ns) (Evl.ev_var rfl) Evl.ev_c (by decide : (0 : Int) < 6) dr4 _ fun r H5 r0 r1 e5 d5 => (by
      obtain ⟨m, rfl⟩ : ∃ m : Nat, r = (m : Int) := ⟨r.toNat, by omega⟩
      refine ⟨d, sa, ns, wl, freeW as ls, m, rfl, d5, SqL.of (e5.era _ _ (era_at h4 hwd)), ?_, by omega, fun o os H' c1 c2 c3 c4 c5 c6 => q' _ H' ⟨o, os, rfl, e5.trans c1, c2, c3, c4, by omega, c6⟩⟩
      have := Evl.given_len (as.length - 1) (fun i => !decide (((1 + i : Nat) : Int) ∈ ls)) (fun i => V.int ((1 + i : Nat) : Int))
      rw [freeW_given, List.length_map] at this
      omega)⟩) fun v5 H5 ⟨o, os, ev5, e5, dr5, hod, ho, hol, hos⟩ => ?_
    subst ev5
    obtain ⟨ws, ews, hwl5, hin⟩ := ord_ok hos
    rw [ews] at ho
    have S : Setup as ls ws qs := ⟨g, ⟨hin, by omega⟩, inv⟩
    have n1 := g.n1
    obtain ⟨m4, hm4⟩ := dr4.at_
    have hx5 : RowAt K C as qs ls x H5 := keepE hm4 (mon_row.mo _ _ _ e4 rx) e5
    have htd5 : FrsT K qs td H5 := keepE hm4 (mon_frsT.mo _ _ _ e4 rtd) e5
    have ha5 : IntsT K as (.ref aa) H5 := keepE hm4 (mon_intsT.mo _ _ _ e4 ha3) e5
    have ho5 : SqA K H5 o (ordV ws) := .inl (SqL.of ho)
    have hX : ∀ {σ : L2.St} {H' : Hp}, Ex H5 H' → σ[5]? = some (some x) → Evp (tVar 5) σ H' (RowAt K C as qs ls) := fun e h => .var h (mon_row.mo _ _ _ e hx5)
    have hA : ∀ {σ : L2.St} {H' : Hp}, Ex H5 H' → σ[2]? = some (some (.ref aa)) → Evp (tVar 2) σ H' (IntsT K as) := fun e h => .var h (mon_intsT.mo _ _ _ e ha5)
    have hO : ∀ {σ : L2.St} {H' : Hp}, Ex H5 H' → σ[8]? = some (some (.ref o)) → Evp (tVar 8) σ H' (OrdP K ws) := fun e h => .var h (mon_ord.mo _ _ _ e ⟨o, rfl, ho5⟩)
    have hLen : ∀ {σ : L2.St} {H' : Hp}, Ex H5 H' → σ[2]? = some (some (.ref aa)) → Ev (tCB (Evl.rLenS K) (tCons (tVar 2) tNil)) σ H' (.int (as.length : Int)) := fun e h => ev_intsLen (hA e h)
    -- the goal
    refine sp_set (evp_lEven (hA (Ex.refl _) rfl) (.var (P := FrsT K qs) rfl htd5) (hO (Ex.refl _) rfl) S) fun vg H6 e6 pg => ?_
    have hOT : ∀ {σ : L2.St} {H' : Hp}, Ex H5 H' → σ[8]? = some (some (.ref o)) → Evp (tCB (rTupOf K) (tCons (tVar 8) tNil)) σ H' (OrdP K ws) := fun e h => evp_tupOf (P := fun v H => v = .ref o ∧ SqL K H o (ordV ws)) (Evp.of (Evl.ev_var h) fun H2 e2 => ⟨rfl, SqL.of ((e.trans e2) _ _ ho)⟩) fun v H' _ ⟨ev, s⟩ => ⟨o, ordV ws, ev, s, fun p hp => ⟨p, rfl, .inr (SqT.of upd_same)⟩⟩
    refine Evl.q_if (b := false) (Evl.et_is (Evl.et_or (a := false) (Evl.et_test (evp_neD (b := false) (evp_runs (hX e6 rfl) (hO e6 rfl) S) (evp_joined (hLen e6 rfl) (hO e6 rfl) n1 g6) mon_prsL dp_prsL dp_prsL (prs_ok _) (prs_ok _) (by rw [eqv_prs]; simp))) fun _ =>
      Evl.et_or (a := false) (Evl.et_test (evp_neD (b := false) (evp_vols T.row (evp_limitP (hX e6 rfl) (hO e6 rfl) S)) (.var (P := FrsT K (goalR as qs ws)) rfl pg) mon_frsT dp_frsT dp_frsT (frs_ok _) (frs_ok _) (by rw [eqv_frs]; simp))) fun _ =>
      Evl.et_test (evp_neD (b := false) (evp_areas T.row (evp_limitP (hX e6 rfl) (hOT e6 rfl) S)) (hA e6 rfl) mon_intsT dp_intsT dp_intsT (ints_ok _) (ints_ok _) (by rw [eqv_intsT]; simp))) rfl) (fun h => by cases h) (fun _ H7 e7 => ?_)
    have e57 := e6.trans e7
    have pg7 := mon_frsT.mo _ _ _ e7 pg
    have htd7 := mon_frsT.mo _ _ _ e57 htd5
    -- now, gaps, reached
    refine sp_par3 (eap3 (P := FrsT K qs) (R := fun v H => ∃ gl, v = .ref gl ∧ H gl = some (.lst []) ∧ H7 gl = none) (.var rfl htd7) (fun H8 e8 Q8 q8 => Evl.el_lst Evl.ea_nil (by show 0 ≤ 100000; decide) H8 (Ex.refl _) _ fun gl H9 hgl e9 h9 => q8 _ H9 e9 ⟨gl, rfl, h9, Evl.fresh_back e8 hgl⟩) (ev_evp (Evl.ev_c (v := .non))) (m2 := ⟨fun _ _ _ e ⟨gl, a, b, c⟩ => ⟨gl, a, e _ _ b, c⟩⟩))
      fun vs H8 e8 ⟨u1, u2, u3, ev, pn, ⟨gl, egl, hgl8, hgl⟩, en⟩ => ⟨u1, u2, u3, ev, ?_⟩
    subst egl en
    -- thirteen looks
    refine Evl.q_forR1 (n := 13) (Evl.ea_cons Evl.ev_c Evl.ea_nil) (by omega) (fun i σ' H' => ∃ vn xs tn, σ' = [some (.ref sa), some (.ref d), some (.ref aa), some (.ref av), some (.ref l), some x, some td, some (.ref wl), some (.ref o), some vg, some vn, some (.ref gl), some (rchV (reach as qs ws i)), tn, none, none, none, none, none, none, none, none, none] ∧
        Ex H7 H' ∧ H' gl = some (.lst xs) ∧ xs.length = i ∧ (∀ j y, xs[j]? = some y → FrAt K (gapAt as qs ws j) y H') ∧ FrsT K (roundsR as ws i qs) vn H') (fun H9 e9 => ⟨u1, [], none, rfl, e8.trans e9, e9 _ _ hgl8, rfl, (fun j y h => by simp at h), mon_frsT.mo _ _ _ e9 pn⟩) ?_ ?_
    · rintro i σ' H9 hi ⟨vn, xs, tn, rfl, e9, hg9, hxl, hgs, pvn⟩
      have hi12 : i ≤ 12 := by omega
      have e59 := e57.trans e9
      have pg9 := mon_frsT.mo _ _ _ e9 pg7
      refine Evl.q_ifAsg (b := hit as qs ws i && decide (rchV (reach as qs ws i) = .non)) (v := rchV (reach as qs ws (i + 1))) (Evl.et_and (Evl.et_test (evp_eqD (b := hit as qs ws i) (.var (P := FrsT K (roundsR as ws i qs)) rfl pvn) (.var (P := FrsT K (goalR as qs ws)) rfl pg9) mon_frsT dp_frsT dp_frsT (frs_ok _) (frs_ok _) (eqv_frs _ _))) fun _ => Evl.et_test (ev_isNone (Evl.ev_var rfl))) (fun hb => ?_) (fun hb => ?_) fun H10 e10 => ?_
      · rw [Bool.and_eq_true] at hb
        have hn : reach as qs ws i = none := by
          cases hr : reach as qs ws i with
          | none => rfl
          | some t =>
            have := of_decide_eq_true hb.2
            rw [hr] at this
            cases this
        have : reach as qs ws (i + 1) = some i := by rw [reach_next, hn]; simp [hb.1]
        rw [this]
        exact Evl.ev_var rfl
      · have : reach as qs ws (i + 1) = reach as qs ws i := by
          rw [reach_next]
          cases hr : reach as qs ws i with
          | some t => rfl
          | none =>
            rw [hr] at hb
            have hh : hit as qs ws i = false := by simpa [rchV] using hb
            simp [hh]
        rw [this]
        rfl
      have e9' := e9.trans e10
      have e510 := e59.trans e10
      obtain ⟨invi, hei⟩ := S.at (show i ≤ 13 by omega)
      have hei : i * ws.length ≤ 63 := Nat.le_trans (Nat.mul_le_mul hi12 S.ok.sm) (by decide)
      refine q_appP (e10 _ _ hg9) (Evl.ev_var rfl) (evp_lGap (hA e510 rfl) (.var (P := FrsT K (roundsR as ws i qs)) rfl (mon_frsT.mo _ _ _ e10 pvn)) (.var (P := FrsT K (goalR as qs ws)) rfl (mon_frsT.mo _ _ _ e10 pg9)) (S.dis (by omega))) (by omega) fun vgap H11 e11 pgap => ?_
      have hg11 : H11 gl = some (.lst xs) := e11 _ _ (e10 _ _ hg9)
      have pvn11 := lf_frsT.lf _ _ _ _ (xs ++ [vgap]) hg11 (mon_frsT.mo _ _ _ (e10.trans e11) pvn)
      have e712 : Ex H7 (upd H11 gl (.lst (xs ++ [vgap]))) := Ex.mut (e9'.trans e11) hgl
      have hg12 : upd H11 gl (.lst (xs ++ [vgap])) gl = some (.lst (xs ++ [vgap])) := upd_same
      have hgs12 : ∀ j y, (xs ++ [vgap])[j]? = some y → FrAt K (gapAt as qs ws j) y (upd H11 gl (.lst (xs ++ [vgap]))) := by
        intro j y hj
        by_cases hjl : j < xs.length
        · rw [List.getElem?_append_left hjl] at hj
          exact lf_pr.lf _ _ _ _ _ hg11 (PrAt.mono (e10.trans e11) (hgs j y hj))
        · have h1 := (List.getElem?_eq_some_iff.mp hj).1
          rw [List.length_append, List.length_singleton] at h1
          have ej : j = xs.length := by omega
          subst ej
          rw [List.getElem?_append_right (Nat.le_refl _)] at hj
          simp at hj
          subst hj
          rw [hxl]
          exact lf_pr.lf _ _ _ _ _ hg11 pgap
      generalize upd H11 gl (.lst (xs ++ [vgap])) = H12 at *
      have e512 := e57.trans e712
      refine sp_set1 (P := FrsT K (roundsR as ws (i + 1) qs)) (evp_lBehind (hA e512 rfl) (.var (P := FrsT K (roundsR as ws i qs)) rfl pvn11) (hO e512 rfl) g S.ok invi hei) fun vn2 H13 e13 pn2 => ?_
      exact ⟨vn2, xs ++ [vgap], _, rfl, e712.trans e13, e13 _ _ hg12, by rw [List.length_append, hxl]; rfl, fun j y hj => PrAt.mono e13 (hgs12 j y hj), pn2⟩
    rintro σ' H9 ⟨vn, xs, tn, rfl, e9, hg9, hxl, hgs, pvn⟩
    have hxl : xs.length = 13 := hxl
    have e59 := e57.trans e9
    rw [show (13 : Int).toNat = 13 from rfl, S.reach13]
    -- no gap grows
    have hlc : Evp (tLc (RZ.iZipA K (tCons (tVar 11) (tCons (tSl (rSlL K) (tVar 11) (tPart (tC (.int 1))) tNoPart) tNil))) (gTup K 2 (gCons (gName 20) (gCons (gName 14) gNil))) tYes (tCl (spLess K) (fun _ => E0) (tCons (tVar 20) (tCons (tVar 14) tNil))) [20, 14]) [some (.ref sa), some (.ref d), some (.ref aa), some (.ref av), some (.ref l), some x, some td, some (.ref wl), some (.ref o), some vg, some vn, some (.ref gl), some (rchV (firstHit as qs ws)), tn, none, none, none, none, none, none, none, none, none] H9 (fun v H => ∃ a, v = .ref a ∧ SqL K H a ((List.replicate 12 false).map V.bl)) := by
      have hcut : cutV xs (some 1) none = xs.drop 1 := by
        simp [cutV, HT.sIx, hxl]
        exact List.take_of_length_le (by rw [List.length_tail]; omega)
      refine lc_zipE (eap2 (P := fun v H => v = .ref gl ∧ H gl = some (.lst xs)) (R := fun v H => ∃ p, v = .ref p ∧ H p = some (.lst (xs.drop 1))) (Evp.of (Evl.ev_var rfl) fun H' e => ⟨rfl, e _ _ hg9⟩) (fun H' e Q' q' => by
        refine Evl.el_sl (K := K) (lo := some 1) (hi := none) (Evl.ev_var rfl) (Evl.eo_some Evl.ev_c) Evl.eo_none (SqL.of (e _ _ hg9)) H' (Ex.refl _) Q' fun p H'' hp e'' h'' => q' _ H'' e'' ⟨p, rfl, ?_⟩
        rw [← hcut]
        exact h'') (m := ⟨fun _ _ _ e ⟨a, b⟩ => ⟨a, e _ _ b⟩⟩)) fun vs H10 e10 ⟨y, z, ev, ⟨ey, hy⟩, p, ez, hz⟩ => ⟨gl, p, xs, xs.drop 1, by rw [ev, ey, ez], SqL.of hy, SqL.of hz, ?_⟩
      refine (evp_lc (wi := fun σ H R => R (Itz K gl p) H) (n := 12) (Y := YPair (fun i => xs[i]?) (fun i => (xs.drop 1)[i]?)) ?_ (fun _ v _ => v = .bl false) (fun _ => mon_eq) (fun _ => lf_eq) (by decide) ?_).imp fun v H11 _ h => LstP.falses h
      · have := wi_itz (K := K) (σ := [some (.ref sa), some (.ref d), some (.ref aa), some (.ref av), some (.ref l), some x, some td, some (.ref wl), some (.ref o), some vg, some vn, some (.ref gl), some (rchV (firstHit as qs ws)), tn, none, none, none, none, none, none, none, none, none]) (SqL.of (K := K) hy) (SqL.of (K := K) hz)
        rw [show min xs.length (xs.drop 1).length = 12 by rw [List.length_drop]; omega] at this
        exact this
      · rintro i zz H11 H12 hi e11 yy
        obtain ⟨e12, T2, u, v, rfl, hT2, hu, hv⟩ := YPair.use (K := K) yy
        have hv' : xs[i + 1]? = some v := by
          have : (xs.drop 1)[i]? = some v := hv
          rw [List.getElem?_drop, Nat.add_comm] at this
          exact this
        have e912 := (e10.trans e11).trans e12
        refine ⟨e12, _, fun R r => gtup2 hT2 r, rfl, ev_evp (Evl.ev_is (ev_lessF (.var (P := FrAt K (gapAt as qs ws i)) rfl (PrAt.mono e912 (hgs i u hu))) (.var (P := FrAt K (gapAt as qs ws (i + 1))) rfl (PrAt.mono e912 (hgs (i + 1) v hv'))) (S.gapBk (by omega)) (S.gapBk (by omega))) ?_)⟩
        congr 1
        exact decide_eq_false (Rat.not_lt.mpr (S.falls i))
    refine Evl.q_if (b := false) (Evl.et_is (Evl.et_B (ev_any (bs := List.replicate 12 false) hlc)) (any_rep 12)) (fun h => by cases h) (fun _ H10 e10 => ?_)
    have e510 := e59.trans e10
    -- found
    refine sp_set (evp_settP (hX e510 rfl) (hO e510 rfl) S) fun vf H11 e11 pf => ?_
    have e511 := e510.trans e11
    have e911 := e10.trans e11
    have hgs11 : ∀ j y, xs[j]? = some y → FrAt K (gapAt as qs ws j) y H11 := fun j y hj => PrAt.mono e911 (hgs j y hj)
    have hg11 : H11 gl = some (.lst xs) := e911 _ _ hg9
    refine q_two ?_ fun H12 e12 => ?_
    · cases hf : firstHit as qs ws with
      | some t =>
        obtain ⟨t1, t2, t3⟩ := firstHit_some hf
        obtain ⟨s1, s2, s3⟩ := S.showsS hf
        have pf : OneAt CS "rounds" (fun v _ => v = .int (t : Nat)) vf H11 := by
          unfold Found at pf
          rw [hf] at pf
          exact pf
        have hF : ∀ {σ : L2.St} {H' : Hp}, Ex H11 H' → σ[15]? = some (some vf) → Evp (tVar 15) σ H' (OneAt CS "rounds" (fun v _ => v = .int (t : Nat))) := fun e h => .var h (mon_one.mo _ _ _ e pf) (m := mon_one)
        have hR : ∀ {σ : L2.St} {H' : Hp}, σ[12]? = some (some (.int (t : Nat))) → Ev (tVar 12) σ H' (.int (t : Nat)) := fun h => Evl.ev_var h
        refine .inl ⟨pas_if ?_, pas_if ?_, pas_if ?_⟩
        · refine Evl.et_is (Evl.et_or (a := false) (Evl.et_test (Evl.ev_is (Evl.ev_op (ev_bool (b := true) (hF (Ex.refl _) rfl) one_ins) (ev_notNone (hR rfl)) (Evl.rv_ne rfl)) rfl)) fun _ => Evl.et_or (a := false) (Evl.et_is (Evl.et_not (Evl.et_B (ev_showS (hF (Ex.refl _) rfl) (hX e511 rfl) (hO e511 rfl) S (by omega)))) (by rw [s1]; rfl)) fun _ =>
            Evl.et_and (Evl.et_test (ev_notNone (hR rfl))) fun _ => Evl.et_test (Evl.ev_op (hR rfl) (hLen e511 rfl) Evl.rv_I0)) ?_
          simp
          omega
        · refine Evl.et_is (Evl.et_and (et_tru (b := true) (hF (Ex.refl _) rfl) one_ins) fun _ => Evl.et_or (a := false) (Evl.et_is (Evl.et_test (ev_neI (evp_fld1 T.TS (hF (Ex.refl _) rfl)).ev (hR rfl))) (by simp)) fun _ =>
            Evl.et_or (a := false) (Evl.et_is (Evl.et_B (ev_showS (t := t + 1) (evp_one (x := "Settles") (f := "rounds") (ev_evp (Evl.ev_op (hR rfl) Evl.ev_c Evl.rv_I0))) (hX e511 rfl) (hO e511 rfl) S (by omega))) s2) fun _ =>
            Evl.et_and (b := false) (Evl.et_test (Evl.ev_op (hR rfl) Evl.ev_c Evl.rv_I0)) fun h0 => ?_) ?_
          · have h0' : 0 < t := by
              have : (0 : Int) < (t : Int) := of_decide_eq_true h0
              omega
            exact Evl.et_is (Evl.et_B (ev_showS (t := t - 1) (evp_one (x := "Settles") (f := "rounds") (ev_evp (Evl.ev_is (Evl.ev_op (hR rfl) Evl.ev_c (Evl.rv_I0 (g := fun i j => .int (i - j)))) (by congr 1; omega)))) (hX e511 rfl) (hO e511 rfl) S (by omega))) (s3 h0')
          · simp
        · exact Evl.et_is (Evl.et_and (b := false) (Evl.et_not (et_tru (b := true) (hF (Ex.refl _) rfl) one_ins)) fun h => by cases h) rfl
      | none =>
        obtain ⟨s1, s2, s3⟩ := S.showsT hf
        have pf : OneAt CT "width" (FrAt K (gapAt as qs ws as.length)) vf H11 := by
          unfold Found at pf
          rw [hf] at pf
          exact pf
        have hF : ∀ {σ : L2.St} {H' : Hp}, Ex H11 H' → σ[15]? = some (some vf) → Evp (tVar 15) σ H' (OneAt CT "width" (FrAt K (gapAt as qs ws as.length))) := fun e h => .var h (mon_one.mo _ _ _ e pf) (m := mon_one)
        refine .inr ⟨pas_if ?_, pas_if ?_, pas_if ?_⟩
        · exact Evl.et_is (Evl.et_or (a := false) (Evl.et_test (Evl.ev_is (Evl.ev_op (ev_bool (b := false) (hF (Ex.refl _) rfl) one_ins) (ev_notNone (Evl.ev_var (v := .non) rfl)) (Evl.rv_ne rfl)) rfl)) fun _ => Evl.et_or (a := false) (Evl.et_is (Evl.et_not (Evl.et_B (ev_showT (hF (Ex.refl _) rfl) (hX e511 rfl) (hO e511 rfl) S))) (by rw [s1]; rfl)) fun _ =>
            Evl.et_and (b := false) (Evl.et_test (ev_notNone (Evl.ev_var (v := .non) rfl))) fun h => by cases h) rfl
        · exact Evl.et_is (Evl.et_and (b := false) (et_tru (b := false) (hF (Ex.refl _) rfl) one_ins) fun h => by cases h) rfl
        · obtain ⟨y, hy⟩ : ∃ y, xs[as.length]? = some y := ⟨xs[as.length], List.getElem?_eq_getElem (by omega)⟩
          have hix : Evp (tOp (rIxL K) (tVar 11) (tCB (Evl.rLenS K) (tCons (tVar 2) tNil))) _ H11 (FrAt K (gapAt as qs ws as.length)) := Evp.of (σ := [some (.ref sa), some (.ref d), some (.ref aa), some (.ref av), some (.ref l), some x, some td, some (.ref wl), some (.ref o), some vg, some vn, some (.ref gl), some (rchV none), tn, none, some vf, none, none, none, none, none, none, none]) (v := y) (Evl.ev_op (Evl.ev_var rfl) (hLen e511 rfl) (Evl.rv_ixL (SqL.of hg11) (atI_nat hy))) fun H' e => PrAt.mono e (hgs11 _ y hy)
          have hpl := evp_bin (K := K) (g := (· + ·)) (σ := [some (.ref sa), some (.ref d), some (.ref aa), some (.ref av), some (.ref l), some x, some td, some (.ref wl), some (.ref o), some vg, some vn, some (.ref gl), some (rchV none), tn, none, some vf, none, none, none, none, none, none, none]) (H := H11) (evp_fld1 T.TT (hF (Ex.refl _) rfl)) (evp_pair (n := 1) (d := 9) Evl.ev_c Evl.ev_c) (den_pos' _) (by decide) (Bk.sm (S.gapBk (show as.length ≤ 13 by omega)) (Nat.le_refl _)).1 (Bk.sm (S.gapBk (show as.length ≤ 13 by omega)) (Nat.le_refl _)).2 (Sm.mk (k := 4) (by decide) (by decide)) (Sm.mk (k := 4) (by decide) (by decide))
          rw [rt_self] at hpl
          exact Evl.et_is (Evl.et_and (Evl.et_not (et_tru (b := false) (hF (Ex.refl _) rfl) one_ins)) fun _ => Evl.et_or (a := false) (Evl.et_test (evp_neD (S := FrAt K (gapAt as qs ws as.length)) (R := FrAt K (gapAt as qs ws as.length)) (b := false) (evp_fld1 T.TT (hF (Ex.refl _) rfl)) hix mon_pr (fun v H1 h => dp_fr h) (fun v H1 h => dp_fr h) (shaped_of (dq_ok _) (by decide)) (shaped_of (dq_ok _) (by decide)) (by rw [eqv_dq]; simp))) fun _ =>
            Evl.et_or (a := false) (Evl.et_is (Evl.et_B (ev_showT (evp_one (x := "Tends") (f := "width") hpl) (hX e511 rfl) (hO e511 rfl) S)) s2) fun _ => Evl.et_is (b := false) (Evl.et_B (ev_showT (q := 0) (evp_one (x := "Tends") (f := "width") (P := FrAt K 0) (evp_pair Evl.ev_c Evl.ev_c)) (hX e511 rfl) (hO e511 rfl) S)) s3) rfl
    -- a width
    have e512 := e511.trans e12
    have hg12 : H12 gl = some (.lst xs) := e12 _ _ hg11
    have dr12 := dr5.ex e512
    refine q_asgD (R := fun v H13 => Ed d H12 H13 ∧ InTh K widths0 v (era d H13)) (fun Q' q' => pick_new (n := 4) (L := widths0) (K := K) (d := d) (s := sa) (ns := ns) (Evl.ev_var rfl) (eav_cons (ev_ip (n := 1) (m := 2) (by simp [widths0])) (eav_cons (ev_ip (n := 1) (m := 10) (by simp [widths0])) (eav_cons (ev_ip (n := 3) (m := 1) (by simp [widths0])) (eav_cons (ev_ip (n := 1) (m := 97) (by simp [widths0])) eav_nil)))) (by decide) (by decide) dr12 Q' fun v H13 c1 c2 c3 => q' v H13 ⟨c1, c3⟩) fun vw H13 ⟨e13, t, htw, pw⟩ => ?_
    obtain ⟨w1, w2, w3, w4, w5⟩ := widths0_ok t htw
    obtain ⟨m12, hm12⟩ := dr12.at_
    have pw : ThAt K t vw H13 := mon_th.mo _ _ _ (era_ex d H13) pw
    have hgld : gl ≠ d := ne_of hg12 hm12 (by intro q; simp only [HO.lst.injEq] at q; rw [q] at hxl; simp at hxl)
    have hx13 : RowAt K C as qs ls x H13 := keepE hm12 (mon_row.mo _ _ _ e512 hx5) e13
    have ha13 : IntsT K as (.ref aa) H13 := keepE hm12 (mon_intsT.mo _ _ _ e512 ha5) e13
    have ho13 : H13 o = some (.lst (ordV ws)) := e13 _ _ (era_at (e512 _ _ ho) hod)
    have hg13 : H13 gl = some (.lst xs) := e13 _ _ (era_at hg12 hgld)
    have hgs13 : ∀ j y, xs[j]? = some y → FrAt K (gapAt as qs ws j) y H13 := fun j y hj => keepE hm12 (PrAt.mono e12 (hgs11 j y hj)) e13
    clear hX hA hO hLen hOT
    have hX : ∀ {σ : L2.St} {H' : Hp}, Ex H13 H' → σ[5]? = some (some x) → Evp (tVar 5) σ H' (RowAt K C as qs ls) := fun e h => .var h (mon_row.mo _ _ _ e hx13)
    have hO : ∀ {σ : L2.St} {H' : Hp}, Ex H13 H' → σ[8]? = some (some (.ref o)) → Evp (tVar 8) σ H' (OrdP K ws) := fun e h => .var h (mon_ord.mo _ _ _ e ⟨o, rfl, .inl (SqL.of ho13)⟩)
    have pwf : FrAt K t.val vw H13 := by
      simp only [widths0, List.mem_cons, List.not_mem_nil, or_false] at htw
      rcases htw with rfl | rfl | rfl | rfl
      all_goals
        show PrAt K (rt _ _).num ((rt _ _).den : Int) vw H13
        rw [w5.1, w5.2]
        exact pw
    -- those that are not late
    refine Evl.q_asgL (evl_lcF (n := xs.length) (wi_enumL (xs := xs) (Evp.of (Evl.ev_var (v := .ref gl) rfl) fun H' e => ⟨gl, rfl, SqL.of (e _ _ hg13)⟩)) (fun i => !decide (t.val < gapAt as qs ws i)) (fun i => V.int ((i : Nat) : Int)) (by omega) ?_) fun lt H14 hlt e14 h14 => ?_
    · rintro i zz H14 H15 hi e14 yy
      obtain ⟨e15, T2, u, v, rfl, hT2, hu, hv⟩ := YPair.use (K := K) yy
      cases (Option.some.inj hu)
      have ee := e14.trans e15
      exact ⟨e15, _, fun R r => gtup2 hT2 r, rfl, Evl.et_not (Evl.et_B (ev_lessF (.var (P := FrAt K t.val) rfl (PrAt.mono ee pwf)) (.var (P := FrAt K (gapAt as qs ws i)) rfl (PrAt.mono ee (hgs13 i v hv))) w4 (S.gapBk (by omega)))), fun _ => Evl.ev_var rfl⟩
    have hgiv : Evl.given xs.length (fun i => !decide (t.val < gapAt as qs ws i)) (fun i => V.int ((i : Nat) : Int)) = (((List.range 13).filter fun i => !decide (t.val < gapAt as qs ws i)).map fun i : Nat => (i : Int)).map V.int := by
      unfold Evl.given
      rw [List.map_map, hxl]
      rfl
    rw [hgiv] at h14
    refine Evl.q_when (b := false) (Evl.et_is (Evl.et_and (b := false) (Evl.et_test (ev_neNil (Evl.ev_var (v := .ref lt) rfl) (SqL.of h14) rfl)) fun hne => ?_) (Bool.and_false _)) (fun h => by cases h) (fun _ H15 e15 => ?_)
    · have hne' : (List.range 13).filter (fun i => !decide (t.val < gapAt as qs ws i)) ≠ [] := by
        intro z
        rw [z] at hne
        simp at hne
      obtain ⟨n, rest, hl13, hn13, hfn, hfi⟩ := late_head hne'
      refine Evl.et_is (Evl.et_test (ev_neI (ev_within (t := t) (n := n) (hX e14 rfl) (hO e14 rfl) (.var (P := ThAt K t) rfl (mon_th.mo _ _ _ e14 pw)) S w1 w2 w3 w4 (by omega) (fun i hi => by simpa using hfi i hi) (by simpa using hfn)) (Evl.ev_op (Evl.ev_var rfl) Evl.ev_c (Evl.rv_ixL (SqL.of h14) (atI_nat (j := 0) (by rw [hl13]; rfl)))))) (by simp)
    have e1315 := e14.trans e15
    -- the wrong widths
    refine sp_for (n := 4) (wi_ths (ts := wrongs0) (evp_tupTh (eath_cons (t := .i 0) (ev_evp Evl.ev_c) (eath_cons (t := .p (-1) 2) (evp_pair (Evl.ev_un Evl.ev_c Evl.ru_neg) Evl.ev_c) (eath_cons (t := .no) (ev_evp Evl.ev_c) (eath_cons (t := .p 1 0) (evp_pair Evl.ev_c Evl.ev_c) eath_nil)))) (by decide))) (fun i σ' H' => ∃ u, σ' = [some (.ref sa), some (.ref d), some (.ref aa), some (.ref av), some (.ref l), some x, some td, some (.ref wl), some (.ref o), some vg, some vn, some (.ref gl), some (rchV (firstHit as qs ws)), tn, some (.ref lt), some vf, some vw, u, none, none, none, none, none]) (fun H16 e16 => ⟨none, rfl⟩) ?_ ?_
    · rintro i z σ' H16 H17 Nx hi e16 ⟨u, rfl⟩ ⟨rfl, t', ht', pz⟩ hN
      have hwr : t' ∈ wrongs0 := List.mem_of_getElem? ht'
      have two : ∀ n : Nat, n < 4 → n < 2 ^ 4500 := fun n h => Nat.lt_of_lt_of_le h (show 2 ^ 2 ≤ 2 ^ 4500 from Nat.pow_le_pow_right (by decide) (by decide))
      have hbad : t'.small ∧ (t'.isPart = true → t'.val.num ≤ 0) := by
        simp only [wrongs0, List.mem_cons, List.not_mem_nil, or_false] at hwr
        rcases hwr with rfl | rfl | rfl | rfl
        · exact ⟨two _ (by decide), fun _ => by show (rt 0 1).num ≤ 0; rw [rt_one]; exact Int.le_refl 0⟩
        · exact ⟨⟨two _ (by decide), two _ (by decide)⟩, fun _ => by decide⟩
        · exact ⟨trivial, fun h => by cases h⟩
        · exact ⟨⟨two _ (by decide), two _ (by decide)⟩, fun h => by cases h⟩
      have e17 := e1315.trans e16
      refine ⟨x, rfl, .ref o, rfl, z, rfl, x, o, z, as, qs, ls, ws, t', rfl, mon_row.mo _ _ _ e17 hx13, .inl (SqL.of (e17 _ _ ho13)), S, pz, hbad.1, .inr ⟨hbad.2, fun H18 e18 => ⟨true, T.teN, fun _ a _ => hN _ _ e18 ⟨_, rfl⟩, fun q => by cases q⟩⟩⟩
    rintro σ' H16 e16 ⟨u, rfl⟩
    have e1316 := e1315.trans e16
    -- an order that is none
    have hlen : Ev (tCB (Evl.rLenS K) (tCons (tVar 2) tNil)) [some (.ref sa), some (.ref d), some (.ref aa), some (.ref av), some (.ref l), some x, some td, some (.ref wl), some (.ref o), some vg, some vn, some (.ref gl), some (rchV (firstHit as qs ws)), tn, some (.ref lt), some vf, some vw, u, none, none, none, none, none] H16 (.int (as.length : Int)) := ev_intsLen (.var (P := IntsT K as) rfl (mon_intsT.mo _ _ _ e1316 ha13))
    refine ⟨x, rfl, ?_⟩
    refine Evl.el_lst (Evl.ea_cons hlen Evl.ea_nil) (by show 1 ≤ 100000; decide) H16 (Ex.refl _) _ fun p H17 hp e17 h17 => ?_
    have hno : inRow as ls as.length = false := by
      unfold inRow
      have : ¬ (1 ≤ (as.length : Int) ∧ (as.length : Int) < (as.length : Int)) := by omega
      simp
    refine ⟨x, p, as, qs, ls, [as.length], rfl, mon_row.mo _ _ _ (e1316.trans e17) hx13, g, inv, .inl (SqL.of h17), by show 1 ≤ 5; decide, .inr ⟨⟨as.length, rfl, hno⟩, fun d' H18 e18 hd' => ⟨true, T.TO.te, fun _ a _ => ?_, fun q => by cases q⟩⟩⟩
    refine ⟨.ref a, rfl, rfl, rfl, d', .int 0, rfl, hd', rfl, ?_⟩
    exact k _
end
end WD
set_option Elab.async false
set_option linter.all false
set_option maxRecDepth 100000
set_option maxHeartbeats 8000000
namespace WD
open PySem PySem.Spec PyProof.Rows L2 WR WK
section
variable {P : Program} {w : World} {K : PySem.W.Frag} {mg : Str → Option Value} {base : Heap}
theorem toR {f : Addr} {fd : FuncData} {ps : List Str} {sp : Sp} {CX : CXT} {k : Nat} (G : FnOk P w K mg base CX k f fd ps sp) (b : Binds K fd ps []) : FnR P w K mg base CX k f sp := (G.raw b .nil).imp fun vs H Q E h => by rw [List.append_nil]; exact h
theorem err_self {S : Addr} (h1 : PySem.W.subIn K (.ref S) (.type "BaseException") = some true) (h2 : PySem.W.isClsIn K S = true) (h3 : PySem.W.typeIn K (.ref S) = some (.type "type")) (h4 : PySem.W.subIn K (.ref S) (.ref S) = some true) : PySem.W.exmOne K (.ref S) (.ref S) = some true := by
  have e1 : (PySem.W.subIn K (.ref S) (.type "BaseException") == some true) = true := by rw [h1]; rfl
  have e2 : ((PySem.W.clsIn K S).isSome && PySem.W.typeIn K (.ref S) == some (.type "type")) = true := by
    rw [show (PySem.W.clsIn K S).isSome = true from h2, h3]; rfl
  show (if (PySem.W.subIn K (.ref S) (.type "BaseException") == some true) = true then (if ((PySem.W.clsIn K S).isSome && PySem.W.typeIn K (.ref S) == some (.type "type")) = true then PySem.W.subIn K (.ref S) (.ref S) else none) else none) = some true
  rw [if_pos e1, if_pos e2]
  exact h4
theorem funD_1 {x qual : Str} {st : Stmt} {f T : Addr} {u : Value} {v : V} {oc kV dc pm cd ct ocT : Value} {od an odT : Option Addr} {sl slT : Array (Option Value)} {n : Nat} (l : K.lookup f = some ⟨oc, od, .func (PySem.W.fnOf x qual (defArgs st) (defBody st) (defScope st) (.ref T) kV dc pm an cd ct), sl⟩)
    (c : PySem.W.codeIn K cd qual = true) (k : PySem.W.keepIn K (.ref f) = true) (lT : K.lookup T = some ⟨ocT, odT, .seq #[u] n, slT⟩) (r : RelV v u) : FunD K x qual (defArgs st) (defBody st) (defScope st) [v] [] f (PySem.W.fnOf x qual (defArgs st) (defBody st) (defScope st) (.ref T) kV dc pm an cd ct) :=
  ⟨⟨oc, od, .ref T, kV, dc, pm, an, cd, ct, sl, rfl, l, c, .inr ⟨by simp, T, _, [u], n, rfl, lT, rfl, .cons r .nil⟩, .inl rfl⟩, k⟩
end

theorem all_mk {P : Program} {w : World} {K : PySem.W.Frag} {h : Heap} {mg : Str → Option Value} {fa C CS CT CN CO WE NO fO cdaO ccO Tpa Trin Trop Urop Vrin f_wh f_co f_ip f_ap f_pl f_mi f_ti f_ov f_le f_gr f_sz f_to f_ia f_cr f_ck f_be f_ru f_li f_di f_ro f_se f_wi f_ln f_lt f_lk f_lc f_la f_lp f_ll f_lm f_lq f_ld f_lv f_lo f_lb f_lh f_lr f_lj f_lE f_lg f_lw f_req f_rle f_rha f_rht f_rcw f_rwi f_sin f_ssh f_tin f_tsh f_sbo f_tbo f_pa f_rin f_rop : Addr} (X : K.In h) (G : h.Ns mainGlobals mg) (hfa : mg "law" = some (.ref fa))
    {oc_wh kV_wh dc_wh pm_wh cd_wh ct_wh oc_co kV_co dc_co pm_co cd_co ct_co oc_ip kV_ip dc_ip pm_ip cd_ip ct_ip oc_ap kV_ap dc_ap pm_ap cd_ap ct_ap oc_pl kV_pl dc_pl pm_pl cd_pl ct_pl oc_mi kV_mi dc_mi pm_mi cd_mi ct_mi oc_ti kV_ti dc_ti pm_ti cd_ti ct_ti oc_ov kV_ov dc_ov pm_ov cd_ov ct_ov oc_le kV_le dc_le pm_le cd_le ct_le oc_gr kV_gr dc_gr pm_gr cd_gr ct_gr oc_sz kV_sz dc_sz pm_sz cd_sz ct_sz oc_to kV_to dc_to pm_to cd_to ct_to oc_ia kV_ia dc_ia pm_ia cd_ia ct_ia oc_cr kV_cr dc_cr pm_cr cd_cr ct_cr oc_ck kV_ck dc_ck pm_ck cd_ck ct_ck oc_be kV_be dc_be pm_be cd_be ct_be oc_ru kV_ru dc_ru pm_ru cd_ru ct_ru oc_li kV_li dc_li pm_li cd_li ct_li oc_di kV_di dc_di pm_di cd_di ct_di oc_ro kV_ro dc_ro pm_ro cd_ro ct_ro oc_se kV_se dc_se pm_se cd_se ct_se oc_wi kV_wi dc_wi pm_wi cd_wi ct_wi oc_ln kV_ln dc_ln pm_ln cd_ln ct_ln oc_lt kV_lt dc_lt pm_lt cd_lt ct_lt oc_lk kV_lk dc_lk pm_lk cd_lk ct_lk oc_lc kV_lc dc_lc pm_lc cd_lc ct_lc oc_la kV_la dc_la pm_la cd_la ct_la oc_lp kV_lp dc_lp pm_lp cd_lp ct_lp oc_ll kV_ll dc_ll pm_ll cd_ll ct_ll oc_lm kV_lm dc_lm pm_lm cd_lm ct_lm oc_lq kV_lq dc_lq pm_lq cd_lq ct_lq oc_ld kV_ld dc_ld pm_ld cd_ld ct_ld oc_lv kV_lv dc_lv pm_lv cd_lv ct_lv oc_lo kV_lo dc_lo pm_lo cd_lo ct_lo oc_lb kV_lb dc_lb pm_lb cd_lb ct_lb oc_lh kV_lh dc_lh pm_lh cd_lh ct_lh oc_lr kV_lr dc_lr pm_lr cd_lr ct_lr oc_lj kV_lj dc_lj pm_lj cd_lj ct_lj oc_lE kV_lE dc_lE pm_lE cd_lE ct_lE oc_lg kV_lg dc_lg pm_lg cd_lg ct_lg oc_lw kV_lw dc_lw pm_lw cd_lw ct_lw oc_req kV_req dc_req pm_req cd_req ct_req oc_rle kV_rle dc_rle pm_rle cd_rle ct_rle oc_rha kV_rha dc_rha pm_rha cd_rha ct_rha oc_rht kV_rht dc_rht pm_rht cd_rht ct_rht oc_rcw kV_rcw dc_rcw pm_rcw cd_rcw ct_rcw oc_rwi kV_rwi dc_rwi pm_rwi cd_rwi ct_rwi oc_sin kV_sin dc_sin pm_sin cd_sin ct_sin oc_ssh kV_ssh dc_ssh pm_ssh cd_ssh ct_ssh oc_tin kV_tin dc_tin pm_tin cd_tin ct_tin oc_tsh kV_tsh dc_tsh pm_tsh cd_tsh ct_tsh oc_sbo kV_sbo dc_sbo pm_sbo cd_sbo ct_sbo oc_tbo kV_tbo dc_tbo pm_tbo cd_tbo ct_tbo oc_pa kV_pa dc_pa pm_pa cd_pa ct_pa oc_rin kV_rin dc_rin pm_rin cd_rin ct_rin oc_rop kV_rop dc_rop pm_rop cd_rop ct_rop oTpa oTrin oTrop ocO kVO dcO pmO ctO cclO clO : Value} {od_wh an_wh od_co an_co od_ip an_ip od_ap an_ap od_pl an_pl od_mi an_mi od_ti an_ti od_ov an_ov od_le an_le od_gr an_gr od_sz an_sz od_to an_to od_ia an_ia od_cr an_cr od_ck an_ck od_be an_be od_ru an_ru od_li an_li od_di an_di od_ro an_ro od_se an_se od_wi an_wi od_ln an_ln od_lt an_lt od_lk an_lk od_lc an_lc od_la an_la od_lp an_lp od_ll an_ll od_lm an_lm od_lq an_lq od_ld an_ld od_lv an_lv od_lo an_lo od_lb an_lb od_lh an_lh od_lr an_lr od_lj an_lj od_lE an_lE od_lg an_lg od_lw an_lw od_req an_req od_rle an_rle od_rha an_rha od_rht an_rht od_rcw an_rcw od_rwi an_rwi od_sin an_sin od_ssh an_ssh od_tin an_tin od_tsh an_tsh od_sbo an_sbo od_tbo an_tbo od_pa an_pa od_rin an_rin od_rop an_rop dTpa dTrin dTrop dUrop odO anO cddO cldO : Option Addr} {sl_wh sl_co sl_ip sl_ap sl_pl sl_mi sl_ti sl_ov sl_le sl_gr sl_sz sl_to sl_ia sl_cr sl_ck sl_be sl_ru sl_li sl_di sl_ro sl_se sl_wi sl_ln sl_lt sl_lk sl_lc sl_la sl_lp sl_ll sl_lm sl_lq sl_ld sl_lv sl_lo sl_lb sl_lh sl_lr sl_lj sl_lE sl_lg sl_lw sl_req sl_rle sl_rha sl_rht sl_rcw sl_rwi sl_sin sl_ssh sl_tin sl_tsh sl_sbo sl_tbo sl_pa sl_rin sl_rop sTpa sTrin sTrop sUrop slO ccsO cslO : Array (Option Value)} {tkpa tu1 tu2 tb1 tb2 tb3 tb4 tfO : Tok} {npa nrin nrop nuop : Nat}
    {nmO qO fileO : Str} {bsO subO : List Value} {snO : List Str} {abO : Bool} {colO : Option Bool} {ddO : Option Addr} {m0O m1O m2O m3O m5O : Option Value} {vsO : Array Value}
    (h_g_C : PySem.W.nsIn K mainGlobals "Row" = some (some (.ref C)))
    (h_g_CS : PySem.W.nsIn K mainGlobals "Settles" = some (some (.ref CS)))
    (h_g_CT : PySem.W.nsIn K mainGlobals "Tends" = some (some (.ref CT)))
    (h_g_CN : PySem.W.nsIn K mainGlobals "BadNumber" = some (some (.ref CN)))
    (h_g_CO : PySem.W.nsIn K mainGlobals "BadOrder" = some (some (.ref CO)))
    (h_a_wh : PySem.W.nsIn K mainGlobals "is_whole" = some (some (.ref f_wh)))
    (h_l_wh : K.lookup f_wh = some ⟨oc_wh, od_wh, .func (PySem.W.fnOf "is_whole" "is_whole" (defArgs sWhole) (defBody sWhole) (defScope sWhole) .none kV_wh dc_wh pm_wh an_wh cd_wh ct_wh), sl_wh⟩)
    (h_c_wh : PySem.W.codeIn K cd_wh "is_whole" = true)
    (h_k_wh : PySem.W.keepIn K (.ref f_wh) = true)
    (h_a_co : PySem.W.nsIn K mainGlobals "common" = some (some (.ref f_co)))
    (h_l_co : K.lookup f_co = some ⟨oc_co, od_co, .func (PySem.W.fnOf "common" "common" (defArgs sCommon) (defBody sCommon) (defScope sCommon) .none kV_co dc_co pm_co an_co cd_co ct_co), sl_co⟩)
    (h_c_co : PySem.W.codeIn K cd_co "common" = true)
    (h_k_co : PySem.W.keepIn K (.ref f_co) = true)
    (h_a_ip : PySem.W.nsIn K mainGlobals "is_part" = some (some (.ref f_ip)))
    (h_l_ip : K.lookup f_ip = some ⟨oc_ip, od_ip, .func (PySem.W.fnOf "is_part" "is_part" (defArgs sIsPart) (defBody sIsPart) (defScope sIsPart) .none kV_ip dc_ip pm_ip an_ip cd_ip ct_ip), sl_ip⟩)
    (h_c_ip : PySem.W.codeIn K cd_ip "is_part" = true)
    (h_k_ip : PySem.W.keepIn K (.ref f_ip) = true)
    (h_a_ap : PySem.W.nsIn K mainGlobals "as_part" = some (some (.ref f_ap)))
    (h_l_ap : K.lookup f_ap = some ⟨oc_ap, od_ap, .func (PySem.W.fnOf "as_part" "as_part" (defArgs sAsPart) (defBody sAsPart) (defScope sAsPart) .none kV_ap dc_ap pm_ap an_ap cd_ap ct_ap), sl_ap⟩)
    (h_c_ap : PySem.W.codeIn K cd_ap "as_part" = true)
    (h_k_ap : PySem.W.keepIn K (.ref f_ap) = true)
    (h_a_pl : PySem.W.nsIn K mainGlobals "plus" = some (some (.ref f_pl)))
    (h_l_pl : K.lookup f_pl = some ⟨oc_pl, od_pl, .func (PySem.W.fnOf "plus" "plus" (defArgs sPlus) (defBody sPlus) (defScope sPlus) .none kV_pl dc_pl pm_pl an_pl cd_pl ct_pl), sl_pl⟩)
    (h_c_pl : PySem.W.codeIn K cd_pl "plus" = true)
    (h_k_pl : PySem.W.keepIn K (.ref f_pl) = true)
    (h_a_mi : PySem.W.nsIn K mainGlobals "minus" = some (some (.ref f_mi)))
    (h_l_mi : K.lookup f_mi = some ⟨oc_mi, od_mi, .func (PySem.W.fnOf "minus" "minus" (defArgs sMinus) (defBody sMinus) (defScope sMinus) .none kV_mi dc_mi pm_mi an_mi cd_mi ct_mi), sl_mi⟩)
    (h_c_mi : PySem.W.codeIn K cd_mi "minus" = true)
    (h_k_mi : PySem.W.keepIn K (.ref f_mi) = true)
    (h_a_ti : PySem.W.nsIn K mainGlobals "times" = some (some (.ref f_ti)))
    (h_l_ti : K.lookup f_ti = some ⟨oc_ti, od_ti, .func (PySem.W.fnOf "times" "times" (defArgs sTimes) (defBody sTimes) (defScope sTimes) .none kV_ti dc_ti pm_ti an_ti cd_ti ct_ti), sl_ti⟩)
    (h_c_ti : PySem.W.codeIn K cd_ti "times" = true)
    (h_k_ti : PySem.W.keepIn K (.ref f_ti) = true)
    (h_a_ov : PySem.W.nsIn K mainGlobals "over" = some (some (.ref f_ov)))
    (h_l_ov : K.lookup f_ov = some ⟨oc_ov, od_ov, .func (PySem.W.fnOf "over" "over" (defArgs sOver) (defBody sOver) (defScope sOver) .none kV_ov dc_ov pm_ov an_ov cd_ov ct_ov), sl_ov⟩)
    (h_c_ov : PySem.W.codeIn K cd_ov "over" = true)
    (h_k_ov : PySem.W.keepIn K (.ref f_ov) = true)
    (h_a_le : PySem.W.nsIn K mainGlobals "is_less" = some (some (.ref f_le)))
    (h_l_le : K.lookup f_le = some ⟨oc_le, od_le, .func (PySem.W.fnOf "is_less" "is_less" (defArgs sLessT) (defBody sLessT) (defScope sLessT) .none kV_le dc_le pm_le an_le cd_le ct_le), sl_le⟩)
    (h_c_le : PySem.W.codeIn K cd_le "is_less" = true)
    (h_k_le : PySem.W.keepIn K (.ref f_le) = true)
    (h_a_gr : PySem.W.nsIn K mainGlobals "greatest" = some (some (.ref f_gr)))
    (h_l_gr : K.lookup f_gr = some ⟨oc_gr, od_gr, .func (PySem.W.fnOf "greatest" "greatest" (defArgs sGreat) (defBody sGreat) (defScope sGreat) .none kV_gr dc_gr pm_gr an_gr cd_gr ct_gr), sl_gr⟩)
    (h_c_gr : PySem.W.codeIn K cd_gr "greatest" = true)
    (h_k_gr : PySem.W.keepIn K (.ref f_gr) = true)
    (h_a_sz : PySem.W.nsIn K mainGlobals "size_of" = some (some (.ref f_sz)))
    (h_l_sz : K.lookup f_sz = some ⟨oc_sz, od_sz, .func (PySem.W.fnOf "size_of" "size_of" (defArgs sSize) (defBody sSize) (defScope sSize) .none kV_sz dc_sz pm_sz an_sz cd_sz ct_sz), sl_sz⟩)
    (h_c_sz : PySem.W.codeIn K cd_sz "size_of" = true)
    (h_k_sz : PySem.W.keepIn K (.ref f_sz) = true)
    (h_a_to : PySem.W.nsIn K mainGlobals "total" = some (some (.ref f_to)))
    (h_l_to : K.lookup f_to = some ⟨oc_to, od_to, .func (PySem.W.fnOf "total" "total" (defArgs sTotal) (defBody sTotal) (defScope sTotal) .none kV_to dc_to pm_to an_to cd_to ct_to), sl_to⟩)
    (h_c_to : PySem.W.codeIn K cd_to "total" = true)
    (h_k_to : PySem.W.keepIn K (.ref f_to) = true)
    (h_a_ia : PySem.W.nsIn K mainGlobals "is_areas" = some (some (.ref f_ia)))
    (h_l_ia : K.lookup f_ia = some ⟨oc_ia, od_ia, .func (PySem.W.fnOf "is_areas" "is_areas" (defArgs sAreas) (defBody sAreas) (defScope sAreas) .none kV_ia dc_ia pm_ia an_ia cd_ia ct_ia), sl_ia⟩)
    (h_c_ia : PySem.W.codeIn K cd_ia "is_areas" = true)
    (h_k_ia : PySem.W.keepIn K (.ref f_ia) = true)
    (h_a_cr : PySem.W.nsIn K mainGlobals "check_row" = some (some (.ref f_cr)))
    (h_l_cr : K.lookup f_cr = some ⟨oc_cr, od_cr, .func (PySem.W.fnOf "check_row" "check_row" (defArgs sCkR) (defBody sCkR) (defScope sCkR) .none kV_cr dc_cr pm_cr an_cr cd_cr ct_cr), sl_cr⟩)
    (h_c_cr : PySem.W.codeIn K cd_cr "check_row" = true)
    (h_k_cr : PySem.W.keepIn K (.ref f_cr) = true)
    (h_a_ck : PySem.W.nsIn K mainGlobals "check_order" = some (some (.ref f_ck)))
    (h_l_ck : K.lookup f_ck = some ⟨oc_ck, od_ck, .func (PySem.W.fnOf "check_order" "check_order" (defArgs sCkO) (defBody sCkO) (defScope sCkO) .none kV_ck dc_ck pm_ck an_ck cd_ck ct_ck), sl_ck⟩)
    (h_c_ck : PySem.W.codeIn K cd_ck "check_order" = true)
    (h_k_ck : PySem.W.keepIn K (.ref f_ck) = true)
    (h_a_be : PySem.W.nsIn K mainGlobals "behind" = some (some (.ref f_be)))
    (h_l_be : K.lookup f_be = some ⟨oc_be, od_be, .func (PySem.W.fnOf "behind" "behind" (defArgs sBehind) (defBody sBehind) (defScope sBehind) .none kV_be dc_be pm_be an_be cd_be ct_be), sl_be⟩)
    (h_c_be : PySem.W.codeIn K cd_be "behind" = true)
    (h_k_be : PySem.W.keepIn K (.ref f_be) = true)
    (h_a_ru : PySem.W.nsIn K mainGlobals "runs" = some (some (.ref f_ru)))
    (h_l_ru : K.lookup f_ru = some ⟨oc_ru, od_ru, .func (PySem.W.fnOf "runs" "runs" (defArgs sRuns) (defBody sRuns) (defScope sRuns) .none kV_ru dc_ru pm_ru an_ru cd_ru ct_ru), sl_ru⟩)
    (h_c_ru : PySem.W.codeIn K cd_ru "runs" = true)
    (h_k_ru : PySem.W.keepIn K (.ref f_ru) = true)
    (h_a_li : PySem.W.nsIn K mainGlobals "limit" = some (some (.ref f_li)))
    (h_l_li : K.lookup f_li = some ⟨oc_li, od_li, .func (PySem.W.fnOf "limit" "limit" (defArgs sLimit) (defBody sLimit) (defScope sLimit) .none kV_li dc_li pm_li an_li cd_li ct_li), sl_li⟩)
    (h_c_li : PySem.W.codeIn K cd_li "limit" = true)
    (h_k_li : PySem.W.keepIn K (.ref f_li) = true)
    (h_a_di : PySem.W.nsIn K mainGlobals "distance" = some (some (.ref f_di)))
    (h_l_di : K.lookup f_di = some ⟨oc_di, od_di, .func (PySem.W.fnOf "distance" "distance" (defArgs sDist) (defBody sDist) (defScope sDist) .none kV_di dc_di pm_di an_di cd_di ct_di), sl_di⟩)
    (h_c_di : PySem.W.codeIn K cd_di "distance" = true)
    (h_k_di : PySem.W.keepIn K (.ref f_di) = true)
    (h_a_ro : PySem.W.nsIn K mainGlobals "rounds_of" = some (some (.ref f_ro)))
    (h_l_ro : K.lookup f_ro = some ⟨oc_ro, od_ro, .func (PySem.W.fnOf "rounds_of" "rounds_of" (defArgs sRounds) (defBody sRounds) (defScope sRounds) .none kV_ro dc_ro pm_ro an_ro cd_ro ct_ro), sl_ro⟩)
    (h_c_ro : PySem.W.codeIn K cd_ro "rounds_of" = true)
    (h_k_ro : PySem.W.keepIn K (.ref f_ro) = true)
    (h_a_se : PySem.W.nsIn K mainGlobals "settling" = some (some (.ref f_se)))
    (h_l_se : K.lookup f_se = some ⟨oc_se, od_se, .func (PySem.W.fnOf "settling" "settling" (defArgs sSettling) (defBody sSettling) (defScope sSettling) .none kV_se dc_se pm_se an_se cd_se ct_se), sl_se⟩)
    (h_c_se : PySem.W.codeIn K cd_se "settling" = true)
    (h_k_se : PySem.W.keepIn K (.ref f_se) = true)
    (h_a_wi : PySem.W.nsIn K mainGlobals "rounds_within" = some (some (.ref f_wi)))
    (h_l_wi : K.lookup f_wi = some ⟨oc_wi, od_wi, .func (PySem.W.fnOf "rounds_within" "rounds_within" (defArgs sWithin) (defBody sWithin) (defScope sWithin) .none kV_wi dc_wi pm_wi an_wi cd_wi ct_wi), sl_wi⟩)
    (h_c_wi : PySem.W.codeIn K cd_wi "rounds_within" = true)
    (h_k_wi : PySem.W.keepIn K (.ref f_wi) = true)
    (h_a_ln : PySem.W.nsIn K mainGlobals "_law_number" = some (some (.ref f_ln)))
    (h_l_ln : K.lookup f_ln = some ⟨oc_ln, od_ln, .func (PySem.W.fnOf "_law_number" "_law_number" (defArgs sNum) (defBody sNum) (defScope sNum) .none kV_ln dc_ln pm_ln an_ln cd_ln ct_ln), sl_ln⟩)
    (h_c_ln : PySem.W.codeIn K cd_ln "_law_number" = true)
    (h_k_ln : PySem.W.keepIn K (.ref f_ln) = true)
    (h_a_lt : PySem.W.nsIn K mainGlobals "_law_take" = some (some (.ref f_lt)))
    (h_l_lt : K.lookup f_lt = some ⟨oc_lt, od_lt, .func (PySem.W.fnOf "_law_take" "_law_take" (defArgs sTake) (defBody sTake) (defScope sTake) .none kV_lt dc_lt pm_lt an_lt cd_lt ct_lt), sl_lt⟩)
    (h_c_lt : PySem.W.codeIn K cd_lt "_law_take" = true)
    (h_k_lt : PySem.W.keepIn K (.ref f_lt) = true)
    (h_a_lk : PySem.W.nsIn K mainGlobals "_law_pick" = some (some (.ref f_lk)))
    (h_l_lk : K.lookup f_lk = some ⟨oc_lk, od_lk, .func (PySem.W.fnOf "_law_pick" "_law_pick" (defArgs sPick) (defBody sPick) (defScope sPick) .none kV_lk dc_lk pm_lk an_lk cd_lk ct_lk), sl_lk⟩)
    (h_c_lk : PySem.W.codeIn K cd_lk "_law_pick" = true)
    (h_k_lk : PySem.W.keepIn K (.ref f_lk) = true)
    (h_a_lc : PySem.W.nsIn K mainGlobals "_law_common" = some (some (.ref f_lc)))
    (h_l_lc : K.lookup f_lc = some ⟨oc_lc, od_lc, .func (PySem.W.fnOf "_law_common" "_law_common" (defArgs sLCommon) (defBody sLCommon) (defScope sLCommon) .none kV_lc dc_lc pm_lc an_lc cd_lc ct_lc), sl_lc⟩)
    (h_c_lc : PySem.W.codeIn K cd_lc "_law_common" = true)
    (h_k_lc : PySem.W.keepIn K (.ref f_lc) = true)
    (h_a_la : PySem.W.nsIn K mainGlobals "_law_part" = some (some (.ref f_la)))
    (h_l_la : K.lookup f_la = some ⟨oc_la, od_la, .func (PySem.W.fnOf "_law_part" "_law_part" (defArgs sLPart) (defBody sLPart) (defScope sLPart) .none kV_la dc_la pm_la an_la cd_la ct_la), sl_la⟩)
    (h_c_la : PySem.W.codeIn K cd_la "_law_part" = true)
    (h_k_la : PySem.W.keepIn K (.ref f_la) = true)
    (h_a_lp : PySem.W.nsIn K mainGlobals "_law_plus" = some (some (.ref f_lp)))
    (h_l_lp : K.lookup f_lp = some ⟨oc_lp, od_lp, .func (PySem.W.fnOf "_law_plus" "_law_plus" (defArgs sLPlus) (defBody sLPlus) (defScope sLPlus) .none kV_lp dc_lp pm_lp an_lp cd_lp ct_lp), sl_lp⟩)
    (h_c_lp : PySem.W.codeIn K cd_lp "_law_plus" = true)
    (h_k_lp : PySem.W.keepIn K (.ref f_lp) = true)
    (h_a_ll : PySem.W.nsIn K mainGlobals "_law_less" = some (some (.ref f_ll)))
    (h_l_ll : K.lookup f_ll = some ⟨oc_ll, od_ll, .func (PySem.W.fnOf "_law_less" "_law_less" (defArgs sLLess) (defBody sLLess) (defScope sLLess) .none kV_ll dc_ll pm_ll an_ll cd_ll ct_ll), sl_ll⟩)
    (h_c_ll : PySem.W.codeIn K cd_ll "_law_less" = true)
    (h_k_ll : PySem.W.keepIn K (.ref f_ll) = true)
    (h_a_lm : PySem.W.nsIn K mainGlobals "_law_times" = some (some (.ref f_lm)))
    (h_l_lm : K.lookup f_lm = some ⟨oc_lm, od_lm, .func (PySem.W.fnOf "_law_times" "_law_times" (defArgs sLTimes) (defBody sLTimes) (defScope sLTimes) .none kV_lm dc_lm pm_lm an_lm cd_lm ct_lm), sl_lm⟩)
    (h_c_lm : PySem.W.codeIn K cd_lm "_law_times" = true)
    (h_k_lm : PySem.W.keepIn K (.ref f_lm) = true)
    (h_a_lq : PySem.W.nsIn K mainGlobals "_law_minus" = some (some (.ref f_lq)))
    (h_l_lq : K.lookup f_lq = some ⟨oc_lq, od_lq, .func (PySem.W.fnOf "_law_minus" "_law_minus" (defArgs sLMinus) (defBody sLMinus) (defScope sLMinus) .none kV_lq dc_lq pm_lq an_lq cd_lq ct_lq), sl_lq⟩)
    (h_c_lq : PySem.W.codeIn K cd_lq "_law_minus" = true)
    (h_k_lq : PySem.W.keepIn K (.ref f_lq) = true)
    (h_a_ld : PySem.W.nsIn K mainGlobals "_law_drawn" = some (some (.ref f_ld)))
    (h_l_ld : K.lookup f_ld = some ⟨oc_ld, od_ld, .func (PySem.W.fnOf "_law_drawn" "_law_drawn" (defArgs sDrawn) (defBody sDrawn) (defScope sDrawn) .none kV_ld dc_ld pm_ld an_ld cd_ld ct_ld), sl_ld⟩)
    (h_c_ld : PySem.W.codeIn K cd_ld "_law_drawn" = true)
    (h_k_ld : PySem.W.keepIn K (.ref f_ld) = true)
    (h_a_lv : PySem.W.nsIn K mainGlobals "_law_parts_of" = some (some (.ref f_lv)))
    (h_l_lv : K.lookup f_lv = some ⟨oc_lv, od_lv, .func (PySem.W.fnOf "_law_parts_of" "_law_parts_of" (defArgs sLParts) (defBody sLParts) (defScope sLParts) .none kV_lv dc_lv pm_lv an_lv cd_lv ct_lv), sl_lv⟩)
    (h_c_lv : PySem.W.codeIn K cd_lv "_law_parts_of" = true)
    (h_k_lv : PySem.W.keepIn K (.ref f_lv) = true)
    (h_a_lo : PySem.W.nsIn K mainGlobals "_law_open" = some (some (.ref f_lo)))
    (h_l_lo : K.lookup f_lo = some ⟨oc_lo, od_lo, .func (PySem.W.fnOf "_law_open" "_law_open" (defArgs sLOpen) (defBody sLOpen) (defScope sLOpen) .none kV_lo dc_lo pm_lo an_lo cd_lo ct_lo), sl_lo⟩)
    (h_c_lo : PySem.W.codeIn K cd_lo "_law_open" = true)
    (h_k_lo : PySem.W.keepIn K (.ref f_lo) = true)
    (h_a_lb : PySem.W.nsIn K mainGlobals "_law_behind" = some (some (.ref f_lb)))
    (h_l_lb : K.lookup f_lb = some ⟨oc_lb, od_lb, .func (PySem.W.fnOf "_law_behind" "_law_behind" (defArgs sLBehind) (defBody sLBehind) (defScope sLBehind) .none kV_lb dc_lb pm_lb an_lb cd_lb ct_lb), sl_lb⟩)
    (h_c_lb : PySem.W.codeIn K cd_lb "_law_behind" = true)
    (h_k_lb : PySem.W.keepIn K (.ref f_lb) = true)
    (h_a_lh : PySem.W.nsIn K mainGlobals "_law_heights" = some (some (.ref f_lh)))
    (h_l_lh : K.lookup f_lh = some ⟨oc_lh, od_lh, .func (PySem.W.fnOf "_law_heights" "_law_heights" (defArgs sLHts) (defBody sLHts) (defScope sLHts) .none kV_lh dc_lh pm_lh an_lh cd_lh ct_lh), sl_lh⟩)
    (h_c_lh : PySem.W.codeIn K cd_lh "_law_heights" = true)
    (h_k_lh : PySem.W.keepIn K (.ref f_lh) = true)
    (h_a_lr : PySem.W.nsIn K mainGlobals "_law_order" = some (some (.ref f_lr)))
    (h_l_lr : K.lookup f_lr = some ⟨oc_lr, od_lr, .func (PySem.W.fnOf "_law_order" "_law_order" (defArgs sOrder) (defBody sOrder) (defScope sOrder) .none kV_lr dc_lr pm_lr an_lr cd_lr ct_lr), sl_lr⟩)
    (h_c_lr : PySem.W.codeIn K cd_lr "_law_order" = true)
    (h_k_lr : PySem.W.keepIn K (.ref f_lr) = true)
    (h_a_lj : PySem.W.nsIn K mainGlobals "_law_joined" = some (some (.ref f_lj)))
    (h_l_lj : K.lookup f_lj = some ⟨oc_lj, od_lj, .func (PySem.W.fnOf "_law_joined" "_law_joined" (defArgs sLJoined) (defBody sLJoined) (defScope sLJoined) .none kV_lj dc_lj pm_lj an_lj cd_lj ct_lj), sl_lj⟩)
    (h_c_lj : PySem.W.codeIn K cd_lj "_law_joined" = true)
    (h_k_lj : PySem.W.keepIn K (.ref f_lj) = true)
    (h_a_lE : PySem.W.nsIn K mainGlobals "_law_even" = some (some (.ref f_lE)))
    (h_l_lE : K.lookup f_lE = some ⟨oc_lE, od_lE, .func (PySem.W.fnOf "_law_even" "_law_even" (defArgs sLEven) (defBody sLEven) (defScope sLEven) .none kV_lE dc_lE pm_lE an_lE cd_lE ct_lE), sl_lE⟩)
    (h_c_lE : PySem.W.codeIn K cd_lE "_law_even" = true)
    (h_k_lE : PySem.W.keepIn K (.ref f_lE) = true)
    (h_a_lg : PySem.W.nsIn K mainGlobals "_law_gap" = some (some (.ref f_lg)))
    (h_l_lg : K.lookup f_lg = some ⟨oc_lg, od_lg, .func (PySem.W.fnOf "_law_gap" "_law_gap" (defArgs sLGap) (defBody sLGap) (defScope sLGap) .none kV_lg dc_lg pm_lg an_lg cd_lg ct_lg), sl_lg⟩)
    (h_c_lg : PySem.W.codeIn K cd_lg "_law_gap" = true)
    (h_k_lg : PySem.W.keepIn K (.ref f_lg) = true)
    (h_a_lw : PySem.W.nsIn K mainGlobals "law" = some (some (.ref f_lw)))
    (h_l_lw : K.lookup f_lw = some ⟨oc_lw, od_lw, .func (PySem.W.fnOf "law" "law" (defArgs sLaw) (defBody sLaw) (defScope sLaw) .none kV_lw dc_lw pm_lw an_lw cd_lw ct_lw), sl_lw⟩)
    (h_c_lw : PySem.W.codeIn K cd_lw "law" = true)
    (h_k_lw : PySem.W.keepIn K (.ref f_lw) = true)
    (h_a_req : PySem.W.findIn K (.ref C) "__eq__" = some (some (.ref f_req)))
    (h_i_req : PySem.W.isFn K (.ref f_req) = true)
    (h_l_req : K.lookup f_req = some ⟨oc_req, od_req, .func (PySem.W.fnOf "__eq__" "Row.__eq__" (defArgs sEq) (defBody sEq) (defScope sEq) .none kV_req dc_req pm_req an_req cd_req ct_req), sl_req⟩)
    (h_c_req : PySem.W.codeIn K cd_req "Row.__eq__" = true)
    (h_k_req : PySem.W.keepIn K (.ref f_req) = true)
    (h_a_rle : PySem.W.findIn K (.ref C) "__len__" = some (some (.ref f_rle)))
    (h_i_rle : PySem.W.isFn K (.ref f_rle) = true)
    (h_l_rle : K.lookup f_rle = some ⟨oc_rle, od_rle, .func (PySem.W.fnOf "__len__" "Row.__len__" (defArgs sLen) (defBody sLen) (defScope sLen) .none kV_rle dc_rle pm_rle an_rle cd_rle ct_rle), sl_rle⟩)
    (h_c_rle : PySem.W.codeIn K cd_rle "Row.__len__" = true)
    (h_k_rle : PySem.W.keepIn K (.ref f_rle) = true)
    (h_a_rha : PySem.W.findIn K (.ref C) "__contains__" = some (some (.ref f_rha)))
    (h_i_rha : PySem.W.isFn K (.ref f_rha) = true)
    (h_l_rha : K.lookup f_rha = some ⟨oc_rha, od_rha, .func (PySem.W.fnOf "__contains__" "Row.__contains__" (defArgs sHas) (defBody sHas) (defScope sHas) .none kV_rha dc_rha pm_rha an_rha cd_rha ct_rha), sl_rha⟩)
    (h_c_rha : PySem.W.codeIn K cd_rha "Row.__contains__" = true)
    (h_k_rha : PySem.W.keepIn K (.ref f_rha) = true)
    (h_a_rht : PySem.W.findIn K (.ref C) "heights" = some (some (.ref f_rht)))
    (h_i_rht : PySem.W.isFn K (.ref f_rht) = true)
    (h_l_rht : K.lookup f_rht = some ⟨oc_rht, od_rht, .func (PySem.W.fnOf "heights" "Row.heights" (defArgs sHts) (defBody sHts) (defScope sHts) .none kV_rht dc_rht pm_rht an_rht cd_rht ct_rht), sl_rht⟩)
    (h_c_rht : PySem.W.codeIn K cd_rht "Row.heights" = true)
    (h_k_rht : PySem.W.keepIn K (.ref f_rht) = true)
    (h_a_rcw : PySem.W.findIn K (.ref C) "check_weir" = some (some (.ref f_rcw)))
    (h_i_rcw : PySem.W.isFn K (.ref f_rcw) = true)
    (h_l_rcw : K.lookup f_rcw = some ⟨oc_rcw, od_rcw, .func (PySem.W.fnOf "check_weir" "Row.check_weir" (defArgs sCkW) (defBody sCkW) (defScope sCkW) .none kV_rcw dc_rcw pm_rcw an_rcw cd_rcw ct_rcw), sl_rcw⟩)
    (h_c_rcw : PySem.W.codeIn K cd_rcw "Row.check_weir" = true)
    (h_k_rcw : PySem.W.keepIn K (.ref f_rcw) = true)
    (h_a_rwi : PySem.W.findIn K (.ref C) "with_volumes" = some (some (.ref f_rwi)))
    (h_i_rwi : PySem.W.isFn K (.ref f_rwi) = true)
    (h_l_rwi : K.lookup f_rwi = some ⟨oc_rwi, od_rwi, .func (PySem.W.fnOf "with_volumes" "Row.with_volumes" (defArgs sWith) (defBody sWith) (defScope sWith) .none kV_rwi dc_rwi pm_rwi an_rwi cd_rwi ct_rwi), sl_rwi⟩)
    (h_c_rwi : PySem.W.codeIn K cd_rwi "Row.with_volumes" = true)
    (h_k_rwi : PySem.W.keepIn K (.ref f_rwi) = true)
    (h_a_sin : PySem.W.findIn K (.ref CS) "__init__" = some (some (.ref f_sin)))
    (h_i_sin : PySem.W.isFn K (.ref f_sin) = true)
    (h_l_sin : K.lookup f_sin = some ⟨oc_sin, od_sin, .func (PySem.W.fnOf "__init__" "Settles.__init__" (defArgs sSetI) (defBody sSetI) (defScope sSetI) .none kV_sin dc_sin pm_sin an_sin cd_sin ct_sin), sl_sin⟩)
    (h_c_sin : PySem.W.codeIn K cd_sin "Settles.__init__" = true)
    (h_k_sin : PySem.W.keepIn K (.ref f_sin) = true)
    (h_a_ssh : PySem.W.findIn K (.ref CS) "shows" = some (some (.ref f_ssh)))
    (h_i_ssh : PySem.W.isFn K (.ref f_ssh) = true)
    (h_l_ssh : K.lookup f_ssh = some ⟨oc_ssh, od_ssh, .func (PySem.W.fnOf "shows" "Settles.shows" (defArgs sShowS) (defBody sShowS) (defScope sShowS) .none kV_ssh dc_ssh pm_ssh an_ssh cd_ssh ct_ssh), sl_ssh⟩)
    (h_c_ssh : PySem.W.codeIn K cd_ssh "Settles.shows" = true)
    (h_k_ssh : PySem.W.keepIn K (.ref f_ssh) = true)
    (h_a_tin : PySem.W.findIn K (.ref CT) "__init__" = some (some (.ref f_tin)))
    (h_i_tin : PySem.W.isFn K (.ref f_tin) = true)
    (h_l_tin : K.lookup f_tin = some ⟨oc_tin, od_tin, .func (PySem.W.fnOf "__init__" "Tends.__init__" (defArgs sTenI) (defBody sTenI) (defScope sTenI) .none kV_tin dc_tin pm_tin an_tin cd_tin ct_tin), sl_tin⟩)
    (h_c_tin : PySem.W.codeIn K cd_tin "Tends.__init__" = true)
    (h_k_tin : PySem.W.keepIn K (.ref f_tin) = true)
    (h_a_tsh : PySem.W.findIn K (.ref CT) "shows" = some (some (.ref f_tsh)))
    (h_i_tsh : PySem.W.isFn K (.ref f_tsh) = true)
    (h_l_tsh : K.lookup f_tsh = some ⟨oc_tsh, od_tsh, .func (PySem.W.fnOf "shows" "Tends.shows" (defArgs sShowT) (defBody sShowT) (defScope sShowT) .none kV_tsh dc_tsh pm_tsh an_tsh cd_tsh ct_tsh), sl_tsh⟩)
    (h_c_tsh : PySem.W.codeIn K cd_tsh "Tends.shows" = true)
    (h_k_tsh : PySem.W.keepIn K (.ref f_tsh) = true)
    (h_a_sbo : PySem.W.findIn K (.ref CS) "__bool__" = some (some (.ref f_sbo)))
    (h_i_sbo : PySem.W.isFn K (.ref f_sbo) = true)
    (h_l_sbo : K.lookup f_sbo = some ⟨oc_sbo, od_sbo, .func (PySem.W.fnOf "__bool__" "Good.__bool__" (defArgs sGood) (defBody sGood) (defScope sGood) .none kV_sbo dc_sbo pm_sbo an_sbo cd_sbo ct_sbo), sl_sbo⟩)
    (h_c_sbo : PySem.W.codeIn K cd_sbo "Good.__bool__" = true)
    (h_k_sbo : PySem.W.keepIn K (.ref f_sbo) = true)
    (h_a_tbo : PySem.W.findIn K (.ref CT) "__bool__" = some (some (.ref f_tbo)))
    (h_i_tbo : PySem.W.isFn K (.ref f_tbo) = true)
    (h_l_tbo : K.lookup f_tbo = some ⟨oc_tbo, od_tbo, .func (PySem.W.fnOf "__bool__" "Bad.__bool__" (defArgs sBad) (defBody sBad) (defScope sBad) .none kV_tbo dc_tbo pm_tbo an_tbo cd_tbo ct_tbo), sl_tbo⟩)
    (h_c_tbo : PySem.W.codeIn K cd_tbo "Bad.__bool__" = true)
    (h_k_tbo : PySem.W.keepIn K (.ref f_tbo) = true)
    (h_a_pa : PySem.W.nsIn K mainGlobals "part" = some (some (.ref f_pa)))
    (h_l_pa : K.lookup f_pa = some ⟨oc_pa, od_pa, .func (PySem.W.fnOf "part" "part" (defArgs sPart) (defBody sPart) (defScope sPart) (.ref Tpa) kV_pa dc_pa pm_pa an_pa cd_pa ct_pa), sl_pa⟩)
    (h_c_pa : PySem.W.codeIn K cd_pa "part" = true)
    (h_k_pa : PySem.W.keepIn K (.ref f_pa) = true)
    (h_a_rin : PySem.W.findIn K (.ref C) "__init__" = some (some (.ref f_rin)))
    (h_i_rin : PySem.W.isFn K (.ref f_rin) = true)
    (h_l_rin : K.lookup f_rin = some ⟨oc_rin, od_rin, .func (PySem.W.fnOf "__init__" "Row.__init__" (defArgs sInit) (defBody sInit) (defScope sInit) (.ref Trin) kV_rin dc_rin pm_rin an_rin cd_rin ct_rin), sl_rin⟩)
    (h_c_rin : PySem.W.codeIn K cd_rin "Row.__init__" = true)
    (h_k_rin : PySem.W.keepIn K (.ref f_rin) = true)
    (h_a_rop : PySem.W.findIn K (.ref C) "opened" = some (some (.ref f_rop)))
    (h_i_rop : PySem.W.isFn K (.ref f_rop) = true)
    (h_l_rop : K.lookup f_rop = some ⟨oc_rop, od_rop, .func (PySem.W.fnOf "opened" "Row.opened" (defArgs sOpen) (defBody sOpen) (defScope sOpen) (.ref Trop) kV_rop dc_rop pm_rop an_rop cd_rop ct_rop), sl_rop⟩)
    (h_c_rop : PySem.W.codeIn K cd_rop "Row.opened" = true)
    (h_k_rop : PySem.W.keepIn K (.ref f_rop) = true)
    (h_tpa : K.lookup Tpa = some ⟨oTpa, dTpa, .seq #[.int 1 tkpa] npa, sTpa⟩)
    (h_trin : K.lookup Trin = some ⟨oTrin, dTrin, .seq #[.ref Vrin] nrin, sTrin⟩)
    (h_trop : K.lookup Trop = some ⟨oTrop, dTrop, .seq #[.ref Urop] nrop, sTrop⟩)
    (h_urop : K.lookup Urop = some ⟨.type "tuple", dUrop, .seq #[.int 1 tu1, .int 1 tu2] nuop, sUrop⟩)
    (h_pg_C : PySem.W.plainGet K C Str.empty = true)
    (h_hd_C : PySem.W.hasDictIn K C = true)
    (h_po_C : PySem.W.plainOver K C = true)
    (h_sa_C : PySem.W.findIn K (.ref C) "__setattr__" = some (some (.builtin "object.__setattr__")))
    (h_mk_C : PySem.W.makesIn K C = true)
    (h_kc_C : PySem.W.keepIn K (.ref C) = true)
    (h_pg_CS : PySem.W.plainGet K CS Str.empty = true)
    (h_hd_CS : PySem.W.hasDictIn K CS = true)
    (h_po_CS : PySem.W.plainOver K CS = true)
    (h_sa_CS : PySem.W.findIn K (.ref CS) "__setattr__" = some (some (.builtin "object.__setattr__")))
    (h_mk_CS : PySem.W.makesIn K CS = true)
    (h_kc_CS : PySem.W.keepIn K (.ref CS) = true)
    (h_pg_CT : PySem.W.plainGet K CT Str.empty = true)
    (h_hd_CT : PySem.W.hasDictIn K CT = true)
    (h_po_CT : PySem.W.plainOver K CT = true)
    (h_sa_CT : PySem.W.findIn K (.ref CT) "__setattr__" = some (some (.builtin "object.__setattr__")))
    (h_mk_CT : PySem.W.makesIn K CT = true)
    (h_kc_CT : PySem.W.keepIn K (.ref CT) = true)
    (h_n_areas : PySem.W.findIn K (.ref C) "areas" = some none)
    (h_n_volumes : PySem.W.findIn K (.ref C) "volumes" = some none)
    (h_n_locks : PySem.W.findIn K (.ref C) "locks" = some none)
    (h_n_rounds : PySem.W.findIn K (.ref CS) "rounds" = some none)
    (h_n_width : PySem.W.findIn K (.ref CT) "width" = some none)
    (h_is1 : PySem.W.findIn K (.ref C) "__class__" = some (some (.builtin "object.__class__")))
    (h_is2 : PySem.W.specialIn K (.builtin "object.__class__") "__get__" = some (some (.builtin "getset_descriptor.__get__")))
    (h_is3 : PySem.W.takesIn K (.builtin "object.__class__") = some true)
    (h_is4 : PySem.W.mroIn K C (.type "object") = some true)
    (h_z_abs : PySem.W.nsIn K mainGlobals "abs" = some none)
    (h_z_isinstance : PySem.W.nsIn K mainGlobals "isinstance" = some none)
    (h_z_int : PySem.W.nsIn K mainGlobals "int" = some none)
    (h_z_bool : PySem.W.nsIn K mainGlobals "bool" = some none)
    (h_z_tuple : PySem.W.nsIn K mainGlobals "tuple" = some none)
    (h_z_list : PySem.W.nsIn K mainGlobals "list" = some none)
    (h_z_len : PySem.W.nsIn K mainGlobals "len" = some none)
    (h_z_sum : PySem.W.nsIn K mainGlobals "sum" = some none)
    (h_z_range : PySem.W.nsIn K mainGlobals "range" = some none)
    (h_z_zip : PySem.W.nsIn K mainGlobals "zip" = some none)
    (h_z_all : PySem.W.nsIn K mainGlobals "all" = some none)
    (h_z_any : PySem.W.nsIn K mainGlobals "any" = some none)
    (h_z_sorted : PySem.W.nsIn K mainGlobals "sorted" = some none)
    (h_z_enumerate : PySem.W.nsIn K mainGlobals "enumerate" = some none)
    (h_m1 : PySem.W.nsIn K mainGlobals "MOST_BASINS" = some (some (.int 24 tb1)))
    (h_m2 : PySem.W.nsIn K mainGlobals "MOST_AREA" = some (some (.int 1000 tb2)))
    (h_m3 : PySem.W.nsIn K mainGlobals "MOST_ORDER" = some (some (.int 20000 tb3)))
    (h_m4 : PySem.W.nsIn K mainGlobals "MOST_ROUNDS" = some (some (.int 300 tb4)))
    (h_bnx : PySem.W.excIn K CN [.type "ValueError", .type "Exception", .type "BaseException", .type "object"] "ValueError.__new__" = true)
    (h_bnk : PySem.W.keepIn K (.ref CN) = true)
    (h_bnb : PySem.W.subIn K (.ref CN) (.type "BaseException") = some true)
    (h_bnt : PySem.W.typeIn K (.ref CN) = some (.type "type"))
    (h_bni : PySem.W.isClsIn K CN = true)
    (h_bns : PySem.W.subIn K (.ref CN) (.ref CN) = some true)
    (h_ocls : K.lookup CO = some (PySem.excClassObj nmO qO CO NO bsO [.ref WE, .type "ValueError", .type "Exception", .type "BaseException", .type "object"] true snO subO abO colO ddO m0O m1O m2O m3O m5O "ValueError.__new__"))
    (h_osa : PySem.W.findIn K (.ref CO) "__setattr__" = some (some (.builtin "object.__setattr__")))
    (h_oga : PySem.W.findIn K (.ref CO) "__getattribute__" = some (some (.builtin "BaseException.__getattribute__")))
    (h_ogg : PySem.W.findIn K (.ref CO) "__getattr__" = some none)
    (h_ono : PySem.W.findIn K (.ref CO) "place" = some none)
    (h_oic : PySem.W.findIn K (.ref CO) "__init__" = some (some (.ref fO)))
    (h_otc : PySem.W.typeIn K (.ref fO) = some (.type "function"))
    (h_okc : PySem.W.keepIn K (.ref CO) = true)
    (h_oex : PySem.W.subIn K (.ref CO) (.type "BaseException") = some true)
    (h_ove : PySem.W.subIn K (.ref CO) (.type "ValueError") = some true)
    (h_oty : PySem.W.typeIn K (.ref CO) = some (.type "type"))
    (h_ohd : PySem.W.hasDictIn K CO = true)
    (h_oci : PySem.W.isClsIn K CO = true)
    (h_ose : PySem.W.subIn K (.ref CO) (.ref CO) = some true)
    (h_oms : PySem.W.mroIn K CO (.ref CO) = some true)
    (h_osu : PySem.W.ks_superIn K CO CO "__init__" = some (some (.builtin PySem.OrdX.iVE)))
    (h_osg : PySem.W.nsIn K mainGlobals "super" = some none)
    (h_oop : PySem.W.nsIn K cStatics "thirdparty.any" = some none)
    (h_ohp : (P.main.scope.names.lookup ("super" : Str)).isSome = false)
    (h_olf : K.lookup fO = some ⟨ocO, odO, .func (PySem.W.ksFn "__init__" "BadOrder.__init__" PySem.OrdX.oA PySem.OrdX.oB PySem.OrdX.oS .none kVO dcO pmO anO (.ref cdaO) ctO ccO), slO⟩)
    (h_olc : PySem.W.codeIn K (.ref cdaO) "BadOrder.__init__" = true)
    (h_old : K.lookup cdaO = some ⟨cclO, cddO, .fields vsO, ccsO⟩)
    (h_olv : vsO[2]? = some (.str fileO tfO))
    (h_olp : ((P.main.file : Str) == fileO) = true)
    (h_olx : K.lookup ccO = some ⟨clO, cldO, .cell (some (.ref CO)), cslO⟩)
    : ∃ fd : FuncData, (∀ (s : Shared) (v : Value), BindsTo s fd ⟨[v], []⟩ [("_law_script", v)]) ∧ ∀ base : Heap, K.In base → base.Ns mainGlobals mg → FnOk P w K mg base CX0 11 fa fd ["_law_script"] (spLaw K) := by
  have e := hfa.symm.trans (PySem.W.mg_of X G h_a_lw)
  cases e
  have B : Bl mg := ⟨PySem.W.mg_none_of X G h_z_abs, PySem.W.mg_none_of X G h_z_isinstance, PySem.W.mg_none_of X G h_z_int, PySem.W.mg_none_of X G h_z_bool, PySem.W.mg_none_of X G h_z_tuple, PySem.W.mg_none_of X G h_z_list, PySem.W.mg_none_of X G h_z_len, PySem.W.mg_none_of X G h_z_sum, PySem.W.mg_none_of X G h_z_range, PySem.W.mg_none_of X G h_z_zip, PySem.W.mg_none_of X G h_z_all, PySem.W.mg_none_of X G h_z_any, PySem.W.mg_none_of X G h_z_sorted, PySem.W.mg_none_of X G h_z_enumerate⟩
  have N : Nums mg := ⟨⟨_, PySem.W.mg_of X G h_m1⟩, ⟨_, PySem.W.mg_of X G h_m2⟩, ⟨_, PySem.W.mg_of X G h_m3⟩, ⟨_, PySem.W.mg_of X G h_m4⟩⟩
  have RT : RowTxt K mg C f_rin := ⟨⟨h_pg_C, h_hd_C, h_po_C, h_sa_C⟩, h_n_areas, h_n_volumes, h_n_locks, PySem.W.mg_of X G h_g_C, ⟨h_mk_C, h_a_rin, h_i_rin, h_kc_C⟩⟩
  have IT : IsTxt K C := ⟨h_is1, h_is2, h_is3, h_is4⟩
  have TS : OneTxt K mg "Settles" CS "rounds" f_sin := ⟨⟨h_pg_CS, h_hd_CS, h_po_CS, h_sa_CS⟩, h_n_rounds, PySem.W.mg_of X G h_g_CS, ⟨h_mk_CS, h_a_sin, h_i_sin, h_kc_CS⟩⟩
  have TT : OneTxt K mg "Tends" CT "width" f_tin := ⟨⟨h_pg_CT, h_hd_CT, h_po_CT, h_sa_CT⟩, h_n_width, PySem.W.mg_of X G h_g_CT, ⟨h_mk_CT, h_a_tin, h_i_tin, h_kc_CT⟩⟩
  have TN : ErrTxt K mg "BadNumber" CN := ⟨PySem.W.mg_of X G h_g_CN, h_bnx, h_bnk, h_bnb, h_bnt, h_bni, h_bns⟩
  have TO : PySem.OrdX.OrdTxt P K mg CO fO :=
    { gC := PySem.W.mg_of X G h_g_CO, cls := ⟨nmO, qO, NO, bsO, _, snO, subO, abO, colO, ddO, m0O, m1O, m2O, m3O, m5O, h_ocls, by show PySem.HandSPX.refsVE [.type "ValueError", .type "Exception", .type "BaseException", .type "object"] = true; decide +kernel⟩, sa := h_osa, ga := h_oga, gg := h_ogg, noN := h_ono, iC := h_oic, tC := h_otc, kC := h_okc, exC := h_oex, veC := h_ove, tyC := h_oty, hdC := h_ohd, te := err_self h_oex h_oci h_oty h_ose,
      self := h_oms, sup := h_osu, noG := h_osg, mgS := PySem.W.mg_none_of X G h_osg, opq := h_oop, htop := h_ohp,
      fn := ⟨ocO, odO, .none, kVO, dcO, pmO, anO, cdaO, ccO, ctO, slO, h_olf, h_olc, ⟨cclO, cddO, vsO, ccsO, fileO, tfO, h_old, h_olv, h_olp⟩, ⟨clO, cldO, cslO, h_olx⟩, fun s u v => .of_eq rfl⟩ }
  have F_wh := fun_mk (st := sWhole) h_l_wh h_c_wh h_k_wh
  have b_wh := F_wh.binds (ps := ["thing"]) fun _ _ _ _ _ _ us hl => match us, hl with | [_], _ => rfl
  have F_co := fun_mk (st := sCommon) h_l_co h_c_co h_k_co
  have b_co := F_co.binds (ps := ["one", "other"]) fun _ _ _ _ _ _ us hl => match us, hl with | [_, _], _ => rfl
  have F_ip := fun_mk (st := sIsPart) h_l_ip h_c_ip h_k_ip
  have b_ip := F_ip.binds (ps := ["thing"]) fun _ _ _ _ _ _ us hl => match us, hl with | [_], _ => rfl
  have F_ap := fun_mk (st := sAsPart) h_l_ap h_c_ap h_k_ap
  have b_ap := F_ap.binds (ps := ["thing"]) fun _ _ _ _ _ _ us hl => match us, hl with | [_], _ => rfl
  have F_pl := fun_mk (st := sPlus) h_l_pl h_c_pl h_k_pl
  have b_pl := F_pl.binds (ps := ["one", "other"]) fun _ _ _ _ _ _ us hl => match us, hl with | [_, _], _ => rfl
  have F_mi := fun_mk (st := sMinus) h_l_mi h_c_mi h_k_mi
  have b_mi := F_mi.binds (ps := ["one", "other"]) fun _ _ _ _ _ _ us hl => match us, hl with | [_, _], _ => rfl
  have F_ti := fun_mk (st := sTimes) h_l_ti h_c_ti h_k_ti
  have b_ti := F_ti.binds (ps := ["one", "other"]) fun _ _ _ _ _ _ us hl => match us, hl with | [_, _], _ => rfl
  have F_ov := fun_mk (st := sOver) h_l_ov h_c_ov h_k_ov
  have b_ov := F_ov.binds (ps := ["one", "other"]) fun _ _ _ _ _ _ us hl => match us, hl with | [_, _], _ => rfl
  have F_le := fun_mk (st := sLessT) h_l_le h_c_le h_k_le
  have b_le := F_le.binds (ps := ["one", "other"]) fun _ _ _ _ _ _ us hl => match us, hl with | [_, _], _ => rfl
  have F_gr := fun_mk (st := sGreat) h_l_gr h_c_gr h_k_gr
  have b_gr := F_gr.binds (ps := ["parts"]) fun _ _ _ _ _ _ us hl => match us, hl with | [_], _ => rfl
  have F_sz := fun_mk (st := sSize) h_l_sz h_c_sz h_k_sz
  have b_sz := F_sz.binds (ps := ["one"]) fun _ _ _ _ _ _ us hl => match us, hl with | [_], _ => rfl
  have F_to := fun_mk (st := sTotal) h_l_to h_c_to h_k_to
  have b_to := F_to.binds (ps := ["parts"]) fun _ _ _ _ _ _ us hl => match us, hl with | [_], _ => rfl
  have F_ia := fun_mk (st := sAreas) h_l_ia h_c_ia h_k_ia
  have b_ia := F_ia.binds (ps := ["thing"]) fun _ _ _ _ _ _ us hl => match us, hl with | [_], _ => rfl
  have F_cr := fun_mk (st := sCkR) h_l_cr h_c_cr h_k_cr
  have b_cr := F_cr.binds (ps := ["thing"]) fun _ _ _ _ _ _ us hl => match us, hl with | [_], _ => rfl
  have F_ck := fun_mk (st := sCkO) h_l_ck h_c_ck h_k_ck
  have b_ck := F_ck.binds (ps := ["row", "order"]) fun _ _ _ _ _ _ us hl => match us, hl with | [_, _], _ => rfl
  have F_be := fun_mk (st := sBehind) h_l_be h_c_be h_k_be
  have b_be := F_be.binds (ps := ["row", "order"]) fun _ _ _ _ _ _ us hl => match us, hl with | [_, _], _ => rfl
  have F_ru := fun_mk (st := sRuns) h_l_ru h_c_ru h_k_ru
  have b_ru := F_ru.binds (ps := ["row", "order"]) fun _ _ _ _ _ _ us hl => match us, hl with | [_, _], _ => rfl
  have F_li := fun_mk (st := sLimit) h_l_li h_c_li h_k_li
  have b_li := F_li.binds (ps := ["row", "order"]) fun _ _ _ _ _ _ us hl => match us, hl with | [_, _], _ => rfl
  have F_di := fun_mk (st := sDist) h_l_di h_c_di h_k_di
  have b_di := F_di.binds (ps := ["one", "other"]) fun _ _ _ _ _ _ us hl => match us, hl with | [_, _], _ => rfl
  have F_ro := fun_mk (st := sRounds) h_l_ro h_c_ro h_k_ro
  have b_ro := F_ro.binds (ps := ["row", "order", "many"]) fun _ _ _ _ _ _ us hl => match us, hl with | [_, _, _], _ => rfl
  have F_se := fun_mk (st := sSettling) h_l_se h_c_se h_k_se
  have b_se := F_se.binds (ps := ["row", "order"]) fun _ _ _ _ _ _ us hl => match us, hl with | [_, _], _ => rfl
  have F_wi := fun_mk (st := sWithin) h_l_wi h_c_wi h_k_wi
  have b_wi := F_wi.binds (ps := ["row", "order", "width"]) fun _ _ _ _ _ _ us hl => match us, hl with | [_, _, _], _ => rfl
  have F_ln := fun_mk (st := sNum) h_l_ln h_c_ln h_k_ln
  have b_ln := F_ln.binds (ps := ["_law_script", "_law_index"]) fun _ _ _ _ _ _ us hl => match us, hl with | [_, _], _ => rfl
  have F_lt := fun_mk (st := sTake) h_l_lt h_c_lt h_k_lt
  have b_lt := F_lt.binds (ps := ["_law_draw", "_law_many"]) fun _ _ _ _ _ _ us hl => match us, hl with | [_, _], _ => rfl
  have F_lk := fun_mk (st := sPick) h_l_lk h_c_lk h_k_lk
  have b_lk := F_lk.binds (ps := ["_law_draw", "_law_items"]) fun _ _ _ _ _ _ us hl => match us, hl with | [_, _], _ => rfl
  have F_lc := fun_mk (st := sLCommon) h_l_lc h_c_lc h_k_lc
  have b_lc := F_lc.binds (ps := ["_law_one", "_law_other"]) fun _ _ _ _ _ _ us hl => match us, hl with | [_, _], _ => rfl
  have F_la := fun_mk (st := sLPart) h_l_la h_c_la h_k_la
  have b_la := F_la.binds (ps := ["_law_top", "_law_below"]) fun _ _ _ _ _ _ us hl => match us, hl with | [_, _], _ => rfl
  have F_lp := fun_mk (st := sLPlus) h_l_lp h_c_lp h_k_lp
  have b_lp := F_lp.binds (ps := ["_law_one", "_law_other"]) fun _ _ _ _ _ _ us hl => match us, hl with | [_, _], _ => rfl
  have F_ll := fun_mk (st := sLLess) h_l_ll h_c_ll h_k_ll
  have b_ll := F_ll.binds (ps := ["_law_one", "_law_other"]) fun _ _ _ _ _ _ us hl => match us, hl with | [_, _], _ => rfl
  have F_lm := fun_mk (st := sLTimes) h_l_lm h_c_lm h_k_lm
  have b_lm := F_lm.binds (ps := ["_law_one", "_law_other"]) fun _ _ _ _ _ _ us hl => match us, hl with | [_, _], _ => rfl
  have F_lq := fun_mk (st := sLMinus) h_l_lq h_c_lq h_k_lq
  have b_lq := F_lq.binds (ps := ["_law_one", "_law_other"]) fun _ _ _ _ _ _ us hl => match us, hl with | [_, _], _ => rfl
  have F_ld := fun_mk (st := sDrawn) h_l_ld h_c_ld h_k_ld
  have b_ld := F_ld.binds (ps := ["_law_draw", "_law_most"]) fun _ _ _ _ _ _ us hl => match us, hl with | [_, _], _ => rfl
  have F_lv := fun_mk (st := sLParts) h_l_lv h_c_lv h_k_lv
  have b_lv := F_lv.binds (ps := ["_law_volumes"]) fun _ _ _ _ _ _ us hl => match us, hl with | [_], _ => rfl
  have F_lo := fun_mk (st := sLOpen) h_l_lo h_c_lo h_k_lo
  have b_lo := F_lo.binds (ps := ["_law_areas", "_law_volumes", "_law_weir"]) fun _ _ _ _ _ _ us hl => match us, hl with | [_, _, _], _ => rfl
  have F_lb := fun_mk (st := sLBehind) h_l_lb h_c_lb h_k_lb
  have b_lb := F_lb.binds (ps := ["_law_areas", "_law_volumes", "_law_order_here"]) fun _ _ _ _ _ _ us hl => match us, hl with | [_, _, _], _ => rfl
  have F_lh := fun_mk (st := sLHts) h_l_lh h_c_lh h_k_lh
  have b_lh := F_lh.binds (ps := ["_law_areas", "_law_volumes"]) fun _ _ _ _ _ _ us hl => match us, hl with | [_, _], _ => rfl
  have F_lr := fun_mk (st := sOrder) h_l_lr h_c_lr h_k_lr
  have b_lr := F_lr.binds (ps := ["_law_draw", "_law_weirs", "_law_many"]) fun _ _ _ _ _ _ us hl => match us, hl with | [_, _, _], _ => rfl
  have F_lj := fun_mk (st := sLJoined) h_l_lj h_c_lj h_k_lj
  have b_lj := F_lj.binds (ps := ["_law_many", "_law_order_here"]) fun _ _ _ _ _ _ us hl => match us, hl with | [_, _], _ => rfl
  have F_lE := fun_mk (st := sLEven) h_l_lE h_c_lE h_k_lE
  have b_lE := F_lE.binds (ps := ["_law_areas", "_law_volumes", "_law_order_here"]) fun _ _ _ _ _ _ us hl => match us, hl with | [_, _, _], _ => rfl
  have F_lg := fun_mk (st := sLGap) h_l_lg h_c_lg h_k_lg
  have b_lg := F_lg.binds (ps := ["_law_areas", "_law_one", "_law_other"]) fun _ _ _ _ _ _ us hl => match us, hl with | [_, _, _], _ => rfl
  have F_lw := fun_mk (st := sLaw) h_l_lw h_c_lw h_k_lw
  have F_req := fun_mk (st := sEq) h_l_req h_c_req h_k_req
  have b_req := F_req.binds (ps := ["self", "other"]) fun _ _ _ _ _ _ us hl => match us, hl with | [_, _], _ => rfl
  have F_rle := fun_mk (st := sLen) h_l_rle h_c_rle h_k_rle
  have b_rle := F_rle.binds (ps := ["self"]) fun _ _ _ _ _ _ us hl => match us, hl with | [_], _ => rfl
  have F_rha := fun_mk (st := sHas) h_l_rha h_c_rha h_k_rha
  have b_rha := F_rha.binds (ps := ["self", "weir"]) fun _ _ _ _ _ _ us hl => match us, hl with | [_, _], _ => rfl
  have F_rht := fun_mk (st := sHts) h_l_rht h_c_rht h_k_rht
  have b_rht := F_rht.binds (ps := ["self"]) fun _ _ _ _ _ _ us hl => match us, hl with | [_], _ => rfl
  have F_rcw := fun_mk (st := sCkW) h_l_rcw h_c_rcw h_k_rcw
  have b_rcw := F_rcw.binds (ps := ["self", "weir"]) fun _ _ _ _ _ _ us hl => match us, hl with | [_, _], _ => rfl
  have F_rwi := fun_mk (st := sWith) h_l_rwi h_c_rwi h_k_rwi
  have b_rwi := F_rwi.binds (ps := ["self", "volumes"]) fun _ _ _ _ _ _ us hl => match us, hl with | [_, _], _ => rfl
  have F_sin := fun_mk (st := sSetI) h_l_sin h_c_sin h_k_sin
  have b_sin := F_sin.binds (ps := ["self", "rounds"]) fun _ _ _ _ _ _ us hl => match us, hl with | [_, _], _ => rfl
  have F_ssh := fun_mk (st := sShowS) h_l_ssh h_c_ssh h_k_ssh
  have b_ssh := F_ssh.binds (ps := ["self", "row", "order"]) fun _ _ _ _ _ _ us hl => match us, hl with | [_, _, _], _ => rfl
  have F_tin := fun_mk (st := sTenI) h_l_tin h_c_tin h_k_tin
  have b_tin := F_tin.binds (ps := ["self", "width"]) fun _ _ _ _ _ _ us hl => match us, hl with | [_, _], _ => rfl
  have F_tsh := fun_mk (st := sShowT) h_l_tsh h_c_tsh h_k_tsh
  have b_tsh := F_tsh.binds (ps := ["self", "row", "order"]) fun _ _ _ _ _ _ us hl => match us, hl with | [_, _, _], _ => rfl
  have F_sbo := fun_mk (st := sGood) h_l_sbo h_c_sbo h_k_sbo
  have b_sbo := F_sbo.binds (ps := ["self"]) fun _ _ _ _ _ _ us hl => match us, hl with | [_], _ => rfl
  have F_tbo := fun_mk (st := sBad) h_l_tbo h_c_tbo h_k_tbo
  have b_tbo := F_tbo.binds (ps := ["self"]) fun _ _ _ _ _ _ us hl => match us, hl with | [_], _ => rfl
  have F_pa := funD_1 (st := sPart) (v := .int 1) h_l_pa h_c_pa h_k_pa h_tpa ⟨_, rfl⟩
  have F_rin := funD_1 (st := sInit) (v := .ref Vrin) h_l_rin h_c_rin h_k_rin h_trin rfl
  have F_rop := funD_1 (st := sOpen) (v := .ref Urop) h_l_rop h_c_rop h_k_rop h_trop rfl
  obtain ⟨ds_pa0, v_pa0, b_pa0⟩ := F_pa.binds1 (ps := ["top", "below"]) 1 0 (by simp) rfl fun T kV doc pm an cdv ct us its hu hi => match us, its, hu, hi with | [_], [_], _, _ => ⟨_, rfl, rfl⟩
  obtain ⟨ds_pa1, v_pa1, b_pa1⟩ := F_pa.binds1 (ps := ["top", "below"]) 2 1 (by simp) rfl fun T kV doc pm an cdv ct us its hu hi => match us, its, hu, hi with | [_, _], [_], _, _ => ⟨_, rfl, rfl⟩
  obtain ⟨ds_rin1, v_rin1, b_rin1⟩ := F_rin.binds1 (ps := ["self", "areas", "volumes", "locks"]) 4 1 (by simp) rfl fun T kV doc pm an cdv ct us its hu hi => match us, its, hu, hi with | [_, _, _, _], [_], _, _ => ⟨_, rfl, rfl⟩
  obtain ⟨ds_rop0, v_rop0, b_rop0⟩ := F_rop.binds1 (ps := ["self", "weir", "share"]) 2 0 (by simp) rfl fun T kV doc pm an cdv ct us its hu hi => match us, its, hu, hi with | [_, _], [_], _, _ => ⟨_, rfl, rfl⟩
  have hU : ∀ H : Hp, SqT K H Urop [.int 1, .int 1] := fun H => .inr ⟨_, _, _, h_urop, rfl, rfl, (by show 2 ≤ sizeLine; decide), .cons ⟨_, rfl⟩ (.cons ⟨_, rfl⟩ .nil)⟩
  refine ⟨PySem.W.fnOf "law" "law" (defArgs sLaw) (defBody sLaw) (defScope sLaw) .none kV_lw dc_lw pm_lw an_lw cd_lw ct_lw, fun s v => .of_eq rfl, fun base _ _ => ?_⟩
  have R_wh := toR (P := P) (w := w) (mg := mg) (base := base) (ok_whole F_wh B) b_wh
  have c_wh : Cal P w K mg base _ _ _ _ := ⟨f_wh, R_wh, PySem.W.mg_of X G h_a_wh, h_k_wh⟩
  have R_co := toR (P := P) (w := w) (mg := mg) (base := base) (ok_common F_co ) b_co
  have c_co : Cal P w K mg base _ _ _ _ := ⟨f_co, R_co, PySem.W.mg_of X G h_a_co, h_k_co⟩
  have G_pa := ok_part (P := P) (w := w) (base := base) F_pa B c_co
  have R_pa : FnR P w K mg base CX0 2 f_pa (spPart K) := (G_pa.raw b_pa1 v_pa1).imp fun vs H Q E h => by simpa using h
  have c_pa : Cal P w K mg base CX0 2 "part" (spPart K) := ⟨f_pa, R_pa, PySem.W.mg_of X G h_a_pa, h_k_pa⟩
  have R_pa1 : FnR P w K mg base CX0 2 f_pa (spPart1 K) := (G_pa.raw b_pa0 v_pa0).imp fun vs H Q E h => by
    obtain ⟨t, ⟨rfl, ht⟩, k⟩ := h
    exact ⟨(t, 1), ⟨rfl, by show (0 : Int) < 1; decide, ht, Nat.one_lt_two_pow (by decide)⟩, k⟩
  have c_pa1 : Cal P w K mg base CX0 2 "part" (spPart1 K) := ⟨f_pa, R_pa1, PySem.W.mg_of X G h_a_pa, h_k_pa⟩
  have R_ip := toR (P := P) (w := w) (mg := mg) (base := base) (ok_isPart F_ip B c_wh) b_ip
  have c_ip : Cal P w K mg base _ _ _ _ := ⟨f_ip, R_ip, PySem.W.mg_of X G h_a_ip, h_k_ip⟩
  have R_ap := toR (P := P) (w := w) (mg := mg) (base := base) (ok_asPart F_ap B TN c_ip c_pa c_pa1) b_ap
  have c_ap : Cal P w K mg base _ _ _ _ := ⟨f_ap, R_ap, PySem.W.mg_of X G h_a_ap, h_k_ap⟩
  have R_pl := toR (P := P) (w := w) (mg := mg) (base := base) (ok_plus F_pl c_pa) b_pl
  have c_pl : Cal P w K mg base _ _ _ _ := ⟨f_pl, R_pl, PySem.W.mg_of X G h_a_pl, h_k_pl⟩
  have R_mi := toR (P := P) (w := w) (mg := mg) (base := base) (ok_minus F_mi c_pa) b_mi
  have c_mi : Cal P w K mg base _ _ _ _ := ⟨f_mi, R_mi, PySem.W.mg_of X G h_a_mi, h_k_mi⟩
  have R_ti := toR (P := P) (w := w) (mg := mg) (base := base) (ok_times F_ti c_pa) b_ti
  have c_ti : Cal P w K mg base _ _ _ _ := ⟨f_ti, R_ti, PySem.W.mg_of X G h_a_ti, h_k_ti⟩
  have R_ov := toR (P := P) (w := w) (mg := mg) (base := base) (ok_over F_ov c_pa) b_ov
  have c_ov : Cal P w K mg base _ _ _ _ := ⟨f_ov, R_ov, PySem.W.mg_of X G h_a_ov, h_k_ov⟩
  have R_le := toR (P := P) (w := w) (mg := mg) (base := base) (ok_less F_le ) b_le
  have c_le : Cal P w K mg base _ _ _ _ := ⟨f_le, R_le, PySem.W.mg_of X G h_a_le, h_k_le⟩
  have R_gr := toR (P := P) (w := w) (mg := mg) (base := base) (ok_great F_gr c_le) b_gr
  have c_gr : Cal P w K mg base _ _ _ _ := ⟨f_gr, R_gr, PySem.W.mg_of X G h_a_gr, h_k_gr⟩
  have R_sz := toR (P := P) (w := w) (mg := mg) (base := base) (ok_size F_sz B) b_sz
  have c_sz : Cal P w K mg base _ _ _ _ := ⟨f_sz, R_sz, PySem.W.mg_of X G h_a_sz, h_k_sz⟩
  have R_to := toR (P := P) (w := w) (mg := mg) (base := base) (ok_total F_to c_pl) b_to
  have c_to : Cal P w K mg base _ _ _ _ := ⟨f_to, R_to, PySem.W.mg_of X G h_a_to, h_k_to⟩
  have R_ia := toR (P := P) (w := w) (mg := mg) (base := base) (ok_areas F_ia B N c_wh) b_ia
  have c_ia : Cal P w K mg base _ _ _ _ := ⟨f_ia, R_ia, PySem.W.mg_of X G h_a_ia, h_k_ia⟩
  have R_rin : FnR P w K mg base CX0 4 f_rin (spInit K C) := ((ok_init (P := P) (w := w) (base := base) F_rin B RT c_ia c_wh c_ip c_ap).raw b_rin1 v_rin1).imp fun vs H Q E h => by simpa using h
  have R_req := toR (P := P) (w := w) (mg := mg) (base := base) (ok_eq F_req B RT IT) b_req
  have R_rle := toR (P := P) (w := w) (mg := mg) (base := base) (ok_len F_rle B RT) b_rle
  have R_rha := toR (P := P) (w := w) (mg := mg) (base := base) (ok_has F_rha B RT) b_rha
  have R_rht := toR (P := P) (w := w) (mg := mg) (base := base) (ok_hts F_rht B RT c_ov c_pa1) b_rht
  have c_rht : CalM P w K mg base _ _ C "heights" _ := ⟨f_rht, R_rht, ⟨h_a_rht, h_i_rht, h_k_rht⟩⟩
  have R_rcw := toR (P := P) (w := w) (mg := mg) (base := base) (ok_ckW F_rcw B RT c_wh) b_rcw
  have c_rcw : CalM P w K mg base _ _ C "check_weir" _ := ⟨f_rcw, R_rcw, ⟨h_a_rcw, h_i_rcw, h_k_rcw⟩⟩
  have R_rwi := toR (P := P) (w := w) (mg := mg) (base := base) (ok_with F_rwi B RT R_rin) b_rwi
  have c_rwi : CalM P w K mg base _ _ C "with_volumes" _ := ⟨f_rwi, R_rwi, ⟨h_a_rwi, h_i_rwi, h_k_rwi⟩⟩
  have R_rop : FnR P w K mg base CX0 7 f_rop (spOpen1 K C) := ((ok_open (P := P) (w := w) (base := base) F_rop RT c_rcw c_rwi c_pl c_mi c_ti c_pa).raw b_rop0 v_rop0).imp fun vs H Q E h => by
    obtain ⟨a, ⟨⟨x, rfl, r⟩, g, wo, inv, he⟩, k⟩ := h
    exact ⟨a, ⟨⟨x, .ref Urop, rfl, r, ⟨Urop, rfl, hU H⟩⟩, g, wo, inv, he⟩, k⟩
  have c_rop : CalM P w K mg base _ _ C "opened" _ := ⟨f_rop, R_rop, ⟨h_a_rop, h_i_rop, h_k_rop⟩⟩
  have OL : Own K C "__len__" f_rle := ⟨h_a_rle, h_i_rle⟩
  have OE : Own K C "__eq__" f_req := ⟨h_a_req, h_i_req⟩
  have OH : Own K C "__contains__" f_rha := ⟨h_a_rha, h_i_rha⟩
  have R_cr := toR (P := P) (w := w) (mg := mg) (base := base) (ok_ckR F_cr B RT IT) b_cr
  have c_cr : Cal P w K mg base _ _ _ _ := ⟨f_cr, R_cr, PySem.W.mg_of X G h_a_cr, h_k_cr⟩
  have R_ck := toR (P := P) (w := w) (mg := mg) (base := base) (ok_ckO F_ck B N OH R_rha c_wh TO) b_ck
  have c_ck : Cal P w K mg base _ _ _ _ := ⟨f_ck, R_ck, PySem.W.mg_of X G h_a_ck, h_k_ck⟩
  have R_be := toR (P := P) (w := w) (mg := mg) (base := base) (ok_behind F_be RT c_cr c_ck c_rop) b_be
  have c_be : Cal P w K mg base _ _ _ _ := ⟨f_be, R_be, PySem.W.mg_of X G h_a_be, h_k_be⟩
  have R_ro := toR (P := P) (w := w) (mg := mg) (base := base) (ok_rounds F_ro B c_be) b_ro
  have c_ro : Cal P w K mg base _ _ _ _ := ⟨f_ro, R_ro, PySem.W.mg_of X G h_a_ro, h_k_ro⟩
  have R_ru := toR (P := P) (w := w) (mg := mg) (base := base) (ok_runs F_ru B OL R_rle c_cr c_ck) b_ru
  have c_ru : Cal P w K mg base _ _ _ _ := ⟨f_ru, R_ru, PySem.W.mg_of X G h_a_ru, h_k_ru⟩
  have R_li := toR (P := P) (w := w) (mg := mg) (base := base) (ok_limit F_li B RT c_ru c_ov c_to c_pa1 c_ti c_rwi) b_li
  have c_li : Cal P w K mg base _ _ _ _ := ⟨f_li, R_li, PySem.W.mg_of X G h_a_li, h_k_li⟩
  have R_di := toR (P := P) (w := w) (mg := mg) (base := base) (ok_dist F_di B RT c_rht c_gr c_sz c_mi) b_di
  have c_di : Cal P w K mg base _ _ _ _ := ⟨f_di, R_di, PySem.W.mg_of X G h_a_di, h_k_di⟩
  have R_sin := toR (P := P) (w := w) (mg := mg) (base := base) (ok_setI F_sin TS) b_sin
  have R_tin := toR (P := P) (w := w) (mg := mg) (base := base) (ok_tenI F_tin TT) b_tin
  have R_se := toR (P := P) (w := w) (mg := mg) (base := base) (ok_settling F_se B OL R_rle OE R_req c_li c_ro c_di TS R_sin TT R_tin) b_se
  have c_se : Cal P w K mg base _ _ _ _ := ⟨f_se, R_se, PySem.W.mg_of X G h_a_se, h_k_se⟩
  have R_ssh := toR (P := P) (w := w) (mg := mg) (base := base) (ok_showS F_ssh N OE R_req c_wh c_li c_ro TS) b_ssh
  have c_ssh : CalM P w K mg base _ _ CS "shows" _ := ⟨f_ssh, R_ssh, ⟨h_a_ssh, h_i_ssh, h_k_ssh⟩⟩
  have R_tsh := toR (P := P) (w := w) (mg := mg) (base := base) (ok_showT F_tsh B OL R_rle c_li c_ro c_di TT) b_tsh
  have c_tsh : CalM P w K mg base _ _ CT "shows" _ := ⟨f_tsh, R_tsh, ⟨h_a_tsh, h_i_tsh, h_k_tsh⟩⟩
  have R_wi := toR (P := P) (w := w) (mg := mg) (base := base) (ok_within F_wi N TN c_li c_ap c_le c_di c_be) b_wi
  have c_wi : Cal P w K mg base _ _ _ _ := ⟨f_wi, R_wi, PySem.W.mg_of X G h_a_wi, h_k_wi⟩
  have R_sbo := toR (P := P) (w := w) (mg := mg) (base := base) (ok_good F_sbo ) b_sbo
  have R_tbo := toR (P := P) (w := w) (mg := mg) (base := base) (ok_bad F_tbo ) b_tbo
  have R_lc := toR (P := P) (w := w) (mg := mg) (base := base) (ok_lCommon F_lc B) b_lc
  have c_lc : Cal P w K mg base _ _ _ _ := ⟨f_lc, R_lc, PySem.W.mg_of X G h_a_lc, h_k_lc⟩
  have R_la := toR (P := P) (w := w) (mg := mg) (base := base) (ok_lPart F_la B c_lc) b_la
  have c_la : Cal P w K mg base _ _ _ _ := ⟨f_la, R_la, PySem.W.mg_of X G h_a_la, h_k_la⟩
  have R_lp := toR (P := P) (w := w) (mg := mg) (base := base) (ok_lPlus F_lp c_la) b_lp
  have c_lp : Cal P w K mg base _ _ _ _ := ⟨f_lp, R_lp, PySem.W.mg_of X G h_a_lp, h_k_lp⟩
  have R_lm := toR (P := P) (w := w) (mg := mg) (base := base) (ok_lTimes F_lm c_la) b_lm
  have c_lm : Cal P w K mg base _ _ _ _ := ⟨f_lm, R_lm, PySem.W.mg_of X G h_a_lm, h_k_lm⟩
  have R_lq := toR (P := P) (w := w) (mg := mg) (base := base) (ok_lMinus F_lq c_la) b_lq
  have c_lq : Cal P w K mg base _ _ _ _ := ⟨f_lq, R_lq, PySem.W.mg_of X G h_a_lq, h_k_lq⟩
  have R_ll := toR (P := P) (w := w) (mg := mg) (base := base) (ok_lLess F_ll ) b_ll
  have c_ll : Cal P w K mg base _ _ _ _ := ⟨f_ll, R_ll, PySem.W.mg_of X G h_a_ll, h_k_ll⟩
  have R_lv := toR (P := P) (w := w) (mg := mg) (base := base) (ok_lParts F_lv B) b_lv
  have c_lv : Cal P w K mg base _ _ _ _ := ⟨f_lv, R_lv, PySem.W.mg_of X G h_a_lv, h_k_lv⟩
  have R_lo := toR (P := P) (w := w) (mg := mg) (base := base) (ok_lOpen F_lo c_lp c_lm c_la) b_lo
  have c_lo : Cal P w K mg base _ _ _ _ := ⟨f_lo, R_lo, PySem.W.mg_of X G h_a_lo, h_k_lo⟩
  have R_lb := toR (P := P) (w := w) (mg := mg) (base := base) (ok_lBehind F_lb c_lo) b_lb
  have c_lb : Cal P w K mg base _ _ _ _ := ⟨f_lb, R_lb, PySem.W.mg_of X G h_a_lb, h_k_lb⟩
  have R_lh := toR (P := P) (w := w) (mg := mg) (base := base) (ok_lHts F_lh B c_lm) b_lh
  have c_lh : Cal P w K mg base _ _ _ _ := ⟨f_lh, R_lh, PySem.W.mg_of X G h_a_lh, h_k_lh⟩
  have R_lj := toR (P := P) (w := w) (mg := mg) (base := base) (ok_lJoined F_lj B) b_lj
  have c_lj : Cal P w K mg base _ _ _ _ := ⟨f_lj, R_lj, PySem.W.mg_of X G h_a_lj, h_k_lj⟩
  have R_lE := toR (P := P) (w := w) (mg := mg) (base := base) (ok_lEven F_lE B c_lj c_lp c_lm) b_lE
  have c_lE : Cal P w K mg base _ _ _ _ := ⟨f_lE, R_lE, PySem.W.mg_of X G h_a_lE, h_k_lE⟩
  have R_lg := toR (P := P) (w := w) (mg := mg) (base := base) (ok_lGap F_lg B c_lh c_lq c_ll) b_lg
  have c_lg : Cal P w K mg base _ _ _ _ := ⟨f_lg, R_lg, PySem.W.mg_of X G h_a_lg, h_k_lg⟩
  have R_ln := toR (P := P) (w := w) (mg := mg) (base := base) (ok_num F_ln B) b_ln
  have c_ln : Cal P w K mg base _ _ _ _ := ⟨f_ln, R_ln, PySem.W.mg_of X G h_a_ln, h_k_ln⟩
  have R_lt := toR (P := P) (w := w) (mg := mg) (base := base) (ok_take F_lt B c_ln) b_lt
  have c_lt : Cal P w K mg base _ _ _ _ := ⟨f_lt, R_lt, PySem.W.mg_of X G h_a_lt, h_k_lt⟩
  have R_lk := toR (P := P) (w := w) (mg := mg) (base := base) (ok_pick F_lk B c_lt) b_lk
  have c_lk : Cal P w K mg base _ _ _ _ := ⟨f_lk, R_lk, PySem.W.mg_of X G h_a_lk, h_k_lk⟩
  have R_ld := toR (P := P) (w := w) (mg := mg) (base := base) (ok_drawn F_ld B c_lt c_lk) b_ld
  have c_ld : Cal P w K mg base _ _ _ _ := ⟨f_ld, R_ld, PySem.W.mg_of X G h_a_ld, h_k_ld⟩
  have R_lr := toR (P := P) (w := w) (mg := mg) (base := base) (ok_order F_lr B c_lk) b_lr
  have c_lr : Cal P w K mg base _ _ _ _ := ⟨f_lr, R_lr, PySem.W.mg_of X G h_a_lr, h_k_lr⟩
  exact ok_law F_lw
    { B := B, drawn := c_ld, take := c_lt, pick := c_lk, order := c_lr, parts := c_lv, even := c_lE, joined := c_lj, gap := c_lg, lbeh := c_lb, less := c_ll, plus := c_lp, row := RT, rowI := R_rin, runs := c_ru, limit := c_li, sett := c_se, within := c_wi,
      TS := TS, setI := R_sin, TT := TT, tenI := R_tin, shS := c_ssh, shT := c_tsh, OBS := ⟨h_a_sbo, h_i_sbo⟩, bS := R_sbo, OBT := ⟨h_a_tbo, h_i_tbo⟩, bT := R_tbo, TN := TN, teN := err_self h_bnb h_bni h_bnt h_bns, TO := TO }
theorem walk {l : PySem.W.OpenLaw} {q : Program} {loose : List Str} {XP : (Str → Option Value) → Heap → Prop} {YP : World → Heap → Prop} {d : DefRec} {K : Params → PySem.W.Frag} (hn : l.most = some 63) (hdf : d.params.defaults = [])
    (hY : ∀ (w : World) (h : Heap), YP w h → (K w.params).In h)
    (F : ∀ (w : World) (mg : Str → Option Value) (fa : Addr) (h : Heap), (K w.params).In h → h.Ns mainGlobals mg → mg d.name = some (.ref fa) →
      ∃ fd : FuncData, (∀ (s : Shared) (u : Value), BindsTo s fd ⟨[u], []⟩ [("_law_script", u)]) ∧ ∀ base : Heap, (K w.params).In base → base.Ns mainGlobals mg → FnOk l.prog w (K w.params) mg base CX0 11 fa fd ["_law_script"] (spLaw (K w.params))) :
    PySem.W.WalkO q loose XP YP l.row.toRowW d [] (fun f vs => PySem.call f vs) :=
  L2.walk_of (n := 63) (k := 11) (x := "_law_script") (CX := fun _ => CX0) (sp := fun w => spLaw (K w.params)) hn (by decide) hdf ⟨rfl, by decide, by decide⟩ hY F (fun _ _ a ns hl _ hS => ⟨a, ns, rfl, hS, hl, fun _ => rfl⟩) fun _ _ _ _ _ z => z
end WD
set_option Elab.async false
set_option linter.all false
open PySem PySem.W PyProof.Rows
set_option maxRecDepth 100000 in
set_option maxHeartbeats 0 in
theorem PySem.Challenge.cw_weirlines_k43_whole_loops_holds : PySem.Challenge.rw_weirlines_k43_whole_loops.Holds := by
  w_on; o_law; k_head; (case hw => w_witness2)
  k_fill
  refine WD.walk (l := PySem.Challenge.rw_weirlines_k43_whole_loops) rfl rfl (fun w h Y => PySem.W.kIn_of Y) ?F
  case F =>
    intro w mg fa h KX G hmg
    refine' WD.all_mk KX G hmg ?h_g_C ?h_g_CS ?h_g_CT ?h_g_CN ?h_g_CO ?h_a_wh ?h_l_wh ?h_c_wh ?h_k_wh ?h_a_co ?h_l_co ?h_c_co ?h_k_co ?h_a_ip ?h_l_ip ?h_c_ip ?h_k_ip ?h_a_ap ?h_l_ap ?h_c_ap ?h_k_ap ?h_a_pl ?h_l_pl ?h_c_pl ?h_k_pl ?h_a_mi ?h_l_mi ?h_c_mi ?h_k_mi ?h_a_ti ?h_l_ti ?h_c_ti ?h_k_ti ?h_a_ov ?h_l_ov ?h_c_ov ?h_k_ov ?h_a_le ?h_l_le ?h_c_le ?h_k_le ?h_a_gr ?h_l_gr ?h_c_gr ?h_k_gr ?h_a_sz ?h_l_sz ?h_c_sz ?h_k_sz ?h_a_to ?h_l_to ?h_c_to ?h_k_to ?h_a_ia ?h_l_ia ?h_c_ia ?h_k_ia ?h_a_cr ?h_l_cr ?h_c_cr ?h_k_cr ?h_a_ck ?h_l_ck ?h_c_ck ?h_k_ck ?h_a_be ?h_l_be ?h_c_be ?h_k_be ?h_a_ru ?h_l_ru ?h_c_ru ?h_k_ru ?h_a_li ?h_l_li ?h_c_li ?h_k_li ?h_a_di ?h_l_di ?h_c_di ?h_k_di ?h_a_ro ?h_l_ro ?h_c_ro ?h_k_ro ?h_a_se ?h_l_se ?h_c_se ?h_k_se ?h_a_wi ?h_l_wi ?h_c_wi ?h_k_wi ?h_a_ln ?h_l_ln ?h_c_ln ?h_k_ln ?h_a_lt ?h_l_lt ?h_c_lt ?h_k_lt ?h_a_lk ?h_l_lk ?h_c_lk ?h_k_lk ?h_a_lc ?h_l_lc ?h_c_lc ?h_k_lc ?h_a_la ?h_l_la ?h_c_la ?h_k_la ?h_a_lp ?h_l_lp ?h_c_lp ?h_k_lp ?h_a_ll ?h_l_ll ?h_c_ll ?h_k_ll ?h_a_lm ?h_l_lm ?h_c_lm ?h_k_lm ?h_a_lq ?h_l_lq ?h_c_lq ?h_k_lq ?h_a_ld ?h_l_ld ?h_c_ld ?h_k_ld ?h_a_lv ?h_l_lv ?h_c_lv ?h_k_lv ?h_a_lo ?h_l_lo ?h_c_lo ?h_k_lo ?h_a_lb ?h_l_lb ?h_c_lb ?h_k_lb ?h_a_lh ?h_l_lh ?h_c_lh ?h_k_lh ?h_a_lr ?h_l_lr ?h_c_lr ?h_k_lr ?h_a_lj ?h_l_lj ?h_c_lj ?h_k_lj ?h_a_lE ?h_l_lE ?h_c_lE ?h_k_lE ?h_a_lg ?h_l_lg ?h_c_lg ?h_k_lg ?h_a_lw ?h_l_lw ?h_c_lw ?h_k_lw ?h_a_req ?h_i_req ?h_l_req ?h_c_req ?h_k_req ?h_a_rle ?h_i_rle ?h_l_rle ?h_c_rle ?h_k_rle ?h_a_rha ?h_i_rha ?h_l_rha ?h_c_rha ?h_k_rha ?h_a_rht ?h_i_rht ?h_l_rht ?h_c_rht ?h_k_rht ?h_a_rcw ?h_i_rcw ?h_l_rcw ?h_c_rcw ?h_k_rcw ?h_a_rwi ?h_i_rwi ?h_l_rwi ?h_c_rwi ?h_k_rwi ?h_a_sin ?h_i_sin ?h_l_sin ?h_c_sin ?h_k_sin ?h_a_ssh ?h_i_ssh ?h_l_ssh ?h_c_ssh ?h_k_ssh ?h_a_tin ?h_i_tin ?h_l_tin ?h_c_tin ?h_k_tin ?h_a_tsh ?h_i_tsh ?h_l_tsh ?h_c_tsh ?h_k_tsh ?h_a_sbo ?h_i_sbo ?h_l_sbo ?h_c_sbo ?h_k_sbo ?h_a_tbo ?h_i_tbo ?h_l_tbo ?h_c_tbo ?h_k_tbo ?h_a_pa ?h_l_pa ?h_c_pa ?h_k_pa ?h_a_rin ?h_i_rin ?h_l_rin ?h_c_rin ?h_k_rin ?h_a_rop ?h_i_rop ?h_l_rop ?h_c_rop ?h_k_rop ?h_tpa ?h_trin ?h_trop ?h_urop ?h_pg_C ?h_hd_C ?h_po_C ?h_sa_C ?h_mk_C ?h_kc_C ?h_pg_CS ?h_hd_CS ?h_po_CS ?h_sa_CS ?h_mk_CS ?h_kc_CS ?h_pg_CT ?h_hd_CT ?h_po_CT ?h_sa_CT ?h_mk_CT ?h_kc_CT ?h_n_areas ?h_n_volumes ?h_n_locks ?h_n_rounds ?h_n_width ?h_is1 ?h_is2 ?h_is3 ?h_is4 ?h_z_abs ?h_z_isinstance ?h_z_int ?h_z_bool ?h_z_tuple ?h_z_list ?h_z_len ?h_z_sum ?h_z_range ?h_z_zip ?h_z_all ?h_z_any ?h_z_sorted ?h_z_enumerate ?h_m1 ?h_m2 ?h_m3 ?h_m4 ?h_bnx ?h_bnk ?h_bnb ?h_bnt ?h_bni ?h_bns ?h_ocls ?h_osa ?h_oga ?h_ogg ?h_ono ?h_oic ?h_otc ?h_okc ?h_oex ?h_ove ?h_oty ?h_ohd ?h_oci ?h_ose ?h_oms ?h_osu ?h_osg ?h_oop ?h_ohp ?h_olf ?h_olc ?h_old ?h_olv ?h_olp ?h_olx
    (case h_g_C => k_is)
    (case h_g_CS => k_is)
    (case h_g_CT => k_is)
    (case h_g_CN => k_is)
    (case h_g_CO => k_is)
    (case h_a_wh => k_is)
    (case h_l_wh => k_is)
    (case h_c_wh => k_is)
    (case h_k_wh => k_is)
    (case h_a_co => k_is)
    (case h_l_co => k_is)
    (case h_c_co => k_is)
    (case h_k_co => k_is)
    (case h_a_ip => k_is)
    (case h_l_ip => k_is)
    (case h_c_ip => k_is)
    (case h_k_ip => k_is)
    (case h_a_ap => k_is)
    (case h_l_ap => k_is)
    (case h_c_ap => k_is)
    (case h_k_ap => k_is)
    (case h_a_pl => k_is)
    (case h_l_pl => k_is)
    (case h_c_pl => k_is)
    (case h_k_pl => k_is)
    (case h_a_mi => k_is)
    (case h_l_mi => k_is)
    (case h_c_mi => k_is)
    (case h_k_mi => k_is)
    (case h_a_ti => k_is)
    (case h_l_ti => k_is)
    (case h_c_ti => k_is)
    (case h_k_ti => k_is)
    (case h_a_ov => k_is)
    (case h_l_ov => k_is)
    (case h_c_ov => k_is)
    (case h_k_ov => k_is)
    (case h_a_le => k_is)
    (case h_l_le => k_is)
    (case h_c_le => k_is)
    (case h_k_le => k_is)
    (case h_a_gr => k_is)
    (case h_l_gr => k_is)
    (case h_c_gr => k_is)
    (case h_k_gr => k_is)
    (case h_a_sz => k_is)
    (case h_l_sz => k_is)
    (case h_c_sz => k_is)
    (case h_k_sz => k_is)
    (case h_a_to => k_is)
    (case h_l_to => k_is)
    (case h_c_to => k_is)
    (case h_k_to => k_is)
    (case h_a_ia => k_is)
    (case h_l_ia => k_is)
    (case h_c_ia => k_is)
    (case h_k_ia => k_is)
    (case h_a_cr => k_is)
    (case h_l_cr => k_is)
    (case h_c_cr => k_is)
    (case h_k_cr => k_is)
    (case h_a_ck => k_is)
    (case h_l_ck => k_is)
    (case h_c_ck => k_is)
    (case h_k_ck => k_is)
    (case h_a_be => k_is)
    (case h_l_be => k_is)
    (case h_c_be => k_is)
    (case h_k_be => k_is)
    (case h_a_ru => k_is)
    (case h_l_ru => k_is)
    (case h_c_ru => k_is)
    (case h_k_ru => k_is)
    (case h_a_li => k_is)
    (case h_l_li => k_is)
    (case h_c_li => k_is)
    (case h_k_li => k_is)
    (case h_a_di => k_is)
    (case h_l_di => k_is)
    (case h_c_di => k_is)
    (case h_k_di => k_is)
    (case h_a_ro => k_is)
    (case h_l_ro => k_is)
    (case h_c_ro => k_is)
    (case h_k_ro => k_is)
    (case h_a_se => k_is)
    (case h_l_se => k_is)
    (case h_c_se => k_is)
    (case h_k_se => k_is)
    (case h_a_wi => k_is)
    (case h_l_wi => k_is)
    (case h_c_wi => k_is)
    (case h_k_wi => k_is)
    (case h_a_ln => k_is)
    (case h_l_ln => k_is)
    (case h_c_ln => k_is)
    (case h_k_ln => k_is)
    (case h_a_lt => k_is)
    (case h_l_lt => k_is)
    (case h_c_lt => k_is)
    (case h_k_lt => k_is)
    (case h_a_lk => k_is)
    (case h_l_lk => k_is)
    (case h_c_lk => k_is)
    (case h_k_lk => k_is)
    (case h_a_lc => k_is)
    (case h_l_lc => k_is)
    (case h_c_lc => k_is)
    (case h_k_lc => k_is)
    (case h_a_la => k_is)
    (case h_l_la => k_is)
    (case h_c_la => k_is)
    (case h_k_la => k_is)
    (case h_a_lp => k_is)
    (case h_l_lp => k_is)
    (case h_c_lp => k_is)
    (case h_k_lp => k_is)
    (case h_a_ll => k_is)
    (case h_l_ll => k_is)
    (case h_c_ll => k_is)
    (case h_k_ll => k_is)
    (case h_a_lm => k_is)
    (case h_l_lm => k_is)
    (case h_c_lm => k_is)
    (case h_k_lm => k_is)
    (case h_a_lq => k_is)
    (case h_l_lq => k_is)
    (case h_c_lq => k_is)
    (case h_k_lq => k_is)
    (case h_a_ld => k_is)
    (case h_l_ld => k_is)
    (case h_c_ld => k_is)
    (case h_k_ld => k_is)
    (case h_a_lv => k_is)
    (case h_l_lv => k_is)
    (case h_c_lv => k_is)
    (case h_k_lv => k_is)
    (case h_a_lo => k_is)
    (case h_l_lo => k_is)
    (case h_c_lo => k_is)
    (case h_k_lo => k_is)
    (case h_a_lb => k_is)
    (case h_l_lb => k_is)
    (case h_c_lb => k_is)
    (case h_k_lb => k_is)
    (case h_a_lh => k_is)
    (case h_l_lh => k_is)
    (case h_c_lh => k_is)
    (case h_k_lh => k_is)
    (case h_a_lr => k_is)
    (case h_l_lr => k_is)
    (case h_c_lr => k_is)
    (case h_k_lr => k_is)
    (case h_a_lj => k_is)
    (case h_l_lj => k_is)
    (case h_c_lj => k_is)
    (case h_k_lj => k_is)
    (case h_a_lE => k_is)
    (case h_l_lE => k_is)
    (case h_c_lE => k_is)
    (case h_k_lE => k_is)
    (case h_a_lg => k_is)
    (case h_l_lg => k_is)
    (case h_c_lg => k_is)
    (case h_k_lg => k_is)
    (case h_a_lw => k_is)
    (case h_l_lw => k_is)
    (case h_c_lw => k_is)
    (case h_k_lw => k_is)
    (case h_a_req => k_is)
    (case h_i_req => k_is)
    (case h_l_req => k_is)
    (case h_c_req => k_is)
    (case h_k_req => k_is)
    (case h_a_rle => k_is)
    (case h_i_rle => k_is)
    (case h_l_rle => k_is)
    (case h_c_rle => k_is)
    (case h_k_rle => k_is)
    (case h_a_rha => k_is)
    (case h_i_rha => k_is)
    (case h_l_rha => k_is)
    (case h_c_rha => k_is)
    (case h_k_rha => k_is)
    (case h_a_rht => k_is)
    (case h_i_rht => k_is)
    (case h_l_rht => k_is)
    (case h_c_rht => k_is)
    (case h_k_rht => k_is)
    (case h_a_rcw => k_is)
    (case h_i_rcw => k_is)
    (case h_l_rcw => k_is)
    (case h_c_rcw => k_is)
    (case h_k_rcw => k_is)
    (case h_a_rwi => k_is)
    (case h_i_rwi => k_is)
    (case h_l_rwi => k_is)
    (case h_c_rwi => k_is)
    (case h_k_rwi => k_is)
    (case h_a_sin => k_is)
    (case h_i_sin => k_is)
    (case h_l_sin => k_is)
    (case h_c_sin => k_is)
    (case h_k_sin => k_is)
    (case h_a_ssh => k_is)
    (case h_i_ssh => k_is)
    (case h_l_ssh => k_is)
    (case h_c_ssh => k_is)
    (case h_k_ssh => k_is)
    (case h_a_tin => k_is)
    (case h_i_tin => k_is)
    (case h_l_tin => k_is)
    (case h_c_tin => k_is)
    (case h_k_tin => k_is)
    (case h_a_tsh => k_is)
    (case h_i_tsh => k_is)
    (case h_l_tsh => k_is)
    (case h_c_tsh => k_is)
    (case h_k_tsh => k_is)
    (case h_a_sbo => k_is)
    (case h_i_sbo => k_is)
    (case h_l_sbo => k_is)
    (case h_c_sbo => k_is)
    (case h_k_sbo => k_is)
    (case h_a_tbo => k_is)
    (case h_i_tbo => k_is)
    (case h_l_tbo => k_is)
    (case h_c_tbo => k_is)
    (case h_k_tbo => k_is)
    (case h_a_pa => k_is)
    (case h_l_pa => k_is)
    (case h_c_pa => k_is)
    (case h_k_pa => k_is)
    (case h_a_rin => k_is)
    (case h_i_rin => k_is)
    (case h_l_rin => k_is)
    (case h_c_rin => k_is)
    (case h_k_rin => k_is)
    (case h_a_rop => k_is)
    (case h_i_rop => k_is)
    (case h_l_rop => k_is)
    (case h_c_rop => k_is)
    (case h_k_rop => k_is)
    (case h_tpa => k_is)
    (case h_trin => k_is)
    (case h_trop => k_is)
    (case h_urop => k_is)
    (case h_pg_C => k_is)
    (case h_hd_C => k_is)
    (case h_po_C => k_is)
    (case h_sa_C => k_is)
    (case h_mk_C => k_is)
    (case h_kc_C => k_is)
    (case h_pg_CS => k_is)
    (case h_hd_CS => k_is)
    (case h_po_CS => k_is)
    (case h_sa_CS => k_is)
    (case h_mk_CS => k_is)
    (case h_kc_CS => k_is)
    (case h_pg_CT => k_is)
    (case h_hd_CT => k_is)
    (case h_po_CT => k_is)
    (case h_sa_CT => k_is)
    (case h_mk_CT => k_is)
    (case h_kc_CT => k_is)
    (case h_n_areas => k_is)
    (case h_n_volumes => k_is)
    (case h_n_locks => k_is)
    (case h_n_rounds => k_is)
    (case h_n_width => k_is)
    (case h_is1 => k_is)
    (case h_is2 => k_is)
    (case h_is3 => k_is)
    (case h_is4 => k_is)
    (case h_z_abs => k_is)
    (case h_z_isinstance => k_is)
    (case h_z_int => k_is)
    (case h_z_bool => k_is)
    (case h_z_tuple => k_is)
    (case h_z_list => k_is)
    (case h_z_len => k_is)
    (case h_z_sum => k_is)
    (case h_z_range => k_is)
    (case h_z_zip => k_is)
    (case h_z_all => k_is)
    (case h_z_any => k_is)
    (case h_z_sorted => k_is)
    (case h_z_enumerate => k_is)
    (case h_m1 => k_is)
    (case h_m2 => k_is)
    (case h_m3 => k_is)
    (case h_m4 => k_is)
    (case h_bnx => k_exc)
    (case h_bnk => k_is)
    (case h_bnb => k_is)
    (case h_bnt => k_is)
    (case h_bni => k_is)
    (case h_bns => first | rfl | k_is)
    (case h_ocls => k_is)
    (case h_osa => k_is)
    (case h_oga => k_is)
    (case h_ogg => k_is)
    (case h_ono => k_is)
    (case h_oic => k_is)
    (case h_otc => k_is)
    (case h_okc => k_is)
    (case h_oex => k_is)
    (case h_ove => k_is)
    (case h_oty => k_is)
    (case h_ohd => k_is)
    (case h_oci => k_is)
    (case h_ose => first | rfl | k_is)
    (case h_oms => k_is)
    (case h_osu => ks_is)
    (case h_osg => k_is)
    (case h_oop => k_is)
    (case h_ohp => first | rfl | decide +kernel)
    (case h_olf => k_is)
    (case h_olc => k_is)
    (case h_old => k_is)
    (case h_olv => first | rfl | decide +kernel)
    (case h_olp => first | rfl | decide +kernel)
    (case h_olx => k_is)
