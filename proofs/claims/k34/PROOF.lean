import PyProof.Rows.All
import Wide.All
import OpenK.AllK
import Wide.FinOn
import HandS.ForMost
import HandS.Codes
import HandS.Conv
import HandS.Strs
import HandS.IsInst
import HandS.TryOnly
import HandS.WordsExc
import HandS.DictComp
import HandS.Finally
import PySem.Challenge.RW_rungworks_k34_rows_and_ways
set_option Elab.async false
set_option linter.all false
set_option maxHeartbeats 4000000
/-! The plain law: conditions, decision trees, counts of rows; no program in sight. -/
namespace K34

/-! ### conditions -/
inductive Tr where
  | fx (b : Bool)
  | ct (i : Nat)
  | nt (t : Tr)
  | gr (k : Bool) (ts : List Tr)

mutual
def ev (e : Nat → Bool) : Tr → Bool
  | .fx b => b
  | .ct i => e i
  | .nt t => !ev e t
  | .gr k ts => cond k ((evs e ts).all id) ((evs e ts).any id)
def evs (e : Nat → Bool) : List Tr → List Bool
  | [] => []
  | t :: ts => ev e t :: evs e ts
end
mutual
def sz : Tr → Nat
  | .fx _ => 1
  | .ct _ => 1
  | .nt t => sz t + 1
  | .gr _ ts => szs ts + 1
def szs : List Tr → Nat
  | [] => 0
  | t :: ts => sz t + szs ts
end
mutual
def dp : Tr → Nat
  | .fx _ => 1
  | .ct _ => 1
  | .nt t => dp t + 1
  | .gr _ ts => dps ts + 1
def dps : List Tr → Nat
  | [] => 0
  | t :: ts => max (dp t) (dps ts)
end
mutual
def ok (n : Nat) : Tr → Prop
  | .fx _ => True
  | .ct i => i < n
  | .nt t => ok n t
  | .gr _ ts => 2 ≤ ts.length ∧ oks n ts
def oks (n : Nat) : List Tr → Prop
  | [] => True
  | t :: ts => ok n t ∧ oks n ts
end
mutual
theorem dp_le : ∀ t : Tr, dp t ≤ sz t
  | .fx _ => Nat.le_refl _
  | .ct _ => Nat.le_refl _
  | .nt t => by have := dp_le t; simp only [dp, sz]; omega
  | .gr _ ts => by have := dps_le ts; simp only [dp, sz]; omega
theorem dps_le : ∀ ts : List Tr, dps ts ≤ szs ts
  | [] => Nat.le_refl _
  | t :: ts => by have := dp_le t; have := dps_le ts; simp only [dps, szs]; omega
end
theorem sz_pos : ∀ t : Tr, 1 ≤ sz t
  | .fx _ => Nat.le_refl _
  | .ct _ => Nat.le_refl _
  | .nt t => by simp only [sz]; omega
  | .gr _ ts => by simp only [sz]; omega
theorem dp_pos : ∀ t : Tr, 1 ≤ dp t
  | .fx _ => Nat.le_refl _
  | .ct _ => Nat.le_refl _
  | .nt t => by simp only [dp]; omega
  | .gr _ ts => by simp only [dp]; omega
theorem szs_append : ∀ a b : List Tr, szs (a ++ b) = szs a + szs b
  | [], b => by simp [szs]
  | t :: a, b => by have := szs_append a b; simp only [List.cons_append, szs]; omega
theorem oks_append {n : Nat} : ∀ {a b : List Tr}, oks n a → oks n b → oks n (a ++ b)
  | [], _, _, h => h
  | _ :: _, _, h, h' => ⟨h.1, oks_append h.2 h'⟩
theorem oks_mem {n : Nat} : ∀ {ts : List Tr}, oks n ts → ∀ t ∈ ts, ok n t
  | [], _, _, m => by simp at m
  | a :: r, h, t, m => by
    rcases List.mem_cons.mp m with e | m
    · rw [e]; exact h.1
    · exact oks_mem h.2 t m
theorem oks_of {n : Nat} : ∀ {ts : List Tr}, (∀ t ∈ ts, ok n t) → oks n ts
  | [], _ => trivial
  | _ :: _, h => ⟨h _ List.mem_cons_self, oks_of fun t m => h t (List.mem_cons_of_mem _ m)⟩
theorem oks_take {n : Nat} {ts : List Tr} (h : oks n ts) (k : Nat) : oks n (ts.take k) := oks_of fun t m => oks_mem h t (List.mem_of_mem_take m)
theorem oks_drop {n : Nat} {ts : List Tr} (h : oks n ts) (k : Nat) : oks n (ts.drop k) := oks_of fun t m => oks_mem h t (List.mem_of_mem_drop m)
theorem szs_cut (ts : List Tr) (k : Nat) : szs (ts.take k) + szs (ts.drop k) = szs ts := by
  rw [← szs_append, List.take_append_drop]
theorem szs_len : ∀ ts : List Tr, ts.length ≤ szs ts
  | [] => Nat.le_refl _
  | t :: ts => by have := szs_len ts; have := sz_pos t; simp only [List.length_cons, szs]; omega
theorem sz_get : ∀ {ts : List Tr} {i : Nat} {t : Tr}, ts[i]? = some t → szs (ts.take i) + sz t ≤ szs ts
  | [], i, t, h => by simp at h
  | a :: r, 0, t, h => by
    have e : a = t := Option.some.inj h
    subst e
    simp only [List.take_zero, szs]; omega
  | a :: r, i + 1, t, h => by
    have := sz_get (ts := r) (i := i) (t := t) (by simpa using h)
    simp only [List.take_succ_cons, szs]; omega
theorem szs_snoc {ts : List Tr} {i : Nat} {t : Tr} (h : ts[i]? = some t) : szs (ts.take (i + 1)) = szs (ts.take i) + sz t := by
  rw [List.take_add_one, h, szs_append]
  simp [szs]
theorem dp_get : ∀ {ts : List Tr} {i : Nat} {t : Tr}, ts[i]? = some t → dp t ≤ dps ts
  | [], i, t, h => by simp at h
  | a :: r, 0, t, h => by
    have e : a = t := Option.some.inj h
    subst e
    simp only [dps]; omega
  | a :: r, i + 1, t, h => by
    have := dp_get (ts := r) (i := i) (t := t) (by simpa using h)
    simp only [dps]; omega
theorem evs_get (e : Nat → Bool) : ∀ {ts : List Tr} {i : Nat} {t : Tr}, ts[i]? = some t → (evs e ts)[i]? = some (ev e t)
  | [], i, t, h => by simp at h
  | a :: r, 0, t, h => by
    have q : a = t := Option.some.inj h
    subst q
    simp [evs]
  | a :: r, i + 1, t, h => by
    have := evs_get e (ts := r) (i := i) (t := t) (by simpa using h)
    simpa [evs] using this
theorem evs_length (e : Nat → Bool) : ∀ ts : List Tr, (evs e ts).length = ts.length
  | [] => by simp [evs]
  | a :: r => by simp [evs, evs_length e r]
theorem evs_eq (e : Nat → Bool) : ∀ ts : List Tr, evs e ts = ts.map (ev e)
  | [] => by simp [evs]
  | a :: r => by simp [evs, evs_eq e r]
/-- what a group holds so far -/
def grp (k : Bool) (bs : List Bool) : Bool := cond k (bs.all id) (bs.any id)
theorem grp_snoc (k : Bool) (bs : List Bool) (b : Bool) : grp k (bs ++ [b]) = (if k then grp k bs && b else grp k bs || b) := by
  cases k <;> simp [grp]
theorem ev_gr (e : Nat → Bool) (k : Bool) (ts : List Tr) : ev e (.gr k ts) = grp k (evs e ts) := by simp only [ev, grp]
theorem evs_take_succ (e : Nat → Bool) {ts : List Tr} {i : Nat} {t : Tr} (h : ts[i]? = some t) : evs e (ts.take (i + 1)) = evs e (ts.take i) ++ [ev e t] := by
  rw [evs_eq, evs_eq, List.take_add_one, h]
  simp

/-! ### decision trees -/
inductive DT where
  | lf (b : Bool)
  | br (p : Nat) (l h : DT)
  deriving DecidableEq
abbrev DF : DT := .lf false
def dev (e : Nat → Bool) : DT → Bool
  | .lf b => b
  | .br p l h => if e p then dev e h else dev e l
/-- the place, n behind all names -/
def plc (n : Nat) : DT → Nat
  | .lf _ => n
  | .br p _ _ => p
/-- places rise and lie below n; no fork leads twice to the empty leaf -/
def Ord (n : Nat) : DT → Prop
  | .lf _ => True
  | .br p l h => p < n ∧ p < plc n l ∧ p < plc n h ∧ ¬ (l = DF ∧ h = DF) ∧ Ord n l ∧ Ord n h
theorem Ord.plc_le {n : Nat} : ∀ {t : DT}, Ord n t → plc n t ≤ n
  | .lf _, _ => Nat.le_refl _
  | .br p _ _, h => Nat.le_of_lt h.1
def lo (n p : Nat) (t : DT) : DT := if p < plc n t then t else match t with
  | .lf b => .lf b
  | .br _ l _ => l
def hi (n p : Nat) (t : DT) : DT := if p < plc n t then t else match t with
  | .lf b => .lf b
  | .br _ _ h => h
theorem dev_lohi {n p : Nat} (e : Nat → Bool) : ∀ (t : DT), p ≤ plc n t → p < n → dev e t = if e p then dev e (hi n p t) else dev e (lo n p t)
  | .lf b, _, _ => by simp [hi, lo, dev]
  | .br q l h, hp, hn => by
    have hq : p ≤ q := hp
    by_cases hlt : p < q
    · have e1 : hi n p (.br q l h) = .br q l h := by simp [hi, plc, hlt]
      have e2 : lo n p (.br q l h) = .br q l h := by simp [lo, plc, hlt]
      rw [e1, e2]; split <;> rfl
    · have e0 : p = q := by omega
      subst e0
      simp [hi, lo, plc, dev]
theorem lohi_plc {n p : Nat} : ∀ {t : DT}, Ord n t → p ≤ plc n t → p < n → p < plc n (lo n p t) ∧ p < plc n (hi n p t) ∧ Ord n (lo n p t) ∧ Ord n (hi n p t)
  | .lf b, o, _, hn => by
    have e1 : lo n p (.lf b) = .lf b := by simp [lo]
    have e2 : hi n p (.lf b) = .lf b := by simp [hi]
    rw [e1, e2]
    exact ⟨hn, hn, o, o⟩
  | .br q l h, o, hp, hn => by
    have hq : p ≤ q := hp
    by_cases hlt : p < q
    · have e1 : hi n p (.br q l h) = .br q l h := by simp [hi, plc, hlt]
      have e2 : lo n p (.br q l h) = .br q l h := by simp [lo, plc, hlt]
      rw [e1, e2]
      exact ⟨hlt, hlt, o, o⟩
    · have e0 : p = q := by omega
      subst e0
      have e1 : hi n p (.br p l h) = h := by simp [hi, plc]
      have e2 : lo n p (.br p l h) = l := by simp [lo, plc]
      rw [e1, e2]
      exact ⟨o.2.1, o.2.2.1, o.2.2.2.2.1, o.2.2.2.2.2⟩
/-- two numbers that stop together -/
def op2 (s : Bool) (a b : Bool) : Bool := if s then a || b else a && b

/-! ### nodes: a number stands for a tree -/
abbrev Nd := Nat × Nat × Nat
inductive Den (ns : List Nd) : Nat → DT → Prop where
  | z : Den ns 0 (.lf false)
  | o : Den ns 1 (.lf true)
  | b {i p l h : Nat} {tl th : DT} : ns[i]? = some (p, l, h) → Den ns l tl → Den ns h th → Den ns (i + 2) (.br p tl th)
theorem Den.mono {ns ns' : List Nd} {k : Nat} {t : DT} (d : Den ns k t) (h : ns <+: ns') : Den ns' k t := by
  induction d with
  | z => exact .z
  | o => exact .o
  | b e _ _ ih1 ih2 =>
    obtain ⟨r, rfl⟩ := h
    exact .b (by rw [List.getElem?_append_left (List.getElem?_eq_some_iff.mp e).1]; exact e) ih1 ih2
theorem Den.lt {ns : List Nd} {k : Nat} {t : DT} (d : Den ns k t) : k < ns.length + 2 := by
  cases d with
  | z => omega
  | o => omega
  | b e _ _ => have := (List.getElem?_eq_some_iff.mp e).1; omega
theorem Den.lf_inv {ns : List Nd} {k : Nat} {b : Bool} (d : Den ns k (.lf b)) : k = b.toNat := by
  cases d <;> rfl
theorem Den.uniq {ns : List Nd} {k : Nat} {t : DT} (d : Den ns k t) : ∀ {t' : DT}, Den ns k t' → t = t' := by
  induction d with
  | z => intro t' d'; cases d'; rfl
  | o => intro t' d'; cases d'; rfl
  | b e _ _ ih1 ih2 =>
    intro t' d'
    cases d' with
    | b e' d1 d2 =>
      rw [e] at e'
      injection e' with e'
      injection e' with h1 h2
      injection h2 with h2 h3
      subst h1; subst h2; subst h3
      rw [ih1 d1, ih2 d2]
theorem Den.small {ns : List Nd} {k : Nat} {t : DT} (d : Den ns k t) (h : k < 2) : t = .lf (k == 1) := by
  cases d with
  | z => rfl
  | o => rfl
  | b _ _ _ => omega
theorem Den.big {ns : List Nd} {k : Nat} {t : DT} (d : Den ns k t) (h : 2 ≤ k) : ∃ p l h tl th, ns[k - 2]? = some (p, l, h) ∧ t = .br p tl th ∧ Den ns l tl ∧ Den ns h th := by
  cases d with
  | z => omega
  | o => omega
  | b e d1 d2 => exact ⟨_, _, _, _, _, by simpa using e, rfl, d1, d2⟩
/-- all nodes stand for ordered trees over n names -/
def WF (n : Nat) (ns : List Nd) : Prop := ∀ k, k < ns.length + 2 → ∃ t, Den ns k t ∧ Ord n t
theorem WF.den {n : Nat} {ns : List Nd} (w : WF n ns) {k : Nat} {t : DT} (d : Den ns k t) : Ord n t := by
  obtain ⟨t', d', o⟩ := w k d.lt
  rw [d.uniq d']; exact o
theorem WF.nil (n : Nat) : WF n [] := fun k hk => by
  match k, hk with
  | 0, _ => exact ⟨_, .z, trivial⟩
  | 1, _ => exact ⟨_, .o, trivial⟩
/-- a new node put behind -/
theorem WF.snoc {n : Nat} {ns : List Nd} (w : WF n ns) {p l h : Nat} {tl th : DT} (dl : Den ns l tl) (dh : Den ns h th) (hp : p < n) (h1 : p < plc n tl) (h2 : p < plc n th) (hne : l ≠ h) :
    WF n (ns ++ [(p, l, h)]) ∧ Den (ns ++ [(p, l, h)]) (ns.length + 2) (.br p tl th) ∧ Ord n (.br p tl th) := by
  have pre : ns <+: ns ++ [(p, l, h)] := ⟨_, rfl⟩
  have d : Den (ns ++ [(p, l, h)]) (ns.length + 2) (.br p tl th) := .b (by simp) (dl.mono pre) (dh.mono pre)
  have o : Ord n (.br p tl th) := ⟨hp, h1, h2, fun ⟨e1, e2⟩ => hne (by
    subst e1; subst e2
    rw [dl.lf_inv, dh.lf_inv]), w.den dl, w.den dh⟩
  refine ⟨fun k hk => ?_, d, o⟩
  rw [List.length_append, List.length_singleton] at hk
  by_cases hk2 : k < ns.length + 2
  · obtain ⟨t, d', o'⟩ := w k hk2
    exact ⟨t, d'.mono pre, o'⟩
  · have e : k = ns.length + 2 := by omega
    subst e
    exact ⟨_, d, o⟩
theorem WF.at {n : Nat} {ns : List Nd} (w : WF n ns) {i p l h : Nat} (e : ns[i]? = some (p, l, h)) : ∃ tl th, Den ns l tl ∧ Den ns h th ∧ Den ns (i + 2) (.br p tl th) ∧ Ord n (.br p tl th) := by
  obtain ⟨t, d, o⟩ := w (i + 2) (by have := (List.getElem?_eq_some_iff.mp e).1; omega)
  obtain ⟨p', l', h', tl, th, e', rfl, d1, d2⟩ := d.big (by omega)
  have e'' : ns[i]? = some (p', l', h') := by simpa using e'
  rw [e] at e''
  injection e'' with q
  injection q with q1 q2
  injection q2 with q2 q3
  subst q1; subst q2; subst q3
  exact ⟨tl, th, d1, d2, d, o⟩

/-! ### going down: the row that is told -/
def st (e : Nat → Bool) (p : Nat) (b : Bool) : Nat → Bool := fun i => if i = p then b else e i
theorem st_same (e : Nat → Bool) (p : Nat) (b : Bool) : st e p b p = b := by simp [st]
theorem st_ne (e : Nat → Bool) {p i : Nat} (b : Bool) (h : i ≠ p) : st e p b i = e i := by simp [st, h]
def rw_ (acc : Nat → Bool) : DT → (Nat → Bool)
  | .lf _ => acc
  | .br p l h => if l = DF then rw_ (st acc p true) h else rw_ (st acc p false) l
theorem rw_low {n : Nat} : ∀ {t : DT} {acc : Nat → Bool} {q : Nat}, Ord n t → q < plc n t → rw_ acc t q = acc q
  | .lf _, _, _, _, _ => rfl
  | .br p l h, acc, q, o, hq => by
    obtain ⟨h0, h1, h2, _, o1, o2⟩ := o
    have hq' : q < p := hq
    simp only [rw_]
    split
    · rw [rw_low o2 (by omega), st_ne _ _ (by omega)]
    · rw [rw_low o1 (by omega), st_ne _ _ (by omega)]
theorem rw_dev {n : Nat} : ∀ {t : DT} {acc : Nat → Bool}, Ord n t → t ≠ DF → dev (rw_ acc t) t = true
  | .lf b, _, _, h => by
    cases b with
    | false => exact absurd rfl h
    | true => rfl
  | .br p l h, acc, o, _ => by
    obtain ⟨h0, h1, h2, h3, o1, o2⟩ := o
    by_cases e : l = DF
    · have e2 : rw_ acc (.br p l h) = rw_ (st acc p true) h := by simp only [rw_, e, if_true]
      rw [e2]
      show (if rw_ (st acc p true) h p = true then _ else _) = true
      rw [rw_low o2 h2, st_same, if_pos rfl]
      exact rw_dev o2 fun q => h3 ⟨e, q⟩
    · have e2 : rw_ acc (.br p l h) = rw_ (st acc p false) l := by simp only [rw_, e, if_false]
      rw [e2]
      show (if rw_ (st acc p false) l p = true then _ else _) = true
      rw [rw_low o1 h1, st_same, if_neg (by simp)]
      exact rw_dev o1 e

/-! ### counting -/
def cnt (n : Nat) : DT → Nat
  | .lf b => b.toNat
  | .br p l h => cnt n l * 2 ^ (plc n l - p - 1) + cnt n h * 2 ^ (plc n h - p - 1)
theorem cnt_pos {n : Nat} : ∀ {t : DT}, Ord n t → t ≠ DF → 0 < cnt n t
  | .lf b, _, h => by
    cases b with
    | false => exact absurd rfl h
    | true => exact Nat.zero_lt_one
  | .br p l h, o, _ => by
    obtain ⟨_, _, _, h3, o1, o2⟩ := o
    have pw : ∀ k : Nat, 0 < 2 ^ k := fun k => Nat.pow_pos (by decide)
    by_cases e : l = DF
    · have := Nat.mul_pos (cnt_pos o2 fun q => h3 ⟨e, q⟩) (pw (plc n h - p - 1))
      simp only [cnt]; omega
    · have := Nat.mul_pos (cnt_pos o1 e) (pw (plc n l - p - 1))
      simp only [cnt]; omega
theorem cnt_le {n : Nat} : ∀ {t : DT}, Ord n t → cnt n t ≤ 2 ^ (n - plc n t)
  | .lf b, _ => by cases b <;> simp [cnt, plc]
  | .br p l h, o => by
    obtain ⟨h0, h1, h2, _, o1, o2⟩ := o
    have q1 := cnt_le o1
    have q2 := cnt_le o2
    have l1 := o1.plc_le
    have l2 := o2.plc_le
    have f : ∀ (c q : Nat), p < q → q ≤ n → c ≤ 2 ^ (n - q) → c * 2 ^ (q - p - 1) ≤ 2 ^ (n - p - 1) := fun c q a b d => by
      have := Nat.mul_le_mul_right (2 ^ (q - p - 1)) d
      rw [← Nat.pow_add] at this
      rw [show n - q + (q - p - 1) = n - p - 1 by omega] at this
      exact this
    have g1 := f _ _ h1 l1 q1
    have g2 := f _ _ h2 l2 q2
    have e : (2 : Nat) ^ (n - p) = 2 ^ (n - p - 1) + 2 ^ (n - p - 1) := by
      rw [show n - p = (n - p - 1) + 1 by omega, Nat.pow_succ]
      rw [show n - p - 1 + 1 - 1 = n - p - 1 by omega]; omega
    show cnt n l * 2 ^ (plc n l - p - 1) + cnt n h * 2 ^ (plc n h - p - 1) ≤ 2 ^ (n - p)
    omega
def tot (f : (Nat → Bool) → Bool) : Nat → Nat → (Nat → Bool) → Nat
  | 0, _, e => (f e).toNat
  | k + 1, p, e => tot f k (p + 1) (st e p false) + tot f k (p + 1) (st e p true)
theorem tot_congr {f g : (Nat → Bool) → Bool} : ∀ (k p : Nat) (e : Nat → Bool), (∀ e', (∀ i, i < p → e' i = e i) → f e' = g e') → tot f k p e = tot g k p e
  | 0, p, e, h => by simp only [tot]; rw [h e fun _ _ => rfl]
  | k + 1, p, e, h => by
    simp only [tot]
    rw [tot_congr k (p + 1) (st e p false) fun e' he => h e' fun i hi => by rw [he i (by omega), st_ne _ _ (by omega)],
      tot_congr k (p + 1) (st e p true) fun e' he => h e' fun i hi => by rw [he i (by omega), st_ne _ _ (by omega)]]
theorem tot_dev {n : Nat} : ∀ (k p : Nat) (t : DT) (e : Nat → Bool), Ord n t → p ≤ plc n t → p + k = n → tot (fun e => dev e t) k p e = cnt n t * 2 ^ (plc n t - p)
  | 0, p, .lf b, e, _, _, h => by simp [tot, dev, cnt, plc, show n - p = 0 by omega]
  | 0, p, .br q l h, e, o, hp, hk => by
    have h0 : q < n := o.1
    have h1 : p ≤ q := hp
    omega
  | k + 1, p, t, e, o, hp, hk => by
    by_cases hlt : p < plc n t
    · have a1 := tot_dev k (p + 1) t (st e p false) o hlt (by omega)
      have a2 := tot_dev k (p + 1) t (st e p true) o hlt (by omega)
      simp only [tot]
      rw [a1, a2, show plc n t - p = (plc n t - (p + 1)) + 1 by omega, Nat.pow_succ, ← Nat.mul_assoc]
      omega
    · match t, o, hp, hlt with
      | .lf b, o, hp, hlt => exact absurd (show p < n by omega) hlt
      | .br q l h, o, hp, hlt =>
        have e0 : q = p := by
          have h1 : p ≤ q := hp
          have h2 : ¬ p < q := hlt
          omega
        subst e0
        obtain ⟨h0, h1, h2, _, o1, o2⟩ := o
        simp only [tot]
        rw [tot_congr (g := fun e => dev e l) k (q + 1) (st e q false) fun e' he => by
            show (if e' q = true then _ else _) = _
            rw [he q (by omega), st_same, if_neg (by simp)],
          tot_congr (g := fun e => dev e h) k (q + 1) (st e q true) fun e' he => by
            show (if e' q = true then _ else _) = _
            rw [he q (by omega), st_same, if_pos rfl],
          tot_dev k (q + 1) l _ o1 h1 (by omega), tot_dev k (q + 1) h _ o2 h2 (by omega)]
        show _ = (cnt n l * 2 ^ (plc n l - q - 1) + cnt n h * 2 ^ (plc n h - q - 1)) * 2 ^ (q - q)
        rw [Nat.sub_self, Nat.pow_zero, Nat.mul_one, show plc n l - (q + 1) = plc n l - q - 1 by omega, show plc n h - (q + 1) = plc n h - q - 1 by omega]
def sumN (g : Nat → Nat) : Nat → Nat
  | 0 => 0
  | i + 1 => sumN g i + g i
theorem sumN_congr {g g' : Nat → Nat} : ∀ {m : Nat}, (∀ i, i < m → g i = g' i) → sumN g m = sumN g' m
  | 0, _ => rfl
  | m + 1, h => by simp only [sumN]; rw [sumN_congr fun i hi => h i (by omega), h m (by omega)]
theorem sumN_two (g : Nat → Nat) : ∀ m : Nat, sumN g (2 * m) = sumN (fun r => g (2 * r) + g (2 * r + 1)) m
  | 0 => rfl
  | m + 1 => by
    have := sumN_two g m
    show sumN g (2 * m + 1 + 1) = _
    simp only [sumN]
    omega
theorem sumN_add (g g' : Nat → Nat) : ∀ m : Nat, sumN (fun r => g r + g' r) m = sumN g m + sumN g' m
  | 0 => rfl
  | m + 1 => by have := sumN_add g g' m; simp only [sumN]; omega
/-- bits of a row's number, from place p on -/
def bits (r : Nat) : Nat → Bool := fun i => r / 2 ^ i % 2 == 1
def ins (e : Nat → Bool) (p k r : Nat) : Nat → Bool := fun i => if p ≤ i ∧ i < p + k then bits r (i - p) else e i
theorem bits_half (r b i : Nat) (hb : b < 2) : bits (2 * r + b) (i + 1) = bits r i := by
  unfold bits
  rw [Nat.pow_succ, Nat.mul_comm (2 ^ i) 2, ← Nat.div_div_eq_div_mul, show (2 * r + b) / 2 = r by omega]
theorem bits_zero (r b : Nat) (hb : b < 2) : bits (2 * r + b) 0 = (b == 1) := by
  unfold bits
  rw [Nat.pow_zero, Nat.div_one, show (2 * r + b) % 2 = b by omega]
theorem ins_succ (e : Nat → Bool) (p k r : Nat) (b : Bool) : ins e p (k + 1) (2 * r + b.toNat) = ins (st e p b) (p + 1) k r := by
  funext i
  have hb : b.toNat < 2 := by cases b <;> decide
  unfold ins
  by_cases h1 : i < p
  · rw [if_neg (by omega), if_neg (by omega), st_ne _ _ (by omega)]
  · by_cases h2 : i = p
    · subst h2
      rw [if_pos (by omega), if_neg (by omega), st_same, Nat.sub_self, bits_zero _ _ hb]
      cases b <;> rfl
    · by_cases h3 : i < p + (k + 1)
      · rw [if_pos (by omega), if_pos (by omega), show i - p = (i - (p + 1)) + 1 by omega, bits_half _ _ _ hb]
      · rw [if_neg (by omega), if_neg (by omega), st_ne _ _ h2]
theorem sum_tot (f : (Nat → Bool) → Bool) : ∀ (k p : Nat) (e : Nat → Bool), sumN (fun r => (f (ins e p k r)).toNat) (2 ^ k) = tot f k p e
  | 0, p, e => by
    have : ins e p 0 0 = e := by funext i; unfold ins; rw [if_neg (by omega)]
    show 0 + (f (ins e p 0 0)).toNat = (f e).toNat
    rw [this, Nat.zero_add]
  | k + 1, p, e => by
    rw [Nat.pow_succ, Nat.mul_comm (2 ^ k) 2, sumN_two, sumN_add]
    simp only [tot]
    rw [← sum_tot f k (p + 1) (st e p false), ← sum_tot f k (p + 1) (st e p true)]
    have a : ∀ r, ins e p (k + 1) (2 * r) = ins (st e p false) (p + 1) k r := fun r => ins_succ e p k r false
    have b : ∀ r, ins e p (k + 1) (2 * r + 1) = ins (st e p true) (p + 1) k r := fun r => ins_succ e p k r true
    simp only [a, b]
theorem bits_big {r n i : Nat} (h : r < 2 ^ n) (hi : n ≤ i) : bits r i = false := by
  unfold bits
  have : 2 ^ n ≤ 2 ^ i := Nat.pow_le_pow_right (by decide) hi
  rw [Nat.div_eq_of_lt (by omega)]
  rfl
/-- at how many rows the tree holds -/
theorem count_rows {n : Nat} {t : DT} (o : Ord n t) : sumN (fun r => (dev (bits r) t).toNat) (2 ^ n) = cnt n t * 2 ^ plc n t := by
  have h := sum_tot (fun e => dev e t) n 0 (fun _ => false)
  rw [tot_dev n 0 t _ o (Nat.zero_le _) (by omega)] at h
  rw [Nat.sub_zero] at h
  rw [← h]
  refine sumN_congr fun r hr => ?_
  have : ins (fun _ => false) 0 n r = bits r := by
    funext i
    unfold ins
    by_cases hi : i < n
    · rw [if_pos (by omega)]; rfl
    · rw [if_neg (by omega), bits_big hr (by omega)]
  rw [this]
end K34
set_option Elab.async false
set_option linter.all false
set_option maxRecDepth 100000
set_option maxHeartbeats 4000000
/-! Rules that the layer lacks: a choice of readings, a list held against an empty one, tuple(d.keys()), len(set(texts)). -/
namespace K34
open PySem PySem.Spec PyProof.Rows L2 C8
section
variable {X : Cx}
/-- one reading out of many -/
def tAny {ι : Sort _} (t : ι → TE) : TE := fun σ H Q => ∃ i, t i σ H Q
theorem PE.any {e : Expr} {ι : Sort _} {t : ι → TE} (h : ∀ i, PE X e (t i)) : PE X e (tAny t) :=
  ⟨fun pins s σ H Q I ⟨i, q⟩ => (h i).run pins s σ H Q I q⟩
def tEither (t u : TE) : TE := fun σ H Q => t σ H Q ∨ u σ H Q
theorem PE.either {e : Expr} {t u : TE} (h : PE X e t) (h' : PE X e u) : PE X e (tEither t u) :=
  ⟨fun pins s σ H Q I q => q.elim (h.run pins s σ H Q I) (h'.run pins s σ H Q I)⟩
/-- xs != [] -/
def rNeNil : R2 := fun x y H Q => ∃ a b xs, x = .ref a ∧ y = .ref b ∧ H a = some (.lst xs) ∧ H b = some (.lst []) ∧ Q (.bl (!xs.isEmpty)) H
theorem op_neNil (hu : X.A.units < cLine) : OpR X (compareOp .NotEq) rNeNil := by
  rintro pins s σ H x y v u Q I rx ry ⟨a, b, xs, rfl, rfl, ha, hb, q⟩
  cases rx
  cases ry
  obtain ⟨its, r, pl, _⟩ := I.list (SqL.of ha)
  obtain ⟨its2, r2, pl2, _⟩ := I.list (SqL.of hb)
  cases r2
  cases xs with
  | nil =>
    cases r
    exact EqBoolInt.of_rcne (SeqAt.RcNeAt.lists (e := fun _ => true) pl.isList pl2.isList rfl hu fun j h1 _ => absurd h1 (Nat.not_lt_zero j)) ⟨.bl false, H, I, rfl, q⟩
  | cons y ys =>
    cases r with
    | cons r1 r2 => exact EqBoolInt.of_rcne (SeqAt.RcNeAt.lists_lengths pl.isList pl2.isList (by simp) hu) ⟨.bl true, H, I, rfl, q⟩
end
end K34
set_option Elab.async false
set_option linter.all false
set_option maxRecDepth 100000
set_option maxHeartbeats 4000000
namespace K34
open PySem PySem.Spec PyProof.Rows PySem.W L2 C8
section
variable {prog : Program} {w : World} {A : Around} {E : Value → Shared → Prop} {s : Shared} {T : String} {r d : Addr} {n : Nat} {P : Nat → Value → Prop} {OK : Heap → Prop}
/-- what an iterable of the dict's kind gives, gathered -/
theorem gathered {Q : List Value → Shared → Prop} (K : KdlSrc prog w T r d n P OK) (hh : A.handled = none) (hok : OK s.heap) (hn : n ≤ sizeLine)
    (hQ : ∀ (h2 : Heap) (tk : Nat) (acc : Array Value), (∀ b o, s.heap.get? b = some o → h2.get? b = some o) → ItemsOf P acc n → Q acc.toList { s with heap := h2, toks := tk }) :
    wpAny (model prog w) A (collect (.ref r)) Q E s := by
  have hlt := K.there _ hok
  have new : (s.heap.push { cls := .type "list", data := .seq ([] : List Value).toArray }).get? s.heap.objs.size = some { cls := .type "list", data := .seq #[] 0 } := Heap.get?_push_size _ rfl
  have old : ∀ b o, s.heap.get? b = some o → (s.heap.push { cls := .type "list", data := .seq ([] : List Value).toArray }).get? b = some o := fun b o q => Heap.get?_push_of_some _ q
  unfold collect
  refine wpAny_bind (wpAny_runValue (codeAny_builtin PySem.F.entry_proto_collect ?_))
  rw [Around.under_plainId PySem.F.plain_proto_collect _]
  show wpAny _ A.in1 (newList [] >>= _) _ _ s
  refine wpAny_bind (wpAny_newObj_type (wpAny_pure ⟨plainId_quiet PySem.F.plain_list_iadd _, codeAny_builtin PySem.F.entry_list_iadd ?_⟩))
  rw [Around.under_plainId PySem.F.plain_list_iadd _]
  show wpAny _ A.in1 (Builtin.List.listExtendWith _ _ _) _ _ _
  let R : Result → Shared → Prop := fun rr s2 => rr = .ok (.ret (.ref s.heap.objs.size)) ∧ ∃ h2 tk acc c2, s2 = { s with heap := h2, toks := tk } ∧ (∀ b o, s.heap.get? b = some o → h2.get? b = some o) ∧
    h2.get? s.heap.objs.size = some { cls := .type "list", dict := none, data := .seq acc c2, slots := #[] } ∧ ItemsOf P acc n
  refine wpAny_mono (kdl_extend (R := R) K hh (K.keep _ _ hok fun b _ o e => old b o e) s.heap.objs.size (Nat.ne_of_gt hlt.1) (Nat.ne_of_gt hlt.2) _ 0 new
    (fun h2 tk acc c2 hk hS hi => ⟨rfl, h2, tk, acc, c2, rfl, fun b o e => hk b o (Nat.ne_of_lt (Heap.lt_size e)) (old b o e), hS, hi⟩) hn) (fun fin s2 h => ?_) (fun e s2 h => absurd h.1 (by simp))
  cases fin with
  | done f =>
    obtain ⟨e, h2, tk, acc, c2, rfl, hk, hS, hi⟩ := h
    cases e
    exact wpAny_bind (wpAny_load hS (wpAny_pure (hQ h2 tk acc hk hi)))
  | again c2 =>
    refine ⟨h.1, codeAny_mono h.2 fun rr s3 hr => ?_⟩
    obtain ⟨rfl, h2, tk, acc, c3, rfl, hk, hS, hi⟩ := hr
    exact wpAny_bind (wpAny_load hS (wpAny_pure (hQ h2 tk acc hk hi)))
theorem tuple_new_src {Q₁ : Value → Shared → Prop} (K : KdlSrc prog w T r d n P OK) (hh : A.handled = none) (hok : OK s.heap) (hn : n ≤ sizeLine)
    (h : ∀ (h2 : Heap) (tk : Nat) (acc : Array Value), (∀ b o, s.heap.get? b = some o → h2.get? b = some o) → ItemsOf P acc n → Q₁ (.ref h2.objs.size) { s with heap := h2.push { cls := .type "tuple", data := .seq acc }, toks := tk }) :
    codeAny (model prog w) A (.call (.builtin "tuple.__new__") ⟨[.type "tuple", .ref r], []⟩) (wants Q₁ E) s := by
  refine codeAny_of_tree ?_
  show wpAny _ A.in1 (checkBuiltinCall "tuple.__new__" ⟨[.type "tuple", .ref r], []⟩ >>= _) _ _ s
  refine wpAny_bind (wpAny_of_eq (PySem.F.newCall_tuple_1 _) (wpAny_pure ⟨plainId_quiet PySem.F.plain_tuple_new _, codeAny_builtin PySem.F.entry_tuple_new ?_⟩))
  rw [Around.under_plainId PySem.F.plain_tuple_new _]
  have k1 := PySem.sub_tuple_self
  have k2 := PySem.init_tuple_lookup
  have k3 := PySem.madeHere_tuple
  have hT := K.type s hok
  have hh1 : A.in1.handled = none := hh
  have k4 := K.notTuple
  wp_walk using wpAny_typeOf hT, gathered (A := A.in1) K hh1 hok hn
  intro h2 tk acc hk hacc
  show wpAny _ _ (Builtin.Tuple.tupleExact acc.toList.toArray >>= fun v => ret v) _ _ _
  unfold Builtin.Tuple.tupleExact
  have e : acc.toList.toArray = acc := by simp
  rw [e]
  exact wpAny_bind (wpAny_newObj_type (wpAny_pure (h h2 tk acc hk hacc)) (by show acc.size ≤ sizeLine; rw [hacc.1]; exact hn))
theorem tuple_src {Q : Value → Shared → Prop} (K : KdlSrc prog w T r d n P OK) (hh : A.handled = none) (hok : OK s.heap) (hn : n ≤ sizeLine)
    (h : ∀ (h2 : Heap) (tk : Nat) (acc : Array Value), (∀ b o, s.heap.get? b = some o → h2.get? b = some o) → ItemsOf P acc n → Q (.ref h2.objs.size) { s with heap := h2.push { cls := .type "tuple", data := .seq acc }, toks := tk }) :
    wpAny (model prog w) A (call (.type "tuple") [.ref r]) Q E s := by
  refine callType_codes (Q₁ := fun v s2 => s2.TypeIs v "tuple" ∧ Q v s2) PySem.F.called_tuple (PySem.F.typeCall_tuple_1 _) PySem.F.entry_object_init
    (tuple_new_src (A := A.in1) K hh hok hn fun h2 tk acc hk hi => ⟨⟨_, Heap.get?_push_size _ rfl, rfl⟩, h h2 tk acc hk hi⟩) fun v s2 h2 => ?_
  exact ⟨h2.1, PySem.F.args_object_init_2 v _, object_init_meets PySem.F.called_tuple.init.lookup PySem.F.called_tuple.made (by decide) prog w A.in1 _ s2 ⟨h2.1, rfl, h2.2⟩⟩
end
/-- the keys of the dict at d, looked at -/
def keysO (p d : Addr) : HO := .ext fun h => KdlKeysView h p d
theorem keysO_ok {P : Program} {w : World} {H : Hp} {h : Heap} {p d : Addr} (e : h.get? p = some { cls := .type "dict_keys", data := .fields #[.ref d] }) : ObjOk P w H h p (keysO p d) :=
  ⟨⟨_, e, rfl, rfl⟩, ⟨_, e⟩, fun _ _ x k => let ⟨o, ho, r⟩ := x; ⟨o, k o ho, r⟩⟩
section
variable {X : Cx}
def rKeys : V → List V → Hp → VK → Prop := fun x xs H Q => ∃ a kvs, x = .ref a ∧ xs = [] ∧ H a = some (.dK kvs) ∧ ∀ p, H p = none → Q (.ref p) (upd H p (keysO p a))
theorem mt_keys : MtR X "dict.keys" rKeys := by
  rintro pins s σ H x xs v us Q I rx rxs ⟨a, kvs, rfl, rfl, ha, q⟩
  cases rx
  cases rxs
  obtain ⟨_, lo, vs, _, hd⟩ := dk_of I.hok ha
  refine call_meetsIn PySem.F.slot_dict_keys hd.typeIs PySem.F.entry_dict_keys (PySem.F.args_dict_keys_1 _) (kdl_meets_keys (mixKind X.prog X.w) a lo) ⟨⟨vs, hd⟩, ?_⟩
  have hf : H s.heap.objs.size = none := I.hok.fresh (Nat.le_refl _)
  exact ⟨.ref s.heap.objs.size, _, I.laid (t' := s.toks) (fun b u e => Heap.get?_push_of_some _ e) (Nat.le_refl _) (keysO_ok (Heap.get?_push_size _ rfl)), rfl, q _ hf⟩
def rTupKeys : List V → Hp → VK → Prop := fun xs H Q => ∃ p a kvs, xs = [.ref p] ∧ H p = some (keysO p a) ∧ H a = some (.dK kvs) ∧ ∀ q, H q = none → Q (.ref q) (upd H q (.tup (kvs.map fun kv => kV kv.1)))
theorem call_tupKeys (hc : X.calm = true) : CallR X (.type "tuple") rTupKeys := by
  rintro pins s σ H xs us Q I r ⟨p, a, kvs, rfl, hp, ha, q⟩
  obtain ⟨u, rfl, rx⟩ := vals1 r
  obtain rfl : u = Value.ref p := rx
  obtain ⟨z, lo, vs, rk, hd⟩ := dk_of I.hok ha
  obtain ⟨ep, hat⟩ := hd.dictAt
  have view : KdlKeysView s.heap p a := (show ObjOk X.prog X.w H s.heap p (keysO p a) from I.hok p _ hp).1
  have hl : kvs.length = vs.length := Paired.length rk
  refine tuple_src (kdl_keys (knd := mixKind X.prog X.w) (kvs := vs) (ep := ep)) (I.ok.hd hc) ⟨view, hat⟩ (by rw [← hl]; exact z) fun h2 tk acc hk hi => ?_
  have I1 : Inv X pins σ H { s with heap := h2, toks := tk } := I.kept hk
  have hf : H h2.objs.size = none := I1.hok.fresh (Nat.le_refl _)
  have len : (kvs.map fun kv => kV kv.1).length ≤ sizeLine := by rw [List.length_map]; exact z
  refine ⟨.ref h2.objs.size, _, I1.laid (t' := tk) (fun b o e => Heap.get?_push_of_some _ e) (Nat.le_refl _) (show ObjOk X.prog X.w _ _ _ (.tup (kvs.map fun kv => kV kv.1)) from ⟨len, acc.toList, ?_, ?_⟩), rfl, q _ hf⟩
  · have el : acc.toList.length = acc.size := by simp
    refine vals_of_at (by rw [List.length_map, el, hi.1, hl]) fun j x u h1 h3 => ?_
    obtain ⟨k, y, hky, hk2⟩ := hi.2 j u (by rw [← Array.getElem?_toList]; exact h3)
    have e3 : (kvs.map fun kv => kV kv.1) = (vs.map (·.1)).map kV := by rw [← KV.keys rk, List.map_map]; rfl
    rw [e3, List.getElem?_map, List.getElem?_map, hky] at h1
    cases h1
    exact keyIs_rel hk2
  · rw [Array.toArray_toList]
    exact IsTup.new _ _
end
end K34
set_option Elab.async false
set_option linter.all false
set_option maxRecDepth 100000
set_option maxHeartbeats 8000000
namespace K34
open PySem PySem.Spec PyProof.Rows L2 C8
/-- texts, each with its token -/
def AreTexts (vs : Array Value) (ys : List Str) : Prop := vs.size = ys.length ∧ ∀ (i : Nat) (v : Value), vs[i]? = some v → ∃ x t, ys[i]? = some x ∧ v = .str x t
theorem areTexts_of {ys : List Str} {us : List Value} (r : Vals (ys.map V.str) us) : AreTexts us.toArray ys := by
  refine ⟨by simpa using r.length.symm, fun i v e => ?_⟩
  have e' : us[i]? = some v := by simpa using e
  cases q : ys[i]? with
  | none =>
    have := Vals.none_of r (i := i) (by simp [q])
    rw [this] at e'; cases e'
  | some x =>
    obtain ⟨u, hu, t, rfl⟩ := Vals.get r (i := i) (x := .str x) (by simp [q])
    rw [hu] at e'; cases e'
    exact ⟨x, t, rfl, rfl⟩
section
variable {prog : Program} {w : World} {A : Around} {R : Result → Shared → Prop} {I : Addr} {fp wr : List Addr} {G : Array GenState → Array GenState → Prop} {n : Nat} {P : Nat → Value → Prop} {St : Nat → Shared → Prop}
/-- the set at S is filled with texts that are all unlike -/
theorem fill_texts (W : WalksS prog w A.in1 I fp wr G n P St) {S : Addr} (hS : S ∉ fp) {ys : List Str} (hl : ys.length = n) (nd : ys.Nodup) (few : n < 4000)
    (tx : ∀ i v, P i v → ∃ x t, ys[i]? = some x ∧ v = .str x t) :
    ∀ (k i : Nat) (s : Shared), i + k = n → St i s → s.heap.SetOf (PySem.strKind prog w) S (fun x => decide (x ∈ ys.take i)) i →
      (∀ s2, Moved (S :: wr) G s s2 → s2.heap.SetOf (PySem.strKind prog w) S (fun x => decide (x ∈ ys.take n)) n → R (.ok (.ret .none)) s2) →
      codeAny (model prog w) A (.builtin "set.update.loop" ⟨[.ref S, .ref I], []⟩) R s
  | 0, i, s, hk, hst, F, hR => by
    have e : i = n := by omega
    subst e
    have out : S ∉ wr := fun z => hS (W.sub _ z)
    refine codeAny_builtin PyProof.Rows.F.entry_set_update_loop ?_
    rw [Around.under_plainId PyProof.Rows.F.plain_set_update_loop _]
    refine wpAny_bind (W.done s _ _ hst fun s2 m => wpAny_pure (hR s2 (m.mono fun b hb => List.mem_cons_of_mem _ hb) ?_))
    obtain ⟨o, es, ep, tb, ho, more⟩ := F
    exact ⟨o, es, ep, tb, m.heap S _ out ho, more⟩
  | k + 1, i, s, hk, hst, F, hR => by
    have out : S ∉ wr := fun z => hS (W.sub _ z)
    refine codeAny_builtin PyProof.Rows.F.entry_set_update_loop ?_
    rw [Around.under_plainId PyProof.Rows.F.plain_set_update_loop _]
    refine wpAny_bind (W.item i s _ _ (by omega) hst fun v s2 hP st2 m => ?_)
    obtain ⟨x, t, hx, rfl⟩ := tx i v hP
    have F2 : s2.heap.SetOf (PySem.strKind prog w) S (fun x => decide (x ∈ ys.take i)) i := by
      obtain ⟨o, es, ep, tb, ho, more⟩ := F
      exact ⟨o, es, ep, tb, m.heap S _ out ho, more⟩
    have fresh : x ∉ ys.take i := fun z => by
      obtain ⟨j, hj⟩ := List.mem_iff_getElem?.mp z
      have hj2 : j < i := by
        have := (List.getElem?_eq_some_iff.mp hj).1
        rw [List.length_take] at this; omega
      rw [List.getElem?_take_of_lt hj2] at hj
      obtain ⟨a1, a2⟩ := List.getElem?_eq_some_iff.mp hj
      obtain ⟨b1, b2⟩ := List.getElem?_eq_some_iff.mp hx
      have := (List.getElem_inj nd).mp (a2.trans b2.symm)
      omega
    show wpAny _ A.in1 (holding [Value.str x t] (setAdd S (.str x t)) >>= _) _ _ s2
    refine wpAny_bind (wpAny_holding ?_)
    unfold setAdd
    refine wpAny_holding (wpAny_bind ((PySem.strKind prog w).pyHash (k := x) (strKind_is _ _ _ _) ?_))
    refine wpAny_setAddHashed_of (knd := PySem.strKind prog w) (s := { s2 with toks := s2.toks + 1 }) (strKind_is _ _ _ _) rfl F2 (by unfold scanBound; omega) fun h2 sb F3 => ?_
    have F4 : h2.SetOf (PySem.strKind prog w) S (fun x => decide (x ∈ ys.take (i + 1))) (i + 1) := by
      refine SetOf_congr F3 (fun y => ?_) (by simp [fresh])
      rw [List.take_add_one, hx, Bool.eq_iff_iff]
      simp
    refine wpAny_pure ⟨plainId_quiet PyProof.Rows.F.plain_set_update_loop _, fill_texts W hS hl nd few tx k (i + 1) _ (by omega) (W.frame _ s2 _ _ st2 (Nat.le_succ _) fun b hb o e => ?_) F4 fun s3 m3 F5 => ?_⟩
    · exact (sb.2 b fun z => hS (z ▸ hb)).trans e
    · refine hR s3 (Moved.trans W.gtrans ((m.mono fun b hb => List.mem_cons_of_mem _ hb).then_heap (Nat.le_succ _) fun b o hb e => ?_) m3) F5
      exact (sb.2 b fun z => hb (z ▸ List.mem_cons_self)).trans e
end
section
variable {prog : Program} {w : World} {A : Around} {E : Value → Shared → Prop} {s : Shared}
/-- set(xs) of a list of texts that are all unlike -/
theorem set_of_texts {l : Addr} {items : Array Value} {ys : List Str} {Q : Value → Shared → Prop} (hh : A.handled = none) (hl : s.heap.IsList l items) (ht : AreTexts items ys) (nd : ys.Nodup) (few : ys.length < 4000)
    (h : ∀ (h2 : Heap) (tk : Nat), h2.SetOf (PySem.strKind prog w) s.heap.objs.size (fun x => decide (x ∈ ys.take ys.length)) ys.length → (∀ b o, s.heap.get? b = some o → h2.get? b = some o) →
      Q (.ref s.heap.objs.size) { s with heap := h2, toks := tk }) : wpAny (model prog w) A (call (.type "set") [.ref l]) Q E s := by
  obtain ⟨c, tl, hmro⟩ := PySem.F.called_set.mro
  have f1 := PySem.F.called_set.made
  have f2 := PySem.F.called_set.sub
  have f3 := PySem.F.called_set.notType
  have f4 := PySem.F.called_set.canCreate
  have f5 := PySem.F.typeCall_set_1 (.ref l)
  refine wpAny_call (codeAny_of_tree ?_)
  show wpAny _ _ (callAny (.type "set") _) _ _ _
  refine wpAny_pure ⟨Code.quiet_builtin _ (by decide +kernel), codeAny_builtin PySem.F.entry_type_call ?_⟩
  rw [Around.under_plain (weight_type_call_type "set" [.ref l] []) rfl]
  repeat (any_goals (first | assumption | wp_step))
  let bare (led : Bool) : Obj := { cls := .type "set", dict := none, data := .set #[] 0 (.fresh 0 0 led) }
  refine codeAny_mono (code_set_new_1 (.ref l) (E := E) (Q₁ := fun v s1 => ∃ led : Bool, v = .ref s.heap.objs.size ∧ s1 = { s with heap := s.heap.push (bare led) }) fun led => ⟨led, rfl, rfl⟩) fun r s1 hr => ?_
  cases r with
  | error e => exact hr
  | ok fl =>
    cases fl with
    | ret v =>
      obtain ⟨led, rfl, rfl⟩ := hr
      have hS : (s.heap.push (bare led)).get? s.heap.objs.size = some (bare led) := Heap.get?_push_size _ rfl
      have hT : Shared.TypeIs { s with heap := s.heap.push (bare led) } (.ref s.heap.objs.size) "set" := ⟨_, hS, rfl⟩
      have g1 := PySem.F.called_set.init.lookup
      have g2 := PySem.F.called_set.init.bind (.ref s.heap.objs.size)
      repeat (any_goals (first | assumption | wp_step))
      refine codeAny_mono (codeAny_call_builtin (R := wants (fun r s2 => r = .none ∧ ∃ h2 tk, s2 = { s with heap := h2, toks := tk } ∧
          h2.SetOf (PySem.strKind prog w) s.heap.objs.size (fun x => decide (x ∈ ys.take ys.length)) ys.length ∧ (∀ b o, s.heap.get? b = some o → h2.get? b = some o)) E)
        PySem.F.called_set.init.plain PySem.F.entry_set_init (check_set_init_1 hT ?_)) fun r2 s2 hr2 => ?_
      · obtain ⟨⟨cl, dd, da, sl⟩, ho, hc, nl, hd⟩ := hl
        simp only at hc hd
        subst hc; subst hd
        have ho2 : (s.heap.push (bare led)).get? l = some { cls := .type "list", dict := dd, data := .seq items nl, slots := sl } := Heap.get?_push_of_some _ ho
        have n1 := PySem.F.sub_list_set
        have n2 := PySem.F.sub_list_frozenset
        have n3 : (Value.type "list" == Value.type "dict") = false := by decide
        have hl1 : (s.heap.push (bare led)).IsList l items := ⟨_, ho2, rfl, nl, rfl⟩
        unfold Builtin.«set.__init__» noKeywords Builtin.Frozenset.updateFrom
        generalize hG : pyIter = G
        wp_walk
        subst hG
        refine wpAny_pyIter_list hl1 (wpAny_bind (wpAny_runValue ?_))
        have lt : l < s.heap.objs.size := Heap.lt_size ho
        have sz : (s.heap.push (bare led)).objs.size = s.heap.objs.size + 1 := Heap.size_push _ _
        have ne1 : l ≠ (s.heap.push (bare led)).objs.size := by rw [sz]; exact Nat.ne_of_lt (Nat.lt_succ_of_lt lt)
        have ne2 : s.heap.objs.size ≠ (s.heap.push (bare led)).objs.size := by rw [sz]; exact Nat.ne_of_lt (Nat.lt_succ_self _)
        have ne3 : s.heap.objs.size ∉ [(s.heap.push (bare led)).objs.size, l] := by
          simp only [List.mem_cons, List.not_mem_nil, or_false, not_or]
          exact ⟨ne2, Nat.ne_of_gt lt⟩
        have hh3 : A.in1.in1.in1.handled = none := by simp [hh]
        refine fill_texts (St := _) ((Walks.list hh3 _ l ne1 items).toS) ne3 ht.1.symm nd (by rw [ht.1]; exact few) ht.2 items.size 0 _ (Nat.zero_add _) ⟨⟨_, Heap.get?_push_size _ rfl, rfl, rfl⟩, (hl1.push _)⟩ ?_ fun s3 m F => ?_
        · exact SetOf_congr ((PyProof.Rows.setObjOf_fresh (knd := PySem.strKind prog w) led).setOf (Heap.get?_push_of_some _ hS) (by unfold scanBound; omega)) (fun x => by simp) rfl
        · rw [Moved.eq_with m]
          refine wpAny_pure (wpAny_pure ⟨rfl, s3.heap, s3.toks, rfl, by rw [← ht.1]; exact F, fun b o e => ?_⟩)
          have lb := Heap.lt_size e
          refine m.heap b o (fun z => ?_) (Heap.get?_push_of_some _ (Heap.get?_push_of_some _ e))
          simp only [List.mem_cons, List.not_mem_nil, or_false] at z
          rcases z with z | z
          · rw [z] at lb; exact absurd lb (Nat.lt_irrefl _)
          · rw [z, sz] at lb; exact absurd lb (Nat.not_lt_of_le (Nat.le_succ _))
      · cases r2 with
        | error e => exact hr2
        | ok f2 =>
          cases f2 with
          | ret r =>
            obtain ⟨rfl, h2, tk, rfl, F, k⟩ := hr2
            repeat (any_goals (first | assumption | wp_step))
            exact h _ _ F k
          | _ => exact hr2.elim
    | _ => exact hr.elim
end
/-- a set of n texts -/
def SetN (P : Program) (w : World) (a : Addr) (n : Nat) : HO := .ext fun h => ∃ S, h.SetOf (PySem.strKind P w) a S n
theorem setN_ok {P : Program} {w : World} {H : Hp} {h : Heap} {a : Addr} {n : Nat} {S : Str → Bool} (F : h.SetOf (PySem.strKind P w) a S n) : ObjOk P w H h a (SetN P w a n) := by
  obtain ⟨o, es, ep, tb, ho, more⟩ := F
  exact ⟨⟨S, o, es, ep, tb, ho, more⟩, ⟨_, ho⟩, fun _ _ ⟨S1, o1, es1, ep1, t1, ho1, m1⟩ k => ⟨S1, o1, es1, ep1, t1, k _ ho1, m1⟩⟩
section
variable {X : Cx}
def rSetTx (K : PySem.W.Frag) (P : Program) (w : World) : List V → Hp → VK → Prop := fun xs H Q => ∃ a, ∃ ys : List Str, xs = [.ref a] ∧ SqL K H a (ys.map V.str) ∧ ys.Nodup ∧ ys.length < 4000 ∧ ∀ p, H p = none → Q (.ref p) (upd H p (SetN P w p ys.length))
theorem cr_setTx (hc : X.calm = true) : CallR X (.type "set") (rSetTx X.K X.prog X.w) := by
  rintro pins s σ H xs us Q I r ⟨a, ys, rfl, hs, nd, few, q⟩
  obtain ⟨u, rfl, rx⟩ := vals1 r
  obtain rfl : u = Value.ref a := rx
  obtain ⟨its, rv, pl, _⟩ := I.list hs
  have hf : H s.heap.objs.size = none := I.hok.fresh (Nat.le_refl _)
  exact set_of_texts (I.ok.hd hc) pl.isList (areTexts_of rv) nd few fun h2 tk F k => ⟨.ref s.heap.objs.size, _, I.laid (t' := tk) k (Nat.le_refl _) (setN_ok F), rfl, q _ hf⟩
def rLenN (P : Program) (w : World) : List V → Hp → VK → Prop := fun xs H Q => ∃ a n, xs = [.ref a] ∧ H a = some (SetN P w a n) ∧ n < 4000 ∧ Q (.int n) H
theorem cr_lenN : CallR X (.builtin "len") (rLenN X.prog X.w) := by
  rintro pins s σ H xs us Q I r ⟨a, n, rfl, ha, few, q⟩
  obtain ⟨u, rfl, rx⟩ := vals1 r
  obtain rfl : u = Value.ref a := rx
  obtain ⟨S, o, es, ep, t, ho, hex, hd, _, _, _, hf, hn⟩ := (show ObjOk X.prog X.w H s.heap a (SetN X.prog X.w a n) from I.hok a _ ha).1
  exact call_len_set ho hex hd hf (by rw [hn]; omega) ⟨.int n, H, I.tok _, ⟨_, by rw [hn]⟩, q⟩
end
end K34
set_option Elab.async false
set_option linter.all false
set_option maxRecDepth 100000
/-! The text by places: each def, its names by slot. -/
namespace K34
open PySem PySem.Spec PyProof.Rows L2 C8
def top (i : Nat) : Stmt := PySem.Challenge.pw_rungworks_k34_rows_and_ways.main.body.getD i (.Pass ⟨0, 0, 0, 0⟩)
abbrev sIsWord : Stmt := top 10
abbrev nIsWord : List PySem.Str := ["text", "sign"]
abbrev pIsWord : List PySem.Str := ["text"]
theorem scIsWord : FnScope nIsWord pIsWord (defScope sIsWord) := ⟨rfl, rfl, rfl, by decide +kernel, rfl, by decide +kernel, by decide +kernel⟩
abbrev sIsName : Stmt := top 11
abbrev nIsName : List PySem.Str := ["name"]
abbrev pIsName : List PySem.Str := ["name"]
theorem scIsName : FnScope nIsName pIsName (defScope sIsName) := ⟨rfl, rfl, rfl, by decide +kernel, rfl, by decide +kernel, by decide +kernel⟩
abbrev sPInner : Stmt := inClass (top 15) 0
abbrev nPInner : List PySem.Str := ["self"]
abbrev pPInner : List PySem.Str := ["self"]
theorem scPInner : FnScope nPInner pPInner (defScope sPInner) := ⟨rfl, rfl, rfl, by decide +kernel, rfl, by decide +kernel, by decide +kernel⟩
abbrev sSize : Stmt := inClass (top 15) 4
abbrev nSize : List PySem.Str := ["self", "part"]
abbrev pSize : List PySem.Str := ["self"]
theorem scSize : FnScope nSize pSize (defScope sSize) := ⟨rfl, rfl, rfl, by decide +kernel, rfl, by decide +kernel, by decide +kernel⟩
abbrev sDepth : Stmt := inClass (top 15) 5
abbrev nDepth : List PySem.Str := ["self", "part"]
abbrev pDepth : List PySem.Str := ["self"]
theorem scDepth : FnScope nDepth pDepth (defScope sDepth) := ⟨rfl, rfl, rfl, by decide +kernel, rfl, by decide +kernel, by decide +kernel⟩
abbrev sPGather : Stmt := inClass (top 15) 6
abbrev nPGather : List PySem.Str := ["self", "found", "part"]
abbrev pPGather : List PySem.Str := ["self", "found"]
theorem scPGather : FnScope nPGather pPGather (defScope sPGather) := ⟨rfl, rfl, rfl, by decide +kernel, rfl, by decide +kernel, by decide +kernel⟩
abbrev sContacts : Stmt := inClass (top 15) 7
abbrev nContacts : List PySem.Str := ["self", "found"]
abbrev pContacts : List PySem.Str := ["self"]
theorem scContacts : FnScope nContacts pContacts (defScope sContacts) := ⟨rfl, rfl, rfl, by decide +kernel, rfl, by decide +kernel, by decide +kernel⟩
abbrev sBounded : Stmt := inClass (top 15) 8
abbrev nBounded : List PySem.Str := ["self"]
abbrev pBounded : List PySem.Str := ["self"]
theorem scBounded : FnScope nBounded pBounded (defScope sBounded) := ⟨rfl, rfl, rfl, by decide +kernel, rfl, by decide +kernel, by decide +kernel⟩
abbrev sFInit : Stmt := inClass (top 16) 0
abbrev nFInit : List PySem.Str := ["self", "value"]
abbrev pFInit : List PySem.Str := ["self", "value"]
theorem scFInit : FnScope nFInit pFInit (defScope sFInit) := ⟨rfl, rfl, rfl, by decide +kernel, rfl, by decide +kernel, by decide +kernel⟩
abbrev sCInit : Stmt := inClass (top 17) 0
abbrev nCInit : List PySem.Str := ["self", "name"]
abbrev pCInit : List PySem.Str := ["self", "name"]
theorem scCInit : FnScope nCInit pCInit (defScope sCInit) := ⟨rfl, rfl, rfl, by decide +kernel, rfl, by decide +kernel, by decide +kernel⟩
abbrev sCGather : Stmt := inClass (top 17) 4
abbrev nCGather : List PySem.Str := ["self", "found"]
abbrev pCGather : List PySem.Str := ["self", "found"]
theorem scCGather : FnScope nCGather pCGather (defScope sCGather) := ⟨rfl, rfl, rfl, by decide +kernel, rfl, by decide +kernel, by decide +kernel⟩
abbrev sTInit : Stmt := inClass (top 18) 0
abbrev nTInit : List PySem.Str := ["self", "part"]
abbrev pTInit : List PySem.Str := ["self", "part"]
theorem scTInit : FnScope nTInit pTInit (defScope sTInit) := ⟨rfl, rfl, rfl, by decide +kernel, rfl, by decide +kernel, by decide +kernel⟩
abbrev sTInner : Stmt := inClass (top 18) 1
abbrev nTInner : List PySem.Str := ["self"]
abbrev pTInner : List PySem.Str := ["self"]
theorem scTInner : FnScope nTInner pTInner (defScope sTInner) := ⟨rfl, rfl, rfl, by decide +kernel, rfl, by decide +kernel, by decide +kernel⟩
abbrev sGInit : Stmt := inClass (top 19) 0
abbrev nGInit : List PySem.Str := ["self", "parts"]
abbrev pGInit : List PySem.Str := ["self", "parts"]
theorem scGInit : FnScope nGInit pGInit (defScope sGInit) := ⟨rfl, rfl, rfl, by decide +kernel, rfl, by decide +kernel, by decide +kernel⟩
abbrev sGInner : Stmt := inClass (top 19) 1
abbrev nGInner : List PySem.Str := ["self"]
abbrev pGInner : List PySem.Str := ["self"]
theorem scGInner : FnScope nGInner pGInner (defScope sGInner) := ⟨rfl, rfl, rfl, by decide +kernel, rfl, by decide +kernel, by decide +kernel⟩
abbrev sSingle : Stmt := top 23
abbrev nSingle : List PySem.Str := ["told"]
abbrev pSingle : List PySem.Str := ["told"]
theorem scSingle : FnScope nSingle pSingle (defScope sSingle) := ⟨rfl, rfl, rfl, by decide +kernel, rfl, by decide +kernel, by decide +kernel⟩
abbrev sJoined : Stmt := top 24
abbrev nJoined : List PySem.Str := ["kind", "parts"]
abbrev pJoined : List PySem.Str := ["kind", "parts"]
theorem scJoined : FnScope nJoined pJoined (defScope sJoined) := ⟨rfl, rfl, rfl, by decide +kernel, rfl, by decide +kernel, by decide +kernel⟩
abbrev sPartOf : Stmt := top 25
abbrev nPartOf : List PySem.Str := ["told", "opened", "found", "one", "parts", "is_single"]
abbrev pPartOf : List PySem.Str := ["told"]
theorem scPartOf : FnScope nPartOf pPartOf (defScope sPartOf) := ⟨rfl, rfl, rfl, by decide +kernel, rfl, by decide +kernel, by decide +kernel⟩
abbrev sSInit : Stmt := inClass (top 29) 0
abbrev nSInit : List PySem.Str := ["self", "names", "name"]
abbrev pSInit : List PySem.Str := ["self", "names"]
theorem scSInit : FnScope nSInit pSInit (defScope sSInit) := ⟨rfl, rfl, rfl, by decide +kernel, rfl, by decide +kernel, by decide +kernel⟩
abbrev sPlace : Stmt := inClass (top 29) 1
abbrev nPlace : List PySem.Str := ["self", "node"]
abbrev pPlace : List PySem.Str := ["self", "node"]
theorem scPlace : FnScope nPlace pPlace (defScope sPlace) := ⟨rfl, rfl, rfl, by decide +kernel, rfl, by decide +kernel, by decide +kernel⟩
abbrev sMade : Stmt := inClass (top 29) 2
abbrev nMade : List PySem.Str := ["self", "place", "low", "high", "key"]
abbrev pMade : List PySem.Str := ["self", "place", "low", "high"]
theorem scMade : FnScope nMade pMade (defScope sMade) := ⟨rfl, rfl, rfl, by decide +kernel, rfl, by decide +kernel, by decide +kernel⟩
abbrev sBelow : Stmt := inClass (top 29) 3
abbrev nBelow : List PySem.Str := ["self", "node", "place"]
abbrev pBelow : List PySem.Str := ["self", "node", "place"]
theorem scBelow : FnScope nBelow pBelow (defScope sBelow) := ⟨rfl, rfl, rfl, by decide +kernel, rfl, by decide +kernel, by decide +kernel⟩
abbrev sSJoined : Stmt := inClass (top 29) 5
abbrev nSJoined : List PySem.Str := ["self", "one", "other", "stop", "known", "place", "here", "there", "low"]
abbrev pSJoined : List PySem.Str := ["self", "one", "other", "stop", "known"]
theorem scSJoined : FnScope nSJoined pSJoined (defScope sSJoined) := ⟨rfl, rfl, rfl, by decide +kernel, rfl, by decide +kernel, by decide +kernel⟩
abbrev sOpposite : Stmt := inClass (top 29) 6
abbrev nOpposite : List PySem.Str := ["self", "node", "known", "place", "low", "high"]
abbrev pOpposite : List PySem.Str := ["self", "node", "known"]
theorem scOpposite : FnScope nOpposite pOpposite (defScope sOpposite) := ⟨rfl, rfl, rfl, by decide +kernel, rfl, by decide +kernel, by decide +kernel⟩
abbrev sDrawn : Stmt := inClass (top 29) 7
abbrev nDrawn : List PySem.Str := ["self", "part", "stop", "found", "inner"]
abbrev pDrawn : List PySem.Str := ["self", "part"]
theorem scDrawn : FnScope nDrawn pDrawn (defScope sDrawn) := ⟨rfl, rfl, rfl, by decide +kernel, rfl, by decide +kernel, by decide +kernel⟩
abbrev sNeed : Stmt := inClass (top 29) 8
abbrev nNeed : List PySem.Str := ["self", "node"]
abbrev pNeed : List PySem.Str := ["self", "node"]
theorem scNeed : FnScope nNeed pNeed (defScope sNeed) := ⟨rfl, rfl, rfl, by decide +kernel, rfl, by decide +kernel, by decide +kernel⟩
abbrev sNode : Stmt := inClass (top 29) 9
abbrev nNode : List PySem.Str := ["self", "part", "name", "many"]
abbrev pNode : List PySem.Str := ["self", "part"]
theorem scNode : FnScope nNode pNode (defScope sNode) := ⟨rfl, rfl, rfl, by decide +kernel, rfl, by decide +kernel, by decide +kernel⟩
abbrev sSTurned : Stmt := inClass (top 29) 13
abbrev nSTurned : List PySem.Str := ["self", "node", "many"]
abbrev pSTurned : List PySem.Str := ["self", "node"]
theorem scSTurned : FnScope nSTurned pSTurned (defScope sSTurned) := ⟨rfl, rfl, rfl, by decide +kernel, rfl, by decide +kernel, by decide +kernel⟩
abbrev sShown : Stmt := inClass (top 29) 14
abbrev nShown : List PySem.Str := ["self", "node"]
abbrev pShown : List PySem.Str := ["self", "node"]
theorem scShown : FnScope nShown pShown (defScope sShown) := ⟨rfl, rfl, rfl, by decide +kernel, rfl, by decide +kernel, by decide +kernel⟩
abbrev sRow : Stmt := inClass (top 29) 15
abbrev nRow : List PySem.Str := ["self", "node", "found", "name", "place", "low", "high"]
abbrev pRow : List PySem.Str := ["self", "node"]
theorem scRow : FnScope nRow pRow (defScope sRow) := ⟨rfl, rfl, rfl, by decide +kernel, rfl, by decide +kernel, by decide +kernel⟩
abbrev sCounted : Stmt := inClass (top 29) 16
abbrev nCounted : List PySem.Str := ["self", "node", "known", "place", "low", "high", "found", "inner"]
abbrev pCounted : List PySem.Str := ["self", "node", "known"]
theorem scCounted : FnScope nCounted pCounted (defScope sCounted) := ⟨rfl, rfl, rfl, by decide +kernel, rfl, by decide +kernel, by decide +kernel⟩
abbrev sWays : Stmt := inClass (top 29) 17
abbrev nWays : List PySem.Str := ["self", "node"]
abbrev pWays : List PySem.Str := ["self", "node"]
theorem scWays : FnScope nWays pWays (defScope sWays) := ⟨rfl, rfl, rfl, by decide +kernel, rfl, by decide +kernel, by decide +kernel⟩
abbrev sCellAt : Stmt := top 31
abbrev nCellAt : List PySem.Str := ["_law_script", "_law_k"]
abbrev pCellAt : List PySem.Str := ["_law_script", "_law_k"]
theorem scCellAt : FnScope nCellAt pCellAt (defScope sCellAt) := ⟨rfl, rfl, rfl, by decide +kernel, rfl, by decide +kernel, by decide +kernel⟩
abbrev sMixed : Stmt := top 32
abbrev nMixed : List PySem.Str := ["_law_cell", "_law_k", "_law_mix"]
abbrev pMixed : List PySem.Str := ["_law_cell", "_law_k"]
theorem scMixed : FnScope nMixed pMixed (defScope sMixed) := ⟨rfl, rfl, rfl, by decide +kernel, rfl, by decide +kernel, by decide +kernel⟩
abbrev sWord : Stmt := top 33
abbrev nWord : List PySem.Str := ["_law_cell", "_law_size", "_law_letters", "_law_word_here", "_law_k"]
abbrev pWord : List PySem.Str := ["_law_cell", "_law_size"]
theorem scWord : FnScope nWord pWord (defScope sWord) := ⟨rfl, rfl, rfl, by decide +kernel, rfl, by decide +kernel, by decide +kernel⟩
abbrev sNames : Stmt := top 34
abbrev nNames : List PySem.Str := ["_law_cell", "_law_many", "_law_letters", "_law_base", "_law_at", "_law_hop", "_law_found_here", "_law_k", "_law_letter"]
abbrev pNames : List PySem.Str := ["_law_cell", "_law_many"]
theorem scNames : FnScope nNames pNames (defScope sNames) := ⟨rfl, rfl, rfl, by decide +kernel, rfl, by decide +kernel, by decide +kernel⟩
abbrev sGrown : Stmt := top 35
abbrev nGrown : List PySem.Str := ["_law_pile", "_law_cell", "_law_names_here", "_law_kind", "_law_more", "_law_at"]
abbrev pGrown : List PySem.Str := ["_law_pile", "_law_cell", "_law_names_here"]
theorem scGrown : FnScope nGrown pGrown (defScope sGrown) := ⟨rfl, rfl, rfl, by decide +kernel, rfl, by decide +kernel, by decide +kernel⟩
abbrev sToldBy : Stmt := top 36
abbrev nToldBy : List PySem.Str := ["_law_script", "_law_first", "_law_many", "_law_names_here", "_law_pile", "_law_k"]
abbrev pToldBy : List PySem.Str := ["_law_script", "_law_first", "_law_many", "_law_names_here"]
theorem scToldBy : FnScope nToldBy pToldBy (defScope sToldBy) := ⟨rfl, rfl, rfl, by decide +kernel, rfl, by decide +kernel, by decide +kernel⟩
abbrev sHolds : Stmt := top 37
abbrev nHolds : List PySem.Str := ["_law_told", "_law_row_here", "_law_truths", "_law_inner"]
abbrev pHolds : List PySem.Str := ["_law_told", "_law_row_here"]
theorem scHolds : FnScope nHolds pHolds (defScope sHolds) := ⟨rfl, rfl, rfl, by decide +kernel, rfl, by decide +kernel, by decide +kernel⟩
abbrev sLRow : Stmt := top 38
abbrev nLRow : List PySem.Str := ["_law_names_here", "_law_number", "_law_row_here", "_law_name"]
abbrev pLRow : List PySem.Str := ["_law_names_here", "_law_number"]
theorem scLRow : FnScope nLRow pLRow (defScope sLRow) := ⟨rfl, rfl, rfl, by decide +kernel, rfl, by decide +kernel, by decide +kernel⟩
abbrev sWhole : Stmt := top 39
abbrev nWhole : List PySem.Str := ["_law_found_here"]
abbrev pWhole : List PySem.Str := ["_law_found_here"]
theorem scWhole : FnScope nWhole pWhole (defScope sWhole) := ⟨rfl, rfl, rfl, by decide +kernel, rfl, by decide +kernel, by decide +kernel⟩
abbrev sFound : Stmt := top 40
abbrev nFound : List PySem.Str := ["_law_sheet", "_law_node", "_law_found_here", "_law_name", "_law_place", "_law_low", "_law_high"]
abbrev pFound : List PySem.Str := ["_law_sheet", "_law_node"]
theorem scFound : FnScope nFound pFound (defScope sFound) := ⟨rfl, rfl, rfl, by decide +kernel, rfl, by decide +kernel, by decide +kernel⟩
abbrev sAlike : Stmt := top 41
abbrev nAlike : List PySem.Str := ["_law_found_here", "_law_due", "_law_name"]
abbrev pAlike : List PySem.Str := ["_law_found_here", "_law_due"]
theorem scAlike : FnScope nAlike pAlike (defScope sAlike) := ⟨rfl, rfl, rfl, by decide +kernel, rfl, by decide +kernel, by decide +kernel⟩
abbrev sLaw : Stmt := top 42
abbrev nLaw : List PySem.Str := ["_law_script", "_law_many", "_law_names_here", "_law_told", "_law_sheet", "_law_node", "_law_count", "_law_number", "_law_found_here", "_law_due", "_law_other"]
abbrev pLaw : List PySem.Str := ["_law_script"]
theorem scLaw : FnScope nLaw pLaw (defScope sLaw) := ⟨rfl, rfl, rfl, by decide +kernel, rfl, by decide +kernel, by decide +kernel⟩
end K34
set_option Elab.async false
set_option linter.all false
set_option maxRecDepth 100000
set_option maxHeartbeats 4000000
/-! What stands in the heap: told trees, parts, sheets, rows; what is kept. -/
namespace K34
open PySem PySem.Spec PyProof.Rows L2 C8

/-! ### heaps -/
/-- all that was tracked but at l is as it was -/
def But (l : List Addr) (H H' : Hp) : Prop := ∀ b o, H b = some o → b ∉ l → H' b = some o
theorem But.refl (l : List Addr) (H : Hp) : But l H H := fun _ _ h _ => h
theorem But.trans {l : List Addr} {H H1 H2 : Hp} (a : But l H H1) (b : But l H1 H2) : But l H H2 := fun c o e n => b c o (a c o e n) n
theorem But.of {l : List Addr} {H H' : Hp} (s : Same H H') : But l H H' := fun b o e _ => s b o e
theorem But.same {H H' : Hp} (k : But [] H H') : Same H H' := fun b o e => k b o e (by simp)
theorem But.upd {l : List Addr} {a : Addr} {H : Hp} (o : HO) (h : a ∈ l) : But l H (upd H a o) := fun b u e n => by
  rw [upd_ne (by intro z; subst z; exact n h)]; exact e
theorem But.new {l : List Addr} {a : Addr} {H : Hp} (o : HO) (h : H a = none) : But l H (L2.upd H a o) := fun b u e _ => by
  rw [upd_ne (ne_of_none e h)]; exact e
theorem But.mono {l l' : List Addr} {H H' : Hp} (k : But l H H') (h : ∀ a ∈ l, a ∈ l') : But l' H H' := fun b o e n => k b o e fun z => n (h b z)
/-- what stands at l was not there before: all is kept -/
theorem But.drop {l : List Addr} {H0 H H' : Hp} (s : Same H0 H) (k : But l H H') (h : ∀ a ∈ l, H0 a = none) : Same H0 H' := fun b o e => k b o (s b o e) fun z => by
  rw [h b z] at e; cases e
/-- .. some of it -/
theorem But.less {l l' : List Addr} {H0 H H' : Hp} (s : But l' H0 H) (k : But l H H') (h : ∀ a ∈ l, H0 a = none ∨ a ∈ l') : But l' H0 H' := fun b o e n => k b o (s b o e n) fun z => by
  rcases h b z with q | q
  · rw [q] at e; cases e
  · exact n q
theorem Same.new {a : Addr} {H : Hp} (o : HO) (h : H a = none) : Same H (upd H a o) := fun b u e => by
  rw [upd_ne (ne_of_none e h)]; exact e
theorem Same.none {H H' : Hp} (s : Same H H') {a : Addr} (h : H' a = Option.none) : H a = Option.none := s.free h
/-- what never changes: tuples, instances that are made (an instance without a field is being made) -/
def fixO : HO → Bool
  | .tup _ => true
  | .frz _ (.tup _) => true
  | .ins _ _ (_ :: _) => true
  | _ => false
def Fixes (H H' : Hp) : Prop := ∀ b o, H b = some o → fixO o = true → H' b = some o
theorem Fixes.refl (H : Hp) : Fixes H H := fun _ _ e _ => e
theorem Fixes.trans {H H1 H2 : Hp} (a : Fixes H H1) (b : Fixes H1 H2) : Fixes H H2 := fun c o e f => b c o (a c o e f) f
theorem Fixes.of {H H' : Hp} (s : Same H H') : Fixes H H' := fun b o e _ => s b o e
theorem But.fix {l : List Addr} {H H' : Hp} (k : But l H H') (h : ∀ a ∈ l, ∀ o, H a = some o → fixO o = false) : Fixes H H' := fun b o e f => k b o e fun z => by
  rw [h b z o e] at f; cases f
/-- it stands there and may change -/
def Moves (H : Hp) (a : Addr) : Prop := ∃ o, H a = some o ∧ fixO o = false
theorem Moves.lst {H : Hp} {a : Addr} {xs : List V} (e : H a = some (.lst xs)) : Moves H a := ⟨_, e, rfl⟩
theorem Moves.dT {H : Hp} {a : Addr} {xs} (e : H a = some (.dT xs)) : Moves H a := ⟨_, e, rfl⟩
theorem Moves.dK {H : Hp} {a : Addr} {xs} (e : H a = some (.dK xs)) : Moves H a := ⟨_, e, rfl⟩
theorem Moves.no {H : Hp} {a : Addr} (m : Moves H a) : ∀ o, H a = some o → fixO o = false := fun o e => by
  obtain ⟨u, e', f⟩ := m
  rw [e] at e'; cases e'; exact f
theorem But.fix1 {a : Addr} {H H' : Hp} (k : But [a] H H') (m : Moves H a) : Fixes H H' := k.fix fun b hb => by
  rw [List.mem_singleton.mp hb]; exact m.no
theorem But.fix2 {a b : Addr} {H H' : Hp} (k : But [a, b] H H') (m : Moves H a) (m2 : Moves H b) : Fixes H H' := k.fix fun c hc => by
  simp only [List.mem_cons, List.not_mem_nil, or_false] at hc
  rcases hc with rfl | rfl
  · exact m.no
  · exact m2.no
theorem But.fix3 {a b c : Addr} {H H' : Hp} (k : But [a, b, c] H H') (m : Moves H a) (m2 : Moves H b) (m3 : Moves H c) : Fixes H H' := k.fix fun d hd => by
  simp only [List.mem_cons, List.not_mem_nil, or_false] at hd
  rcases hd with rfl | rfl | rfl
  · exact m.no
  · exact m2.no
  · exact m3.no

/-! ### told trees -/
def gw (k : Bool) : Str := if k then "and" else "or"
mutual
inductive ToldAt (nm : List Str) (H : Hp) : V → Tr → Prop where
  | fx {a : Addr} {b : Bool} : H a = some (.tup [.str "fixed", .bl b]) → ToldAt nm H (.ref a) (.fx b)
  | ct {a : Addr} {i : Nat} {x : Str} : H a = some (.tup [.str "contact", .str x]) → nm[i]? = some x → ToldAt nm H (.ref a) (.ct i)
  | nt {a : Addr} {v : V} {t : Tr} : H a = some (.tup [.str "not", v]) → ToldAt nm H v t → ToldAt nm H (.ref a) (.nt t)
  | gr {a : Addr} {k : Bool} {vs : List V} {ts : List Tr} : H a = some (.tup (.str (gw k) :: vs)) → ToldsAt nm H vs ts → ToldAt nm H (.ref a) (.gr k ts)
inductive ToldsAt (nm : List Str) (H : Hp) : List V → List Tr → Prop where
  | nil : ToldsAt nm H [] []
  | cons {v : V} {t : Tr} {vs : List V} {ts : List Tr} : ToldAt nm H v t → ToldsAt nm H vs ts → ToldsAt nm H (v :: vs) (t :: ts)
end
mutual
theorem ToldAt.mono {nm : List Str} {H H' : Hp} (k : Fixes H H') : ∀ {t : Tr} {v : V}, ToldAt nm H v t → ToldAt nm H' v t
  | .fx b, _, h => by
    cases h with
    | fx e => exact .fx (k _ _ e rfl)
  | .ct i, _, h => by
    cases h with
    | ct e hi => exact .ct (k _ _ e rfl) hi
  | .nt t, _, h => by
    cases h with
    | nt e ht => exact .nt (k _ _ e rfl) (ToldAt.mono k ht)
  | .gr g ts, _, h => by
    cases h with
    | gr e ht => exact .gr (k _ _ e rfl) (ToldsAt.mono k ht)
theorem ToldsAt.mono {nm : List Str} {H H' : Hp} (k : Fixes H H') : ∀ {ts : List Tr} {vs : List V}, ToldsAt nm H vs ts → ToldsAt nm H' vs ts
  | [], _, h => by cases h; exact .nil
  | t :: ts, _, h => by
    cases h with
    | cons h1 h2 => exact .cons (ToldAt.mono k h1) (ToldsAt.mono k h2)
end
theorem ToldsAt.len {nm : List Str} {H : Hp} : ∀ {vs : List V} {ts : List Tr}, ToldsAt nm H vs ts → vs.length = ts.length
  | [], _, h => by cases h; rfl
  | v :: vs, _, h => by
    cases h with
    | cons h1 h2 => simp [h2.len]
theorem ToldsAt.get {nm : List Str} {H : Hp} : ∀ {vs : List V} {ts : List Tr} {i : Nat} {v : V}, ToldsAt nm H vs ts → vs[i]? = some v → ∃ t, ts[i]? = some t ∧ ToldAt nm H v t
  | [], _, i, v, h, e => by simp at e
  | a :: vs, _, 0, v, h, e => by
    cases h with
    | cons h1 h2 =>
      have e' : a = v := Option.some.inj e
      subst e'
      exact ⟨_, rfl, h1⟩
  | a :: vs, _, i + 1, v, h, e => by
    cases h with
    | cons h1 h2 =>
      obtain ⟨t, e1, e2⟩ := h2.get (i := i) (v := v) (by simpa using e)
      exact ⟨t, by simpa using e1, e2⟩
theorem ToldsAt.append {nm : List Str} {H : Hp} : ∀ {vs ws : List V} {ts us : List Tr}, ToldsAt nm H vs ts → ToldsAt nm H ws us → ToldsAt nm H (vs ++ ws) (ts ++ us)
  | [], _, _, _, h, h' => by cases h; exact h'
  | v :: vs, _, _, _, h, h' => by
    cases h with
    | cons h1 h2 => exact .cons h1 (h2.append h')
theorem ToldsAt.take {nm : List Str} {H : Hp} : ∀ {vs : List V} {ts : List Tr} (k : Nat), ToldsAt nm H vs ts → ToldsAt nm H (vs.take k) (ts.take k)
  | _, _, 0, _ => by simp only [List.take_zero]; exact .nil
  | [], _, k + 1, h => by cases h; exact .nil
  | v :: vs, _, k + 1, h => by
    cases h with
    | cons h1 h2 => exact .cons h1 (h2.take k)
theorem ToldsAt.drop {nm : List Str} {H : Hp} : ∀ {vs : List V} {ts : List Tr} (k : Nat), ToldsAt nm H vs ts → ToldsAt nm H (vs.drop k) (ts.drop k)
  | _, _, 0, h => by simpa using h
  | [], _, k + 1, h => by cases h; exact .nil
  | v :: vs, _, k + 1, h => by
    cases h with
    | cons h1 h2 => exact h2.drop k

/-! ### parts -/
/-- where the classes stand -/
structure Ad where
  fx : Addr
  ct : Addr
  nt : Addr
  se : Addr
  br : Addr
  sh : Addr
inductive Kd where
  | fx | ct | nt | se | br
def Ad.at_ (a : Ad) : Kd → Addr
  | .fx => a.fx
  | .ct => a.ct
  | .nt => a.nt
  | .se => a.se
  | .br => a.br
def gk (k : Bool) : Kd := if k then .se else .br
mutual
inductive PartAt (a : Ad) (nm : List Str) (H : Hp) : V → Tr → Prop where
  | fx {p dx : Addr} {b : Bool} : H p = some (.ins (a.at_ .fx) dx [("value", .bl b)]) → PartAt a nm H (.ref p) (.fx b)
  | ct {p dx : Addr} {i : Nat} {x : Str} : H p = some (.ins (a.at_ .ct) dx [("name", .str x)]) → nm[i]? = some x → PartAt a nm H (.ref p) (.ct i)
  | nt {p dx : Addr} {v : V} {t : Tr} : H p = some (.ins (a.at_ .nt) dx [("part", v)]) → PartAt a nm H v t → PartAt a nm H (.ref p) (.nt t)
  | gr {p dx q : Addr} {k : Bool} {vs : List V} {ts : List Tr} : H p = some (.ins (a.at_ (gk k)) dx [("parts", .ref q)]) → H q = some (.tup vs) → PartsAt a nm H vs ts → PartAt a nm H (.ref p) (.gr k ts)
inductive PartsAt (a : Ad) (nm : List Str) (H : Hp) : List V → List Tr → Prop where
  | nil : PartsAt a nm H [] []
  | cons {v : V} {t : Tr} {vs : List V} {ts : List Tr} : PartAt a nm H v t → PartsAt a nm H vs ts → PartsAt a nm H (v :: vs) (t :: ts)
end
mutual
theorem PartAt.mono {a : Ad} {nm : List Str} {H H' : Hp} (k : Fixes H H') : ∀ {t : Tr} {v : V}, PartAt a nm H v t → PartAt a nm H' v t
  | .fx b, _, h => by
    cases h with
    | fx e => exact .fx (k _ _ e rfl)
  | .ct i, _, h => by
    cases h with
    | ct e hi => exact .ct (k _ _ e rfl) hi
  | .nt t, _, h => by
    cases h with
    | nt e ht => exact .nt (k _ _ e rfl) (PartAt.mono k ht)
  | .gr g ts, _, h => by
    cases h with
    | gr e eq ht => exact .gr (k _ _ e rfl) (k _ _ eq rfl) (PartsAt.mono k ht)
theorem PartsAt.mono {a : Ad} {nm : List Str} {H H' : Hp} (k : Fixes H H') : ∀ {ts : List Tr} {vs : List V}, PartsAt a nm H vs ts → PartsAt a nm H' vs ts
  | [], _, h => by cases h; exact .nil
  | t :: ts, _, h => by
    cases h with
    | cons h1 h2 => exact .cons (PartAt.mono k h1) (PartsAt.mono k h2)
end
theorem PartsAt.len {a : Ad} {nm : List Str} {H : Hp} : ∀ {vs : List V} {ts : List Tr}, PartsAt a nm H vs ts → vs.length = ts.length
  | [], _, h => by cases h; rfl
  | v :: vs, _, h => by
    cases h with
    | cons h1 h2 => simp [h2.len]
theorem PartsAt.get {a : Ad} {nm : List Str} {H : Hp} : ∀ {vs : List V} {ts : List Tr} {i : Nat} {v : V}, PartsAt a nm H vs ts → vs[i]? = some v → ∃ t, ts[i]? = some t ∧ PartAt a nm H v t
  | [], _, i, v, h, e => by simp at e
  | x :: vs, _, 0, v, h, e => by
    cases h with
    | cons h1 h2 =>
      have e' : x = v := Option.some.inj e
      subst e'
      exact ⟨_, rfl, h1⟩
  | x :: vs, _, i + 1, v, h, e => by
    cases h with
    | cons h1 h2 =>
      obtain ⟨t, e1, e2⟩ := h2.get (i := i) (v := v) (by simpa using e)
      exact ⟨t, by simpa using e1, e2⟩
theorem PartsAt.snoc {a : Ad} {nm : List Str} {H : Hp} : ∀ {vs : List V} {ts : List Tr} {v : V} {t : Tr}, PartsAt a nm H vs ts → PartAt a nm H v t → PartsAt a nm H (vs ++ [v]) (ts ++ [t])
  | [], _, _, _, h, h' => by cases h; exact .cons h' .nil
  | x :: vs, _, _, _, h, h' => by
    cases h with
    | cons h1 h2 => exact .cons h1 (h2.snoc h')

/-! ### sheets -/
structure Sl where
  p : Addr
  dx : Addr
  tn : Addr
  ln : Addr
  dn : Addr
def sfl (L : Sl) : List (Str × V) := [("names", .ref L.tn), ("nodes", .ref L.ln), ("numbers", .ref L.dn)]
def nkey (x : Nd) : List Key := [.inl (x.1 : Int), .inl (x.2.1 : Int), .inl (x.2.2 : Int)]
def numsF : Nat → List Nd → List (List Key × V)
  | _, [] => []
  | i, x :: r => (nkey x, V.int ((i : Int) + 2)) :: numsF (i + 1) r
abbrev nums (ns : List Nd) : List (List Key × V) := numsF 0 ns
theorem nkey_inj {x y : Nd} (h : nkey x = nkey y) : x = y := by
  obtain ⟨a, b, c⟩ := x
  obtain ⟨a', b', c'⟩ := y
  simp only [nkey, List.cons.injEq, Sum.inl.injEq, Int.natCast_inj, and_true] at h
  obtain ⟨h1, h2, h3⟩ := h
  subst h1; subst h2; subst h3
  rfl
theorem numsF_snoc : ∀ (i : Nat) (ns : List Nd) (x : Nd), numsF i (ns ++ [x]) = numsF i ns ++ [(nkey x, V.int (((i + ns.length : Nat) : Int) + 2))]
  | i, [], x => rfl
  | i, y :: r, x => by
    show (nkey y, _) :: numsF (i + 1) (r ++ [x]) = _
    rw [numsF_snoc (i + 1) r x]
    show _ = (nkey y, _) :: (numsF (i + 1) r ++ _)
    rw [List.length_cons, show i + 1 + r.length = i + (r.length + 1) by omega]
theorem numsF_length : ∀ (i : Nat) (ns : List Nd), (numsF i ns).length = ns.length
  | _, [] => rfl
  | i, _ :: r => by simp [numsF, numsF_length (i + 1) r]
theorem numsF_val : ∀ (i : Nat) (ns : List Nd) (x : Nd) (v : V), valV (numsF i ns) (nkey x) = some v → ∃ j : Nat, ns[j]? = some x ∧ v = .int (((i + j : Nat) : Int) + 2)
  | i, [], x, v, h => by cases h
  | i, y :: r, x, v, h => by
    by_cases e : nkey y = nkey x
    · have : valV (numsF i (y :: r)) (nkey x) = some (V.int ((i : Int) + 2)) := valV_pos (p := (nkey y, V.int ((i : Int) + 2))) e
      rw [this] at h
      refine ⟨0, by rw [nkey_inj e]; rfl, by rw [← Option.some.inj h]; rfl⟩
    · have : valV (numsF i (y :: r)) (nkey x) = valV (numsF (i + 1) r) (nkey x) := valV_neg (p := (nkey y, V.int ((i : Int) + 2))) e
      rw [this] at h
      obtain ⟨j, e1, e2⟩ := numsF_val (i + 1) r x v h
      exact ⟨j + 1, by simpa using e1, by rw [e2, show i + 1 + j = i + (j + 1) by omega]⟩
def ndV (x : Nd) : List V := [.int (x.1 : Int), .int (x.2.1 : Int), .int (x.2.2 : Int)]
theorem ndV_key (x : Nd) : (nkey x).map kV = ndV x := rfl
structure NodesAt (H : Hp) (as : List Addr) (ns : List Nd) : Prop where
  len : as.length = ns.length
  at_ : ∀ (i : Nat) (a : Addr) (x : Nd), as[i]? = some a → ns[i]? = some x → H a = some (.tup (ndV x))
theorem NodesAt.mono {H H' : Hp} {as : List Addr} {ns : List Nd} (h : NodesAt H as ns) (k : Fixes H H') : NodesAt H' as ns := ⟨h.len, fun i a x e1 e2 => k _ _ (h.at_ i a x e1 e2) rfl⟩
theorem NodesAt.snoc {H : Hp} {as : List Addr} {ns : List Nd} {a : Addr} {x : Nd} (h : NodesAt H as ns) (e : H a = some (.tup (ndV x))) : NodesAt H (as ++ [a]) (ns ++ [x]) := by
  refine ⟨by simp [h.len], fun i b y e1 e2 => ?_⟩
  by_cases hi : i < as.length
  · rw [List.getElem?_append_left hi] at e1
    rw [List.getElem?_append_left (by rw [← h.len]; exact hi)] at e2
    exact h.at_ i b y e1 e2
  · rw [List.getElem?_append_right (by omega)] at e1
    rw [List.getElem?_append_right (by rw [← h.len]; omega), ← h.len] at e2
    cases hz : i - as.length with
    | zero =>
      rw [hz] at e1 e2
      have q1 : a = b := Option.some.inj e1
      have q2 : x = y := Option.some.inj e2
      rw [← q1, ← q2]; exact e
    | succ m =>
      rw [hz] at e1
      simp at e1
/-- a tuple whose methods can be called -/
def TupO (H : Hp) (a : Addr) (xs : List V) : Prop := ∃ o, H a = some (.frz o (.tup xs)) ∧ o.dict = none
theorem TupO.sq {K : PySem.W.Frag} {H : Hp} {a : Addr} {xs : List V} (h : TupO H a xs) : SqT K H a xs := let ⟨o, e, _⟩ := h; .inl (.inr ⟨o, e⟩)
theorem TupO.mono {H H' : Hp} {a : Addr} {xs : List V} (h : TupO H a xs) (k : Fixes H H') : TupO H' a xs := let ⟨o, e, d⟩ := h; ⟨o, k _ _ e rfl, d⟩
structure SheetAt (a : Ad) (nm : List Str) (L : Sl) (H : Hp) (ns : List Nd) : Prop where
  ob : H L.p = some (.ins a.sh L.dx (sfl L))
  tn : TupO H L.tn (nm.map V.str)
  ln : ∃ as : List Addr, H L.ln = some (.lst (as.map V.ref)) ∧ NodesAt H as ns
  dn : H L.dn = some (.dT (nums ns))
  wf : WF nm.length ns
theorem SheetAt.keep {a : Ad} {nm : List Str} {L : Sl} {H H' : Hp} {ns : List Nd} (S : SheetAt a nm L H ns) (k : Fixes H H') (h1 : H' L.ln = H L.ln) (h2 : H' L.dn = H L.dn) : SheetAt a nm L H' ns := by
  obtain ⟨as, e, N⟩ := S.ln
  exact ⟨k _ _ S.ob rfl, S.tn.mono k, ⟨as, h1.trans e, N.mono k⟩, h2.trans S.dn, S.wf⟩
theorem SheetAt.same {a : Ad} {nm : List Str} {L : Sl} {H H' : Hp} {ns : List Nd} (S : SheetAt a nm L H ns) (k : Same H H') : SheetAt a nm L H' ns := by
  obtain ⟨as, e, N⟩ := id S.ln
  exact S.keep (.of k) ((k _ _ e).trans e.symm) ((k _ _ S.dn).trans S.dn.symm)
theorem SheetAt.but {a : Ad} {nm : List Str} {L : Sl} {H H' : Hp} {ns : List Nd} {l : List Addr} (S : SheetAt a nm L H ns) (k : But l H H') (f : Fixes H H') (h1 : L.ln ∉ l) (h2 : L.dn ∉ l) : SheetAt a nm L H' ns := by
  obtain ⟨as, e, N⟩ := id S.ln
  exact S.keep f ((k _ _ e h1).trans e.symm) ((k _ _ S.dn h2).trans S.dn.symm)
theorem SheetAt.mLn {a : Ad} {nm : List Str} {L : Sl} {H : Hp} {ns : List Nd} (S : SheetAt a nm L H ns) : Moves H L.ln := by
  obtain ⟨as, e, N⟩ := S.ln
  exact .lst e
theorem SheetAt.mDn {a : Ad} {nm : List Str} {L : Sl} {H : Hp} {ns : List Nd} (S : SheetAt a nm L H ns) : Moves H L.dn := .dT S.dn
theorem SheetAt.ne {a : Ad} {nm : List Str} {L : Sl} {H : Hp} {ns : List Nd} (S : SheetAt a nm L H ns) : L.ln ≠ L.dn := by
  obtain ⟨as, e, N⟩ := S.ln
  exact ne_of e S.dn (by intro z; cases z)

/-! ### rows: dicts from the names, in order -/
def rowF (acc : Nat → Bool) : Nat → List Str → List (Key × V)
  | _, [] => []
  | i, x :: r => (Sum.inr x, V.bl (acc i)) :: rowF acc (i + 1) r
abbrev rowK (nm : List Str) (acc : Nat → Bool) : List (Key × V) := rowF acc 0 nm
theorem rowF_length (acc : Nat → Bool) : ∀ (i : Nat) (nm : List Str), (rowF acc i nm).length = nm.length
  | _, [] => rfl
  | i, _ :: r => by simp [rowF, rowF_length acc (i + 1) r]
theorem rowF_keys (acc : Nat → Bool) : ∀ (i : Nat) (nm : List Str), (rowF acc i nm).map (fun kv => kV kv.1) = nm.map V.str
  | _, [] => rfl
  | i, x :: r => by
    show V.str x :: _ = V.str x :: _
    rw [rowF_keys acc (i + 1) r]
theorem rowF_congr {acc acc' : Nat → Bool} : ∀ (i : Nat) (nm : List Str), (∀ j, i ≤ j → j < i + nm.length → acc j = acc' j) → rowF acc i nm = rowF acc' i nm
  | _, [], _ => rfl
  | i, x :: r, h => by
    show (_, V.bl (acc i)) :: rowF acc (i + 1) r = (_, V.bl (acc' i)) :: rowF acc' (i + 1) r
    rw [h i (Nat.le_refl _) (by rw [List.length_cons]; omega), rowF_congr (i + 1) r fun j h1 h2 => h j (by omega) (by rw [List.length_cons]; omega)]
theorem rowF_val (acc : Nat → Bool) : ∀ (i : Nat) (nm : List Str), nm.Nodup → ∀ (j : Nat) (x : Str), nm[j]? = some x → valV (rowF acc i nm) (Sum.inr x : Key) = some (.bl (acc (i + j)))
  | _, [], _, j, x, h => by simp at h
  | i, y :: r, nd, 0, x, h => by
    have e : y = x := Option.some.inj h
    subst e
    exact valV_pos (p := ((Sum.inr y : Key), V.bl (acc i))) rfl
  | i, y :: r, nd, j + 1, x, h => by
    have h' : r[j]? = some x := by simpa using h
    have ne : ¬ (Sum.inr y : Key) = Sum.inr x := fun z => (List.nodup_cons.mp nd).1 (by
      rw [Sum.inr.inj z]; exact List.mem_of_getElem? h')
    have : valV (rowF acc i (y :: r)) (Sum.inr x : Key) = valV (rowF acc (i + 1) r) (Sum.inr x : Key) := valV_neg (p := ((Sum.inr y : Key), V.bl (acc i))) ne
    rw [this, rowF_val acc (i + 1) r (List.nodup_cons.mp nd).2 j x h', show i + 1 + j = i + (j + 1) by omega]
theorem rowF_none (acc : Nat → Bool) : ∀ (i : Nat) (nm : List Str) (x : Str), x ∉ nm → valV (rowF acc i nm) (Sum.inr x : Key) = none
  | _, [], _, _ => rfl
  | i, y :: r, x, h => by
    have ne : ¬ (Sum.inr y : Key) = Sum.inr x := fun z => h (by rw [Sum.inr.inj z]; exact List.mem_cons_self)
    have : valV (rowF acc i (y :: r)) (Sum.inr x : Key) = valV (rowF acc (i + 1) r) (Sum.inr x : Key) := valV_neg (p := ((Sum.inr y : Key), V.bl (acc i))) ne
    rw [this, rowF_none acc (i + 1) r x fun z => h (List.mem_cons_of_mem _ z)]
theorem rowF_snoc (acc : Nat → Bool) : ∀ (i : Nat) (nm : List Str) (x : Str), rowF acc i (nm ++ [x]) = rowF acc i nm ++ [(Sum.inr x, V.bl (acc (i + nm.length)))]
  | i, [], x => rfl
  | i, y :: r, x => by
    show (_, _) :: rowF acc (i + 1) (r ++ [x]) = _
    rw [rowF_snoc acc (i + 1) r x, List.length_cons, show i + 1 + r.length = i + (r.length + 1) by omega]
    rfl
/-- a name's truth is stored anew -/
theorem rowF_put (acc : Nat → Bool) (b : Bool) : ∀ (i : Nat) (nm : List Str), nm.Nodup → ∀ (j : Nat) (x : Str), nm[j]? = some x → putK (rowF acc i nm) (Sum.inr x : Key) (.bl b) = rowF (st acc (i + j) b) i nm := by
  intro i nm nd j x h
  have hv := rowF_val acc i nm nd j x h
  have hany : ((rowF acc i nm).any fun kv => decide (kv.1 = (Sum.inr x : Key))) = true := by rw [valV_any, hv]; rfl
  unfold putK
  rw [if_pos hany]
  clear hany hv
  induction nm generalizing i j with
  | nil => simp at h
  | cons y r ih =>
    obtain ⟨n1, n2⟩ := List.nodup_cons.mp nd
    cases j with
    | zero =>
      have e : y = x := Option.some.inj h
      subst e
      have rest : (rowF acc (i + 1) r).map (fun kv => if kv.1 = (Sum.inr y : Key) then (kv.1, V.bl b) else kv) = rowF acc (i + 1) r := by
        have : ∀ (k : Nat) (l : List Str), y ∉ l → (rowF acc k l).map (fun kv => if kv.1 = (Sum.inr y : Key) then (kv.1, V.bl b) else kv) = rowF acc k l := by
          intro k l
          induction l generalizing k with
          | nil => intro _; rfl
          | cons z l ihl =>
            intro hz
            have ne : ¬ (Sum.inr z : Key) = Sum.inr y := fun q => hz (by rw [Sum.inr.inj q]; exact List.mem_cons_self)
            show (if (Sum.inr z : Key) = Sum.inr y then _ else _) :: _ = _ :: _
            rw [if_neg ne, ihl (k + 1) fun q => hz (List.mem_cons_of_mem _ q)]
        exact this (i + 1) r n1
      show (if (Sum.inr y : Key) = Sum.inr y then _ else _) :: _ = (_, V.bl (st acc i b i)) :: rowF (st acc i b) (i + 1) r
      rw [if_pos rfl, rest, st_same, rowF_congr (acc := st acc i b) (acc' := acc) (i + 1) r fun j h1 _ => st_ne _ _ (by omega)]
    | succ j =>
      have h' : r[j]? = some x := by simpa using h
      have ne : ¬ (Sum.inr y : Key) = Sum.inr x := fun z => n1 (by rw [Sum.inr.inj z]; exact List.mem_of_getElem? h')
      show (if (Sum.inr y : Key) = Sum.inr x then _ else _) :: _ = (_, V.bl (st acc (i + (j + 1)) b i)) :: rowF (st acc (i + (j + 1)) b) (i + 1) r
      rw [if_neg ne, ih (i + 1) n2 j h', st_ne _ _ (by omega), show i + 1 + j = i + (j + 1) by omega]
end K34
set_option Elab.async false
set_option linter.all false
set_option maxRecDepth 100000
set_option maxHeartbeats 4000000
/-! Tuples whose methods can be called. -/
namespace K34
open PySem PySem.Spec PyProof.Rows L2 C8
section
variable {X : Cx}
def rTupO (K : PySem.W.Frag) : List V → Hp → VK → Prop := fun xs H Q => ∃ p ys, xs = [.ref p] ∧ SqL K H p ys ∧ ∀ l o, H l = none → o.dict = none → Q (.ref l) (upd H l (.frz o (.tup ys)))
theorem call_tupleO : CallR X (.type "tuple") (rTupO X.K) := by
  intro pins s σ H xs us Q I r h
  obtain ⟨p, ys, rfl, hq, q⟩ := h
  obtain ⟨u, rfl, rx⟩ := vals1 r
  cases rx
  obtain ⟨its, r', pl, hz⟩ := I.list hq
  have hlen := r'.length
  refine call_tuple_list pl.isList (fun h' kp => ?_) (by simp only [List.size_toArray] <;> omega)
  have I1 : Inv X pins σ H { s with heap := h' } := I.kept (t' := s.toks) kp
  have I2 : Inv X pins σ (upd H h'.objs.size (.frz { cls := .type "tuple", data := .seq its.toArray } (.tup ys))) { s with heap := h'.push { cls := .type "tuple", data := .seq its.toArray } } :=
    I1.laid (t' := s.toks) (fun b o e => Heap.get?_push_of_some _ e) (Nat.le_refl _) (show ObjOk X.prog X.w _ _ _ (.frz _ (.tup ys)) from ⟨Heap.get?_push_size _ rfl, hz, its, r', IsTup.new _ _⟩)
  exact ⟨.ref h'.objs.size, _, I2, rfl, q _ _ (I1.hok.fresh (Nat.le_refl _)) rfl⟩
def tBMO (r : V → List V → Hp → VK → Prop) (to : TE) (t : TA) : TE := fun σ H Q => to σ H fun x H1 => (∃ p ys, x = .ref p ∧ TupO H1 p ys) ∧ t σ H1 fun xs H2 => r x xs H2 Q
variable {o e : Expr} {es : List Expr} {to : TE} {t : TA} {name : Str} {apos cpos : Pos} {id : String} {r : V → List V → Hp → VK → Prop}
theorem pe_bmO (pa : PlainAttrs "tuple") (slot : Slot "tuple" name id) (hty : typeOf (.builtin id) = pure (.type "method_descriptor")) (hm : MtR X id r) (ho : PE X o to) (ha : PA X (e :: es) t)
    (hbase : attributeBase o name X.env (eval o X.env) = eval o X.env := by rfl)
    (hfew : ((backTo cpos (starEach (e :: es) X.env)).all (fun x => !x.1) && (backToKw cpos (keywordEach [] X.env)).all (fun x => x.1.isSome)
      && decide ((e :: es).length + ([] : List Keyword).length + (if ([] : List Keyword).isEmpty then 0 else 1) < 30)) = true := by rfl)
    (hline : (apos.endLine == cpos.line) = true := by rfl) (hs : starEach (e :: es) X.env = (false, eval e X.env) :: starEach es X.env := by rfl) (hplain : (backTo cpos (starEach es X.env)).any (·.1) = false := by rfl) :
    PE X (.Call (.Attribute o name apos) (e :: es) [] cpos) (tBMO r to t) := by
  refine ⟨fun pins s σ H Q I h => ?_⟩
  refine wpAny_Call_method_late hbase hfew hline rfl (thn (ho.run pins s σ H _ I h) fun v s1 ⟨x, H1, I1, r1, ty, q1⟩ => ?_)
  obtain ⟨p, ys, rfl, ob, eo, dn⟩ := ty
  obtain rfl : v = Value.ref p := r1
  obtain ⟨eg, ok1⟩ := (show ObjOk X.prog X.w H1 s1.heap p (.frz ob (.tup ys)) from I1.hok p _ eo)
  obtain ⟨_, _, _, o2, h1, h2, _⟩ := ok1
  rw [eg] at h1
  cases h1
  refine ⟨"tuple", id, pa, slot, hty, ⟨ob, eg, h2⟩, (fun a e => by cases e; exact ⟨ob, eg, dn⟩), ?_⟩
  have hA := ha.run cpos pins s1 σ H1 _ I1 q1
  rw [hs] at hA ⊢
  refine Calls.callWith_builtin (by show (false || (backTo cpos (starEach es X.env)).any (·.1)) = false; rw [hplain] <;> rfl) (Calls.evalArgs_plain ?_)
  exact thn hA fun us s2 ⟨vs, H2, I2, r2, q2⟩ => hm pins s2 σ H2 (.ref p) vs (.ref p) us Q I2 rfl r2 q2
end
end K34
set_option Elab.async false
set_option linter.all false
set_option maxRecDepth 100000
set_option maxHeartbeats 4000000
/-! What the top leaves: each def's row, each class's facts; how calls are made of them. -/
namespace K34
open PySem PySem.Spec PyProof.Rows L2 C8
/-- a def's row in the written part -/
structure Row (K : PySem.W.Frag) (x qual : Str) (st : Stmt) (f : Addr) : Prop where
  ex : ∃ (oc : Value) (od : Option Addr) (kV doc pm : Value) (an : Option Addr) (cdv ct : Value) (osl : Array (Option Value)),
    K.lookup f = some ⟨oc, od, .func (PySem.W.fnOf x qual (defArgs st) (defBody st) (defScope st) .none kV doc pm an cdv ct), osl⟩ ∧ PySem.W.codeIn K cdv qual = true
  kp : PySem.W.keepIn K (.ref f) = true
theorem some_of {α : Type} {o : Option α} {x : α} (h : o = some x) : o.isSome = true := by rw [h]; rfl
/-- where the defs stand -/
structure Fs where
  fIsWord : Addr
  fIsName : Addr
  fPInner : Addr
  fSize : Addr
  fDepth : Addr
  fPGather : Addr
  fContacts : Addr
  fBounded : Addr
  fFInit : Addr
  fCInit : Addr
  fCGather : Addr
  fTInit : Addr
  fTInner : Addr
  fGInit : Addr
  fGInner : Addr
  fSingle : Addr
  fJoined : Addr
  fPartOf : Addr
  fSInit : Addr
  fPlace : Addr
  fMade : Addr
  fBelow : Addr
  fSJoined : Addr
  fOpposite : Addr
  fDrawn : Addr
  fNeed : Addr
  fNode : Addr
  fSTurned : Addr
  fShown : Addr
  fRow : Addr
  fCounted : Addr
  fWays : Addr
  fCellAt : Addr
  fMixed : Addr
  fWord : Addr
  fNames : Addr
  fGrown : Addr
  fToldBy : Addr
  fHolds : Addr
  fLRow : Addr
  fWhole : Addr
  fFound : Addr
  fAlike : Addr
  fLaw : Addr
/-- what the top leaves, in the words of the written part -/
structure Left (K : PySem.W.Frag) (a : Ad) (fs : Fs) : Prop where
  rIsWord : Row K "is_word" "is_word" sIsWord fs.fIsWord
  gIsWord : PySem.W.nsIn K mainGlobals "is_word" = some (some (.ref fs.fIsWord))
  rIsName : Row K "is_name" "is_name" sIsName fs.fIsName
  gIsName : PySem.W.nsIn K mainGlobals "is_name" = some (some (.ref fs.fIsName))
  rPInner : Row K "inner" "Part.inner" sPInner fs.fPInner
  iPInner : PySem.W.isFn K (.ref fs.fPInner) = true
  rSize : Row K "size" "Part.size" sSize fs.fSize
  iSize : PySem.W.isFn K (.ref fs.fSize) = true
  rDepth : Row K "depth" "Part.depth" sDepth fs.fDepth
  iDepth : PySem.W.isFn K (.ref fs.fDepth) = true
  rPGather : Row K "gather" "Part.gather" sPGather fs.fPGather
  iPGather : PySem.W.isFn K (.ref fs.fPGather) = true
  rContacts : Row K "contacts" "Part.contacts" sContacts fs.fContacts
  iContacts : PySem.W.isFn K (.ref fs.fContacts) = true
  rBounded : Row K "bounded" "Part.bounded" sBounded fs.fBounded
  iBounded : PySem.W.isFn K (.ref fs.fBounded) = true
  rFInit : Row K "__init__" "Fixed.__init__" sFInit fs.fFInit
  iFInit : PySem.W.isFn K (.ref fs.fFInit) = true
  rCInit : Row K "__init__" "Contact.__init__" sCInit fs.fCInit
  iCInit : PySem.W.isFn K (.ref fs.fCInit) = true
  rCGather : Row K "gather" "Contact.gather" sCGather fs.fCGather
  iCGather : PySem.W.isFn K (.ref fs.fCGather) = true
  rTInit : Row K "__init__" "Turned.__init__" sTInit fs.fTInit
  iTInit : PySem.W.isFn K (.ref fs.fTInit) = true
  rTInner : Row K "inner" "Turned.inner" sTInner fs.fTInner
  iTInner : PySem.W.isFn K (.ref fs.fTInner) = true
  rGInit : Row K "__init__" "Group.__init__" sGInit fs.fGInit
  iGInit : PySem.W.isFn K (.ref fs.fGInit) = true
  rGInner : Row K "inner" "Group.inner" sGInner fs.fGInner
  iGInner : PySem.W.isFn K (.ref fs.fGInner) = true
  rSingle : Row K "single" "single" sSingle fs.fSingle
  gSingle : PySem.W.nsIn K mainGlobals "single" = some (some (.ref fs.fSingle))
  rJoined : Row K "joined" "joined" sJoined fs.fJoined
  gJoined : PySem.W.nsIn K mainGlobals "joined" = some (some (.ref fs.fJoined))
  rPartOf : Row K "part_of" "part_of" sPartOf fs.fPartOf
  gPartOf : PySem.W.nsIn K mainGlobals "part_of" = some (some (.ref fs.fPartOf))
  rSInit : Row K "__init__" "Sheet.__init__" sSInit fs.fSInit
  iSInit : PySem.W.isFn K (.ref fs.fSInit) = true
  rPlace : Row K "place" "Sheet.place" sPlace fs.fPlace
  iPlace : PySem.W.isFn K (.ref fs.fPlace) = true
  rMade : Row K "made" "Sheet.made" sMade fs.fMade
  iMade : PySem.W.isFn K (.ref fs.fMade) = true
  rBelow : Row K "below" "Sheet.below" sBelow fs.fBelow
  iBelow : PySem.W.isFn K (.ref fs.fBelow) = true
  rSJoined : Row K "joined" "Sheet.joined" sSJoined fs.fSJoined
  iSJoined : PySem.W.isFn K (.ref fs.fSJoined) = true
  rOpposite : Row K "opposite" "Sheet.opposite" sOpposite fs.fOpposite
  iOpposite : PySem.W.isFn K (.ref fs.fOpposite) = true
  rDrawn : Row K "drawn" "Sheet.drawn" sDrawn fs.fDrawn
  iDrawn : PySem.W.isFn K (.ref fs.fDrawn) = true
  rNeed : Row K "need" "Sheet.need" sNeed fs.fNeed
  iNeed : PySem.W.isFn K (.ref fs.fNeed) = true
  rNode : Row K "node" "Sheet.node" sNode fs.fNode
  iNode : PySem.W.isFn K (.ref fs.fNode) = true
  rSTurned : Row K "turned" "Sheet.turned" sSTurned fs.fSTurned
  iSTurned : PySem.W.isFn K (.ref fs.fSTurned) = true
  rShown : Row K "shown" "Sheet.shown" sShown fs.fShown
  iShown : PySem.W.isFn K (.ref fs.fShown) = true
  rRow : Row K "row" "Sheet.row" sRow fs.fRow
  iRow : PySem.W.isFn K (.ref fs.fRow) = true
  rCounted : Row K "counted" "Sheet.counted" sCounted fs.fCounted
  iCounted : PySem.W.isFn K (.ref fs.fCounted) = true
  rWays : Row K "ways" "Sheet.ways" sWays fs.fWays
  iWays : PySem.W.isFn K (.ref fs.fWays) = true
  rCellAt : Row K "_law_cell_at" "_law_cell_at" sCellAt fs.fCellAt
  gCellAt : PySem.W.nsIn K mainGlobals "_law_cell_at" = some (some (.ref fs.fCellAt))
  rMixed : Row K "_law_mixed" "_law_mixed" sMixed fs.fMixed
  gMixed : PySem.W.nsIn K mainGlobals "_law_mixed" = some (some (.ref fs.fMixed))
  rWord : Row K "_law_word" "_law_word" sWord fs.fWord
  gWord : PySem.W.nsIn K mainGlobals "_law_word" = some (some (.ref fs.fWord))
  rNames : Row K "_law_names" "_law_names" sNames fs.fNames
  gNames : PySem.W.nsIn K mainGlobals "_law_names" = some (some (.ref fs.fNames))
  rGrown : Row K "_law_grown" "_law_grown" sGrown fs.fGrown
  gGrown : PySem.W.nsIn K mainGlobals "_law_grown" = some (some (.ref fs.fGrown))
  rToldBy : Row K "_law_told_by" "_law_told_by" sToldBy fs.fToldBy
  gToldBy : PySem.W.nsIn K mainGlobals "_law_told_by" = some (some (.ref fs.fToldBy))
  rHolds : Row K "_law_holds" "_law_holds" sHolds fs.fHolds
  gHolds : PySem.W.nsIn K mainGlobals "_law_holds" = some (some (.ref fs.fHolds))
  rLRow : Row K "_law_row" "_law_row" sLRow fs.fLRow
  gLRow : PySem.W.nsIn K mainGlobals "_law_row" = some (some (.ref fs.fLRow))
  rWhole : Row K "_law_whole" "_law_whole" sWhole fs.fWhole
  gWhole : PySem.W.nsIn K mainGlobals "_law_whole" = some (some (.ref fs.fWhole))
  rFound : Row K "_law_found" "_law_found" sFound fs.fFound
  gFound : PySem.W.nsIn K mainGlobals "_law_found" = some (some (.ref fs.fFound))
  rAlike : Row K "_law_alike" "_law_alike" sAlike fs.fAlike
  gAlike : PySem.W.nsIn K mainGlobals "_law_alike" = some (some (.ref fs.fAlike))
  rLaw : Row K "law" "law" sLaw fs.fLaw
  gLaw : PySem.W.nsIn K mainGlobals "law" = some (some (.ref fs.fLaw))
  m_size_fx : PySem.W.findIn K (.ref a.fx) "size" = some (some (.ref fs.fSize))
  m_size_ct : PySem.W.findIn K (.ref a.ct) "size" = some (some (.ref fs.fSize))
  m_size_nt : PySem.W.findIn K (.ref a.nt) "size" = some (some (.ref fs.fSize))
  m_size_se : PySem.W.findIn K (.ref a.se) "size" = some (some (.ref fs.fSize))
  m_size_br : PySem.W.findIn K (.ref a.br) "size" = some (some (.ref fs.fSize))
  m_depth_fx : PySem.W.findIn K (.ref a.fx) "depth" = some (some (.ref fs.fDepth))
  m_depth_ct : PySem.W.findIn K (.ref a.ct) "depth" = some (some (.ref fs.fDepth))
  m_depth_nt : PySem.W.findIn K (.ref a.nt) "depth" = some (some (.ref fs.fDepth))
  m_depth_se : PySem.W.findIn K (.ref a.se) "depth" = some (some (.ref fs.fDepth))
  m_depth_br : PySem.W.findIn K (.ref a.br) "depth" = some (some (.ref fs.fDepth))
  m_contacts_fx : PySem.W.findIn K (.ref a.fx) "contacts" = some (some (.ref fs.fContacts))
  m_contacts_ct : PySem.W.findIn K (.ref a.ct) "contacts" = some (some (.ref fs.fContacts))
  m_contacts_nt : PySem.W.findIn K (.ref a.nt) "contacts" = some (some (.ref fs.fContacts))
  m_contacts_se : PySem.W.findIn K (.ref a.se) "contacts" = some (some (.ref fs.fContacts))
  m_contacts_br : PySem.W.findIn K (.ref a.br) "contacts" = some (some (.ref fs.fContacts))
  m_bounded_fx : PySem.W.findIn K (.ref a.fx) "bounded" = some (some (.ref fs.fBounded))
  m_bounded_ct : PySem.W.findIn K (.ref a.ct) "bounded" = some (some (.ref fs.fBounded))
  m_bounded_nt : PySem.W.findIn K (.ref a.nt) "bounded" = some (some (.ref fs.fBounded))
  m_bounded_se : PySem.W.findIn K (.ref a.se) "bounded" = some (some (.ref fs.fBounded))
  m_bounded_br : PySem.W.findIn K (.ref a.br) "bounded" = some (some (.ref fs.fBounded))
  m_inner_fx : PySem.W.findIn K (.ref a.fx) "inner" = some (some (.ref fs.fPInner))
  m_inner_ct : PySem.W.findIn K (.ref a.ct) "inner" = some (some (.ref fs.fPInner))
  m_inner_nt : PySem.W.findIn K (.ref a.nt) "inner" = some (some (.ref fs.fTInner))
  m_inner_se : PySem.W.findIn K (.ref a.se) "inner" = some (some (.ref fs.fGInner))
  m_inner_br : PySem.W.findIn K (.ref a.br) "inner" = some (some (.ref fs.fGInner))
  m_gather_fx : PySem.W.findIn K (.ref a.fx) "gather" = some (some (.ref fs.fPGather))
  m_gather_ct : PySem.W.findIn K (.ref a.ct) "gather" = some (some (.ref fs.fCGather))
  m_gather_nt : PySem.W.findIn K (.ref a.nt) "gather" = some (some (.ref fs.fPGather))
  m_gather_se : PySem.W.findIn K (.ref a.se) "gather" = some (some (.ref fs.fPGather))
  m_gather_br : PySem.W.findIn K (.ref a.br) "gather" = some (some (.ref fs.fPGather))
  m_init_fx : PySem.W.findIn K (.ref a.fx) "__init__" = some (some (.ref fs.fFInit))
  m_init_ct : PySem.W.findIn K (.ref a.ct) "__init__" = some (some (.ref fs.fCInit))
  m_init_nt : PySem.W.findIn K (.ref a.nt) "__init__" = some (some (.ref fs.fTInit))
  m_init_se : PySem.W.findIn K (.ref a.se) "__init__" = some (some (.ref fs.fGInit))
  m_init_br : PySem.W.findIn K (.ref a.br) "__init__" = some (some (.ref fs.fGInit))
  m_init_sh : PySem.W.findIn K (.ref a.sh) "__init__" = some (some (.ref fs.fSInit))
  m_place_sh : PySem.W.findIn K (.ref a.sh) "place" = some (some (.ref fs.fPlace))
  m_made_sh : PySem.W.findIn K (.ref a.sh) "made" = some (some (.ref fs.fMade))
  m_below_sh : PySem.W.findIn K (.ref a.sh) "below" = some (some (.ref fs.fBelow))
  m_joined_sh : PySem.W.findIn K (.ref a.sh) "joined" = some (some (.ref fs.fSJoined))
  m_opposite_sh : PySem.W.findIn K (.ref a.sh) "opposite" = some (some (.ref fs.fOpposite))
  m_drawn_sh : PySem.W.findIn K (.ref a.sh) "drawn" = some (some (.ref fs.fDrawn))
  m_need_sh : PySem.W.findIn K (.ref a.sh) "need" = some (some (.ref fs.fNeed))
  m_node_sh : PySem.W.findIn K (.ref a.sh) "node" = some (some (.ref fs.fNode))
  m_turned_sh : PySem.W.findIn K (.ref a.sh) "turned" = some (some (.ref fs.fSTurned))
  m_shown_sh : PySem.W.findIn K (.ref a.sh) "shown" = some (some (.ref fs.fShown))
  m_row_sh : PySem.W.findIn K (.ref a.sh) "row" = some (some (.ref fs.fRow))
  m_counted_sh : PySem.W.findIn K (.ref a.sh) "counted" = some (some (.ref fs.fCounted))
  m_ways_sh : PySem.W.findIn K (.ref a.sh) "ways" = some (some (.ref fs.fWays))
  c_fx : PySem.W.nsIn K mainGlobals "Fixed" = some (some (.ref a.fx))
  pg_fx : PySem.W.plainGet K a.fx Str.empty = true
  hd_fx : PySem.W.hasDictIn K a.fx = true
  po_fx : PySem.W.plainOver K a.fx = true
  sa_fx : PySem.W.findIn K (.ref a.fx) "__setattr__" = some (some (.builtin "object.__setattr__"))
  mk_fx : PySem.W.makesIn K a.fx = true
  kc_fx : PySem.W.keepIn K (.ref a.fx) = true
  n_value_fx : PySem.W.findIn K (.ref a.fx) "value" = some none
  c_ct : PySem.W.nsIn K mainGlobals "Contact" = some (some (.ref a.ct))
  pg_ct : PySem.W.plainGet K a.ct Str.empty = true
  hd_ct : PySem.W.hasDictIn K a.ct = true
  po_ct : PySem.W.plainOver K a.ct = true
  sa_ct : PySem.W.findIn K (.ref a.ct) "__setattr__" = some (some (.builtin "object.__setattr__"))
  mk_ct : PySem.W.makesIn K a.ct = true
  kc_ct : PySem.W.keepIn K (.ref a.ct) = true
  n_name_ct : PySem.W.findIn K (.ref a.ct) "name" = some none
  c_nt : PySem.W.nsIn K mainGlobals "Turned" = some (some (.ref a.nt))
  pg_nt : PySem.W.plainGet K a.nt Str.empty = true
  hd_nt : PySem.W.hasDictIn K a.nt = true
  po_nt : PySem.W.plainOver K a.nt = true
  sa_nt : PySem.W.findIn K (.ref a.nt) "__setattr__" = some (some (.builtin "object.__setattr__"))
  mk_nt : PySem.W.makesIn K a.nt = true
  kc_nt : PySem.W.keepIn K (.ref a.nt) = true
  n_part_nt : PySem.W.findIn K (.ref a.nt) "part" = some none
  c_se : PySem.W.nsIn K mainGlobals "Series" = some (some (.ref a.se))
  pg_se : PySem.W.plainGet K a.se Str.empty = true
  hd_se : PySem.W.hasDictIn K a.se = true
  po_se : PySem.W.plainOver K a.se = true
  sa_se : PySem.W.findIn K (.ref a.se) "__setattr__" = some (some (.builtin "object.__setattr__"))
  mk_se : PySem.W.makesIn K a.se = true
  kc_se : PySem.W.keepIn K (.ref a.se) = true
  n_parts_se : PySem.W.findIn K (.ref a.se) "parts" = some none
  c_br : PySem.W.nsIn K mainGlobals "Branch" = some (some (.ref a.br))
  pg_br : PySem.W.plainGet K a.br Str.empty = true
  hd_br : PySem.W.hasDictIn K a.br = true
  po_br : PySem.W.plainOver K a.br = true
  sa_br : PySem.W.findIn K (.ref a.br) "__setattr__" = some (some (.builtin "object.__setattr__"))
  mk_br : PySem.W.makesIn K a.br = true
  kc_br : PySem.W.keepIn K (.ref a.br) = true
  n_parts_br : PySem.W.findIn K (.ref a.br) "parts" = some none
  c_sh : PySem.W.nsIn K mainGlobals "Sheet" = some (some (.ref a.sh))
  pg_sh : PySem.W.plainGet K a.sh Str.empty = true
  hd_sh : PySem.W.hasDictIn K a.sh = true
  po_sh : PySem.W.plainOver K a.sh = true
  sa_sh : PySem.W.findIn K (.ref a.sh) "__setattr__" = some (some (.builtin "object.__setattr__"))
  mk_sh : PySem.W.makesIn K a.sh = true
  kc_sh : PySem.W.keepIn K (.ref a.sh) = true
  n_names_sh : PySem.W.findIn K (.ref a.sh) "names" = some none
  n_nodes_sh : PySem.W.findIn K (.ref a.sh) "nodes" = some none
  n_numbers_sh : PySem.W.findIn K (.ref a.sh) "numbers" = some none
  xa_fx : PySem.W.findIn K (.ref a.fx) "__class__" = some (some (.builtin "object.__class__"))
  xm_fx : PySem.W.mroIn K a.fx (.type "object") = some true
  xa_ct : PySem.W.findIn K (.ref a.ct) "__class__" = some (some (.builtin "object.__class__"))
  xm_ct : PySem.W.mroIn K a.ct (.type "object") = some true
  xa_nt : PySem.W.findIn K (.ref a.nt) "__class__" = some (some (.builtin "object.__class__"))
  xm_nt : PySem.W.mroIn K a.nt (.type "object") = some true
  xa_se : PySem.W.findIn K (.ref a.se) "__class__" = some (some (.builtin "object.__class__"))
  xm_se : PySem.W.mroIn K a.se (.type "object") = some true
  xa_br : PySem.W.findIn K (.ref a.br) "__class__" = some (some (.builtin "object.__class__"))
  xm_br : PySem.W.mroIn K a.br (.type "object") = some true
  xn : PySem.W.specialIn K (.builtin "object.__class__") "__get__" = some (some (.builtin "getset_descriptor.__get__"))
  xt : PySem.W.takesIn K (.builtin "object.__class__") = some true
  s_ct_fx : PySem.W.subIn K (.ref a.ct) (.ref a.fx) = some false
  d_ct_fx : (a.ct == a.fx) = false
  s_nt_fx : PySem.W.subIn K (.ref a.nt) (.ref a.fx) = some false
  d_nt_fx : (a.nt == a.fx) = false
  s_nt_ct : PySem.W.subIn K (.ref a.nt) (.ref a.ct) = some false
  d_nt_ct : (a.nt == a.ct) = false
  s_se_fx : PySem.W.subIn K (.ref a.se) (.ref a.fx) = some false
  d_se_fx : (a.se == a.fx) = false
  s_se_ct : PySem.W.subIn K (.ref a.se) (.ref a.ct) = some false
  d_se_ct : (a.se == a.ct) = false
  s_se_nt : PySem.W.subIn K (.ref a.se) (.ref a.nt) = some false
  d_se_nt : (a.se == a.nt) = false
  s_br_fx : PySem.W.subIn K (.ref a.br) (.ref a.fx) = some false
  d_br_fx : (a.br == a.fx) = false
  s_br_ct : PySem.W.subIn K (.ref a.br) (.ref a.ct) = some false
  d_br_ct : (a.br == a.ct) = false
  s_br_nt : PySem.W.subIn K (.ref a.br) (.ref a.nt) = some false
  d_br_nt : (a.br == a.nt) = false
  s_br_se : PySem.W.subIn K (.ref a.br) (.ref a.se) = some false
  d_br_se : (a.br == a.se) = false
  t_fx : PySem.W.typeIn K (.ref a.fx) = some (.type "type")
  y_fx : (PySem.W.clsIn K a.fx).isSome = true
  t_ct : PySem.W.typeIn K (.ref a.ct) = some (.type "type")
  y_ct : (PySem.W.clsIn K a.ct).isSome = true
  t_nt : PySem.W.typeIn K (.ref a.nt) = some (.type "type")
  y_nt : (PySem.W.clsIn K a.nt).isSome = true
  t_se : PySem.W.typeIn K (.ref a.se) = some (.type "type")
  y_se : (PySem.W.clsIn K a.se).isSome = true
  z_len : PySem.W.nsIn K mainGlobals "len" = some none
  z_sum : PySem.W.nsIn K mainGlobals "sum" = some none
  z_max : PySem.W.nsIn K mainGlobals "max" = some none
  z_min : PySem.W.nsIn K mainGlobals "min" = some none
  z_isinstance : PySem.W.nsIn K mainGlobals "isinstance" = some none
  z_int : PySem.W.nsIn K mainGlobals "int" = some none
  z_set : PySem.W.nsIn K mainGlobals "set" = some none
  z_tuple : PySem.W.nsIn K mainGlobals "tuple" = some none
  z_list : PySem.W.nsIn K mainGlobals "list" = some none
  z_range : PySem.W.nsIn K mainGlobals "range" = some none
  z_bool : PySem.W.nsIn K mainGlobals "bool" = some none
  z_dict : PySem.W.nsIn K mainGlobals "dict" = some none
  vSIGNS : ∃ t, PySem.W.nsIn K mainGlobals "SIGNS" = some (some (.str "abcdefghijklmnopqrstuvwxyz" t))
  vMOST_SIGNS : ∃ t, PySem.W.nsIn K mainGlobals "MOST_SIGNS" = some (some (.int 8 t))
  vMOST_SIZE : ∃ t, PySem.W.nsIn K mainGlobals "MOST_SIZE" = some (some (.int 60 t))
  vMOST_DEEP : ∃ t, PySem.W.nsIn K mainGlobals "MOST_DEEP" = some (some (.int 20 t))
  vMOST_NAMES : ∃ t, PySem.W.nsIn K mainGlobals "MOST_NAMES" = some (some (.int 60 t))
  vMOST_NODES : ∃ t, PySem.W.nsIn K mainGlobals "MOST_NODES" = some (some (.int 2000 t))
  vTooMany : ∃ p, PySem.W.nsIn K mainGlobals "TooMany" = some (some (.ref p))
  vKEPT : ∃ p, PySem.W.nsIn K mainGlobals "KEPT" = some (some (.ref p)) ∧ ∃ od t1 t2 t3 t4 t5 t6 t7 t8 t9 t10 t11 n sl, K.lookup p = some ⟨.type "tuple", od, .seq #[.str "on" t1, .str "off" t2, .str "and" t3, .str "or" t4, .str "not" t5, .str "set" t6, .str "reset" t7, .str "timer" t8, .str "counter" t9, .str "inputs" t10, .str "outputs" t11] n, sl⟩
theorem left_mk {K : PySem.W.Frag} {c_fx_ c_ct_ c_nt_ c_se_ c_br_ c_sh_ fIsWord fIsName fPInner fSize fDepth fPGather fContacts fBounded fFInit fCInit fCGather fTInit fTInner fGInit fGInner fSingle fJoined fPartOf fSInit fPlace fMade fBelow fSJoined fOpposite fDrawn fNeed fNode fSTurned fShown fRow fCounted fWays fCellAt fMixed fWord fNames fGrown fToldBy fHolds fLRow fWhole fFound fAlike fLaw : Addr}
    (rIsWord : Row K "is_word" "is_word" sIsWord fIsWord)
    (gIsWord : PySem.W.nsIn K mainGlobals "is_word" = some (some (.ref fIsWord)))
    (rIsName : Row K "is_name" "is_name" sIsName fIsName)
    (gIsName : PySem.W.nsIn K mainGlobals "is_name" = some (some (.ref fIsName)))
    (rPInner : Row K "inner" "Part.inner" sPInner fPInner)
    (iPInner : PySem.W.isFn K (.ref fPInner) = true)
    (rSize : Row K "size" "Part.size" sSize fSize)
    (iSize : PySem.W.isFn K (.ref fSize) = true)
    (rDepth : Row K "depth" "Part.depth" sDepth fDepth)
    (iDepth : PySem.W.isFn K (.ref fDepth) = true)
    (rPGather : Row K "gather" "Part.gather" sPGather fPGather)
    (iPGather : PySem.W.isFn K (.ref fPGather) = true)
    (rContacts : Row K "contacts" "Part.contacts" sContacts fContacts)
    (iContacts : PySem.W.isFn K (.ref fContacts) = true)
    (rBounded : Row K "bounded" "Part.bounded" sBounded fBounded)
    (iBounded : PySem.W.isFn K (.ref fBounded) = true)
    (rFInit : Row K "__init__" "Fixed.__init__" sFInit fFInit)
    (iFInit : PySem.W.isFn K (.ref fFInit) = true)
    (rCInit : Row K "__init__" "Contact.__init__" sCInit fCInit)
    (iCInit : PySem.W.isFn K (.ref fCInit) = true)
    (rCGather : Row K "gather" "Contact.gather" sCGather fCGather)
    (iCGather : PySem.W.isFn K (.ref fCGather) = true)
    (rTInit : Row K "__init__" "Turned.__init__" sTInit fTInit)
    (iTInit : PySem.W.isFn K (.ref fTInit) = true)
    (rTInner : Row K "inner" "Turned.inner" sTInner fTInner)
    (iTInner : PySem.W.isFn K (.ref fTInner) = true)
    (rGInit : Row K "__init__" "Group.__init__" sGInit fGInit)
    (iGInit : PySem.W.isFn K (.ref fGInit) = true)
    (rGInner : Row K "inner" "Group.inner" sGInner fGInner)
    (iGInner : PySem.W.isFn K (.ref fGInner) = true)
    (rSingle : Row K "single" "single" sSingle fSingle)
    (gSingle : PySem.W.nsIn K mainGlobals "single" = some (some (.ref fSingle)))
    (rJoined : Row K "joined" "joined" sJoined fJoined)
    (gJoined : PySem.W.nsIn K mainGlobals "joined" = some (some (.ref fJoined)))
    (rPartOf : Row K "part_of" "part_of" sPartOf fPartOf)
    (gPartOf : PySem.W.nsIn K mainGlobals "part_of" = some (some (.ref fPartOf)))
    (rSInit : Row K "__init__" "Sheet.__init__" sSInit fSInit)
    (iSInit : PySem.W.isFn K (.ref fSInit) = true)
    (rPlace : Row K "place" "Sheet.place" sPlace fPlace)
    (iPlace : PySem.W.isFn K (.ref fPlace) = true)
    (rMade : Row K "made" "Sheet.made" sMade fMade)
    (iMade : PySem.W.isFn K (.ref fMade) = true)
    (rBelow : Row K "below" "Sheet.below" sBelow fBelow)
    (iBelow : PySem.W.isFn K (.ref fBelow) = true)
    (rSJoined : Row K "joined" "Sheet.joined" sSJoined fSJoined)
    (iSJoined : PySem.W.isFn K (.ref fSJoined) = true)
    (rOpposite : Row K "opposite" "Sheet.opposite" sOpposite fOpposite)
    (iOpposite : PySem.W.isFn K (.ref fOpposite) = true)
    (rDrawn : Row K "drawn" "Sheet.drawn" sDrawn fDrawn)
    (iDrawn : PySem.W.isFn K (.ref fDrawn) = true)
    (rNeed : Row K "need" "Sheet.need" sNeed fNeed)
    (iNeed : PySem.W.isFn K (.ref fNeed) = true)
    (rNode : Row K "node" "Sheet.node" sNode fNode)
    (iNode : PySem.W.isFn K (.ref fNode) = true)
    (rSTurned : Row K "turned" "Sheet.turned" sSTurned fSTurned)
    (iSTurned : PySem.W.isFn K (.ref fSTurned) = true)
    (rShown : Row K "shown" "Sheet.shown" sShown fShown)
    (iShown : PySem.W.isFn K (.ref fShown) = true)
    (rRow : Row K "row" "Sheet.row" sRow fRow)
    (iRow : PySem.W.isFn K (.ref fRow) = true)
    (rCounted : Row K "counted" "Sheet.counted" sCounted fCounted)
    (iCounted : PySem.W.isFn K (.ref fCounted) = true)
    (rWays : Row K "ways" "Sheet.ways" sWays fWays)
    (iWays : PySem.W.isFn K (.ref fWays) = true)
    (rCellAt : Row K "_law_cell_at" "_law_cell_at" sCellAt fCellAt)
    (gCellAt : PySem.W.nsIn K mainGlobals "_law_cell_at" = some (some (.ref fCellAt)))
    (rMixed : Row K "_law_mixed" "_law_mixed" sMixed fMixed)
    (gMixed : PySem.W.nsIn K mainGlobals "_law_mixed" = some (some (.ref fMixed)))
    (rWord : Row K "_law_word" "_law_word" sWord fWord)
    (gWord : PySem.W.nsIn K mainGlobals "_law_word" = some (some (.ref fWord)))
    (rNames : Row K "_law_names" "_law_names" sNames fNames)
    (gNames : PySem.W.nsIn K mainGlobals "_law_names" = some (some (.ref fNames)))
    (rGrown : Row K "_law_grown" "_law_grown" sGrown fGrown)
    (gGrown : PySem.W.nsIn K mainGlobals "_law_grown" = some (some (.ref fGrown)))
    (rToldBy : Row K "_law_told_by" "_law_told_by" sToldBy fToldBy)
    (gToldBy : PySem.W.nsIn K mainGlobals "_law_told_by" = some (some (.ref fToldBy)))
    (rHolds : Row K "_law_holds" "_law_holds" sHolds fHolds)
    (gHolds : PySem.W.nsIn K mainGlobals "_law_holds" = some (some (.ref fHolds)))
    (rLRow : Row K "_law_row" "_law_row" sLRow fLRow)
    (gLRow : PySem.W.nsIn K mainGlobals "_law_row" = some (some (.ref fLRow)))
    (rWhole : Row K "_law_whole" "_law_whole" sWhole fWhole)
    (gWhole : PySem.W.nsIn K mainGlobals "_law_whole" = some (some (.ref fWhole)))
    (rFound : Row K "_law_found" "_law_found" sFound fFound)
    (gFound : PySem.W.nsIn K mainGlobals "_law_found" = some (some (.ref fFound)))
    (rAlike : Row K "_law_alike" "_law_alike" sAlike fAlike)
    (gAlike : PySem.W.nsIn K mainGlobals "_law_alike" = some (some (.ref fAlike)))
    (rLaw : Row K "law" "law" sLaw fLaw)
    (gLaw : PySem.W.nsIn K mainGlobals "law" = some (some (.ref fLaw)))
    (m_size_fx : PySem.W.findIn K (.ref c_fx_) "size" = some (some (.ref fSize)))
    (m_size_ct : PySem.W.findIn K (.ref c_ct_) "size" = some (some (.ref fSize)))
    (m_size_nt : PySem.W.findIn K (.ref c_nt_) "size" = some (some (.ref fSize)))
    (m_size_se : PySem.W.findIn K (.ref c_se_) "size" = some (some (.ref fSize)))
    (m_size_br : PySem.W.findIn K (.ref c_br_) "size" = some (some (.ref fSize)))
    (m_depth_fx : PySem.W.findIn K (.ref c_fx_) "depth" = some (some (.ref fDepth)))
    (m_depth_ct : PySem.W.findIn K (.ref c_ct_) "depth" = some (some (.ref fDepth)))
    (m_depth_nt : PySem.W.findIn K (.ref c_nt_) "depth" = some (some (.ref fDepth)))
    (m_depth_se : PySem.W.findIn K (.ref c_se_) "depth" = some (some (.ref fDepth)))
    (m_depth_br : PySem.W.findIn K (.ref c_br_) "depth" = some (some (.ref fDepth)))
    (m_contacts_fx : PySem.W.findIn K (.ref c_fx_) "contacts" = some (some (.ref fContacts)))
    (m_contacts_ct : PySem.W.findIn K (.ref c_ct_) "contacts" = some (some (.ref fContacts)))
    (m_contacts_nt : PySem.W.findIn K (.ref c_nt_) "contacts" = some (some (.ref fContacts)))
    (m_contacts_se : PySem.W.findIn K (.ref c_se_) "contacts" = some (some (.ref fContacts)))
    (m_contacts_br : PySem.W.findIn K (.ref c_br_) "contacts" = some (some (.ref fContacts)))
    (m_bounded_fx : PySem.W.findIn K (.ref c_fx_) "bounded" = some (some (.ref fBounded)))
    (m_bounded_ct : PySem.W.findIn K (.ref c_ct_) "bounded" = some (some (.ref fBounded)))
    (m_bounded_nt : PySem.W.findIn K (.ref c_nt_) "bounded" = some (some (.ref fBounded)))
    (m_bounded_se : PySem.W.findIn K (.ref c_se_) "bounded" = some (some (.ref fBounded)))
    (m_bounded_br : PySem.W.findIn K (.ref c_br_) "bounded" = some (some (.ref fBounded)))
    (m_inner_fx : PySem.W.findIn K (.ref c_fx_) "inner" = some (some (.ref fPInner)))
    (m_inner_ct : PySem.W.findIn K (.ref c_ct_) "inner" = some (some (.ref fPInner)))
    (m_inner_nt : PySem.W.findIn K (.ref c_nt_) "inner" = some (some (.ref fTInner)))
    (m_inner_se : PySem.W.findIn K (.ref c_se_) "inner" = some (some (.ref fGInner)))
    (m_inner_br : PySem.W.findIn K (.ref c_br_) "inner" = some (some (.ref fGInner)))
    (m_gather_fx : PySem.W.findIn K (.ref c_fx_) "gather" = some (some (.ref fPGather)))
    (m_gather_ct : PySem.W.findIn K (.ref c_ct_) "gather" = some (some (.ref fCGather)))
    (m_gather_nt : PySem.W.findIn K (.ref c_nt_) "gather" = some (some (.ref fPGather)))
    (m_gather_se : PySem.W.findIn K (.ref c_se_) "gather" = some (some (.ref fPGather)))
    (m_gather_br : PySem.W.findIn K (.ref c_br_) "gather" = some (some (.ref fPGather)))
    (m_init_fx : PySem.W.findIn K (.ref c_fx_) "__init__" = some (some (.ref fFInit)))
    (m_init_ct : PySem.W.findIn K (.ref c_ct_) "__init__" = some (some (.ref fCInit)))
    (m_init_nt : PySem.W.findIn K (.ref c_nt_) "__init__" = some (some (.ref fTInit)))
    (m_init_se : PySem.W.findIn K (.ref c_se_) "__init__" = some (some (.ref fGInit)))
    (m_init_br : PySem.W.findIn K (.ref c_br_) "__init__" = some (some (.ref fGInit)))
    (m_init_sh : PySem.W.findIn K (.ref c_sh_) "__init__" = some (some (.ref fSInit)))
    (m_place_sh : PySem.W.findIn K (.ref c_sh_) "place" = some (some (.ref fPlace)))
    (m_made_sh : PySem.W.findIn K (.ref c_sh_) "made" = some (some (.ref fMade)))
    (m_below_sh : PySem.W.findIn K (.ref c_sh_) "below" = some (some (.ref fBelow)))
    (m_joined_sh : PySem.W.findIn K (.ref c_sh_) "joined" = some (some (.ref fSJoined)))
    (m_opposite_sh : PySem.W.findIn K (.ref c_sh_) "opposite" = some (some (.ref fOpposite)))
    (m_drawn_sh : PySem.W.findIn K (.ref c_sh_) "drawn" = some (some (.ref fDrawn)))
    (m_need_sh : PySem.W.findIn K (.ref c_sh_) "need" = some (some (.ref fNeed)))
    (m_node_sh : PySem.W.findIn K (.ref c_sh_) "node" = some (some (.ref fNode)))
    (m_turned_sh : PySem.W.findIn K (.ref c_sh_) "turned" = some (some (.ref fSTurned)))
    (m_shown_sh : PySem.W.findIn K (.ref c_sh_) "shown" = some (some (.ref fShown)))
    (m_row_sh : PySem.W.findIn K (.ref c_sh_) "row" = some (some (.ref fRow)))
    (m_counted_sh : PySem.W.findIn K (.ref c_sh_) "counted" = some (some (.ref fCounted)))
    (m_ways_sh : PySem.W.findIn K (.ref c_sh_) "ways" = some (some (.ref fWays)))
    (c_fx : PySem.W.nsIn K mainGlobals "Fixed" = some (some (.ref c_fx_)))
    (pg_fx : PySem.W.plainGet K c_fx_ Str.empty = true)
    (hd_fx : PySem.W.hasDictIn K c_fx_ = true)
    (po_fx : PySem.W.plainOver K c_fx_ = true)
    (sa_fx : PySem.W.findIn K (.ref c_fx_) "__setattr__" = some (some (.builtin "object.__setattr__")))
    (mk_fx : PySem.W.makesIn K c_fx_ = true)
    (kc_fx : PySem.W.keepIn K (.ref c_fx_) = true)
    (n_value_fx : PySem.W.findIn K (.ref c_fx_) "value" = some none)
    (c_ct : PySem.W.nsIn K mainGlobals "Contact" = some (some (.ref c_ct_)))
    (pg_ct : PySem.W.plainGet K c_ct_ Str.empty = true)
    (hd_ct : PySem.W.hasDictIn K c_ct_ = true)
    (po_ct : PySem.W.plainOver K c_ct_ = true)
    (sa_ct : PySem.W.findIn K (.ref c_ct_) "__setattr__" = some (some (.builtin "object.__setattr__")))
    (mk_ct : PySem.W.makesIn K c_ct_ = true)
    (kc_ct : PySem.W.keepIn K (.ref c_ct_) = true)
    (n_name_ct : PySem.W.findIn K (.ref c_ct_) "name" = some none)
    (c_nt : PySem.W.nsIn K mainGlobals "Turned" = some (some (.ref c_nt_)))
    (pg_nt : PySem.W.plainGet K c_nt_ Str.empty = true)
    (hd_nt : PySem.W.hasDictIn K c_nt_ = true)
    (po_nt : PySem.W.plainOver K c_nt_ = true)
    (sa_nt : PySem.W.findIn K (.ref c_nt_) "__setattr__" = some (some (.builtin "object.__setattr__")))
    (mk_nt : PySem.W.makesIn K c_nt_ = true)
    (kc_nt : PySem.W.keepIn K (.ref c_nt_) = true)
    (n_part_nt : PySem.W.findIn K (.ref c_nt_) "part" = some none)
    (c_se : PySem.W.nsIn K mainGlobals "Series" = some (some (.ref c_se_)))
    (pg_se : PySem.W.plainGet K c_se_ Str.empty = true)
    (hd_se : PySem.W.hasDictIn K c_se_ = true)
    (po_se : PySem.W.plainOver K c_se_ = true)
    (sa_se : PySem.W.findIn K (.ref c_se_) "__setattr__" = some (some (.builtin "object.__setattr__")))
    (mk_se : PySem.W.makesIn K c_se_ = true)
    (kc_se : PySem.W.keepIn K (.ref c_se_) = true)
    (n_parts_se : PySem.W.findIn K (.ref c_se_) "parts" = some none)
    (c_br : PySem.W.nsIn K mainGlobals "Branch" = some (some (.ref c_br_)))
    (pg_br : PySem.W.plainGet K c_br_ Str.empty = true)
    (hd_br : PySem.W.hasDictIn K c_br_ = true)
    (po_br : PySem.W.plainOver K c_br_ = true)
    (sa_br : PySem.W.findIn K (.ref c_br_) "__setattr__" = some (some (.builtin "object.__setattr__")))
    (mk_br : PySem.W.makesIn K c_br_ = true)
    (kc_br : PySem.W.keepIn K (.ref c_br_) = true)
    (n_parts_br : PySem.W.findIn K (.ref c_br_) "parts" = some none)
    (c_sh : PySem.W.nsIn K mainGlobals "Sheet" = some (some (.ref c_sh_)))
    (pg_sh : PySem.W.plainGet K c_sh_ Str.empty = true)
    (hd_sh : PySem.W.hasDictIn K c_sh_ = true)
    (po_sh : PySem.W.plainOver K c_sh_ = true)
    (sa_sh : PySem.W.findIn K (.ref c_sh_) "__setattr__" = some (some (.builtin "object.__setattr__")))
    (mk_sh : PySem.W.makesIn K c_sh_ = true)
    (kc_sh : PySem.W.keepIn K (.ref c_sh_) = true)
    (n_names_sh : PySem.W.findIn K (.ref c_sh_) "names" = some none)
    (n_nodes_sh : PySem.W.findIn K (.ref c_sh_) "nodes" = some none)
    (n_numbers_sh : PySem.W.findIn K (.ref c_sh_) "numbers" = some none)
    (xa_fx : PySem.W.findIn K (.ref c_fx_) "__class__" = some (some (.builtin "object.__class__")))
    (xm_fx : PySem.W.mroIn K c_fx_ (.type "object") = some true)
    (xa_ct : PySem.W.findIn K (.ref c_ct_) "__class__" = some (some (.builtin "object.__class__")))
    (xm_ct : PySem.W.mroIn K c_ct_ (.type "object") = some true)
    (xa_nt : PySem.W.findIn K (.ref c_nt_) "__class__" = some (some (.builtin "object.__class__")))
    (xm_nt : PySem.W.mroIn K c_nt_ (.type "object") = some true)
    (xa_se : PySem.W.findIn K (.ref c_se_) "__class__" = some (some (.builtin "object.__class__")))
    (xm_se : PySem.W.mroIn K c_se_ (.type "object") = some true)
    (xa_br : PySem.W.findIn K (.ref c_br_) "__class__" = some (some (.builtin "object.__class__")))
    (xm_br : PySem.W.mroIn K c_br_ (.type "object") = some true)
    (xn : PySem.W.specialIn K (.builtin "object.__class__") "__get__" = some (some (.builtin "getset_descriptor.__get__")))
    (xt : PySem.W.takesIn K (.builtin "object.__class__") = some true)
    (s_ct_fx : PySem.W.subIn K (.ref c_ct_) (.ref c_fx_) = some false)
    (d_ct_fx : (c_ct_ == c_fx_) = false)
    (s_nt_fx : PySem.W.subIn K (.ref c_nt_) (.ref c_fx_) = some false)
    (d_nt_fx : (c_nt_ == c_fx_) = false)
    (s_nt_ct : PySem.W.subIn K (.ref c_nt_) (.ref c_ct_) = some false)
    (d_nt_ct : (c_nt_ == c_ct_) = false)
    (s_se_fx : PySem.W.subIn K (.ref c_se_) (.ref c_fx_) = some false)
    (d_se_fx : (c_se_ == c_fx_) = false)
    (s_se_ct : PySem.W.subIn K (.ref c_se_) (.ref c_ct_) = some false)
    (d_se_ct : (c_se_ == c_ct_) = false)
    (s_se_nt : PySem.W.subIn K (.ref c_se_) (.ref c_nt_) = some false)
    (d_se_nt : (c_se_ == c_nt_) = false)
    (s_br_fx : PySem.W.subIn K (.ref c_br_) (.ref c_fx_) = some false)
    (d_br_fx : (c_br_ == c_fx_) = false)
    (s_br_ct : PySem.W.subIn K (.ref c_br_) (.ref c_ct_) = some false)
    (d_br_ct : (c_br_ == c_ct_) = false)
    (s_br_nt : PySem.W.subIn K (.ref c_br_) (.ref c_nt_) = some false)
    (d_br_nt : (c_br_ == c_nt_) = false)
    (s_br_se : PySem.W.subIn K (.ref c_br_) (.ref c_se_) = some false)
    (d_br_se : (c_br_ == c_se_) = false)
    (t_fx : PySem.W.typeIn K (.ref c_fx_) = some (.type "type"))
    (y_fx : (PySem.W.clsIn K c_fx_).isSome = true)
    (t_ct : PySem.W.typeIn K (.ref c_ct_) = some (.type "type"))
    (y_ct : (PySem.W.clsIn K c_ct_).isSome = true)
    (t_nt : PySem.W.typeIn K (.ref c_nt_) = some (.type "type"))
    (y_nt : (PySem.W.clsIn K c_nt_).isSome = true)
    (t_se : PySem.W.typeIn K (.ref c_se_) = some (.type "type"))
    (y_se : (PySem.W.clsIn K c_se_).isSome = true)
    (z_len : PySem.W.nsIn K mainGlobals "len" = some none)
    (z_sum : PySem.W.nsIn K mainGlobals "sum" = some none)
    (z_max : PySem.W.nsIn K mainGlobals "max" = some none)
    (z_min : PySem.W.nsIn K mainGlobals "min" = some none)
    (z_isinstance : PySem.W.nsIn K mainGlobals "isinstance" = some none)
    (z_int : PySem.W.nsIn K mainGlobals "int" = some none)
    (z_set : PySem.W.nsIn K mainGlobals "set" = some none)
    (z_tuple : PySem.W.nsIn K mainGlobals "tuple" = some none)
    (z_list : PySem.W.nsIn K mainGlobals "list" = some none)
    (z_range : PySem.W.nsIn K mainGlobals "range" = some none)
    (z_bool : PySem.W.nsIn K mainGlobals "bool" = some none)
    (z_dict : PySem.W.nsIn K mainGlobals "dict" = some none)
    (vSIGNS : ∃ t, PySem.W.nsIn K mainGlobals "SIGNS" = some (some (.str "abcdefghijklmnopqrstuvwxyz" t)))
    (vMOST_SIGNS : ∃ t, PySem.W.nsIn K mainGlobals "MOST_SIGNS" = some (some (.int 8 t)))
    (vMOST_SIZE : ∃ t, PySem.W.nsIn K mainGlobals "MOST_SIZE" = some (some (.int 60 t)))
    (vMOST_DEEP : ∃ t, PySem.W.nsIn K mainGlobals "MOST_DEEP" = some (some (.int 20 t)))
    (vMOST_NAMES : ∃ t, PySem.W.nsIn K mainGlobals "MOST_NAMES" = some (some (.int 60 t)))
    (vMOST_NODES : ∃ t, PySem.W.nsIn K mainGlobals "MOST_NODES" = some (some (.int 2000 t)))
    (vTooMany : ∃ p, PySem.W.nsIn K mainGlobals "TooMany" = some (some (.ref p)))
    (vKEPT : ∃ p, PySem.W.nsIn K mainGlobals "KEPT" = some (some (.ref p)) ∧ ∃ od t1 t2 t3 t4 t5 t6 t7 t8 t9 t10 t11 n sl, K.lookup p = some ⟨.type "tuple", od, .seq #[.str "on" t1, .str "off" t2, .str "and" t3, .str "or" t4, .str "not" t5, .str "set" t6, .str "reset" t7, .str "timer" t8, .str "counter" t9, .str "inputs" t10, .str "outputs" t11] n, sl⟩)
    : Left K ⟨c_fx_, c_ct_, c_nt_, c_se_, c_br_, c_sh_⟩ ⟨fIsWord, fIsName, fPInner, fSize, fDepth, fPGather, fContacts, fBounded, fFInit, fCInit, fCGather, fTInit, fTInner, fGInit, fGInner, fSingle, fJoined, fPartOf, fSInit, fPlace, fMade, fBelow, fSJoined, fOpposite, fDrawn, fNeed, fNode, fSTurned, fShown, fRow, fCounted, fWays, fCellAt, fMixed, fWord, fNames, fGrown, fToldBy, fHolds, fLRow, fWhole, fFound, fAlike, fLaw⟩ :=
  ⟨rIsWord, gIsWord, rIsName, gIsName, rPInner, iPInner, rSize, iSize, rDepth, iDepth, rPGather, iPGather, rContacts, iContacts, rBounded, iBounded, rFInit, iFInit, rCInit, iCInit, rCGather, iCGather, rTInit, iTInit, rTInner, iTInner, rGInit, iGInit, rGInner, iGInner, rSingle, gSingle, rJoined, gJoined, rPartOf, gPartOf, rSInit, iSInit, rPlace, iPlace, rMade, iMade, rBelow, iBelow, rSJoined, iSJoined, rOpposite, iOpposite, rDrawn, iDrawn, rNeed, iNeed, rNode, iNode, rSTurned, iSTurned, rShown, iShown, rRow, iRow, rCounted, iCounted, rWays, iWays, rCellAt, gCellAt, rMixed, gMixed, rWord, gWord, rNames, gNames, rGrown, gGrown, rToldBy, gToldBy, rHolds, gHolds, rLRow, gLRow, rWhole, gWhole, rFound, gFound, rAlike, gAlike, rLaw, gLaw, m_size_fx, m_size_ct, m_size_nt, m_size_se, m_size_br, m_depth_fx, m_depth_ct, m_depth_nt, m_depth_se, m_depth_br, m_contacts_fx, m_contacts_ct, m_contacts_nt, m_contacts_se, m_contacts_br, m_bounded_fx, m_bounded_ct, m_bounded_nt, m_bounded_se, m_bounded_br, m_inner_fx, m_inner_ct, m_inner_nt, m_inner_se, m_inner_br, m_gather_fx, m_gather_ct, m_gather_nt, m_gather_se, m_gather_br, m_init_fx, m_init_ct, m_init_nt, m_init_se, m_init_br, m_init_sh, m_place_sh, m_made_sh, m_below_sh, m_joined_sh, m_opposite_sh, m_drawn_sh, m_need_sh, m_node_sh, m_turned_sh, m_shown_sh, m_row_sh, m_counted_sh, m_ways_sh, c_fx, pg_fx, hd_fx, po_fx, sa_fx, mk_fx, kc_fx, n_value_fx, c_ct, pg_ct, hd_ct, po_ct, sa_ct, mk_ct, kc_ct, n_name_ct, c_nt, pg_nt, hd_nt, po_nt, sa_nt, mk_nt, kc_nt, n_part_nt, c_se, pg_se, hd_se, po_se, sa_se, mk_se, kc_se, n_parts_se, c_br, pg_br, hd_br, po_br, sa_br, mk_br, kc_br, n_parts_br, c_sh, pg_sh, hd_sh, po_sh, sa_sh, mk_sh, kc_sh, n_names_sh, n_nodes_sh, n_numbers_sh, xa_fx, xm_fx, xa_ct, xm_ct, xa_nt, xm_nt, xa_se, xm_se, xa_br, xm_br, xn, xt, s_ct_fx, d_ct_fx, s_nt_fx, d_nt_fx, s_nt_ct, d_nt_ct, s_se_fx, d_se_fx, s_se_ct, d_se_ct, s_se_nt, d_se_nt, s_br_fx, d_br_fx, s_br_ct, d_br_ct, s_br_nt, d_br_nt, s_br_se, d_br_se, t_fx, y_fx, t_ct, y_ct, t_nt, y_nt, t_se, y_se, z_len, z_sum, z_max, z_min, z_isinstance, z_int, z_set, z_tuple, z_list, z_range, z_bool, z_dict, vSIGNS, vMOST_SIGNS, vMOST_SIZE, vMOST_DEEP, vMOST_NAMES, vMOST_NODES, vTooMany, vKEPT⟩
/-- the facts, as the walks want them -/
structure G (K : PySem.W.Frag) (mg : Str → Option Value) (a : Ad) (fs : Fs) : Prop extends Left K a fs where
  gl : ∀ x v, PySem.W.nsIn K mainGlobals x = some (some v) → mg x = some v
  no : ∀ x, PySem.W.nsIn K mainGlobals x = some none → mg x = none
section
variable {P : Program} {w : World} {K : PySem.W.Frag} {mg : Str → Option Value} {base : Heap}
/-- a def by its body -/
theorem ok_of {x qual : Str} {st : Stmt} {f : Addr} {N ps : List Str} {k : Nat} {sp : Sp} (R : Row K x qual st f) (S : FnScope N ps (defScope st))
    (hb : ∀ (kV doc pm : Value) (an : Option Addr) (cdv ct : Value) (us : List Value), us.length = ps.length → bindArgs (PySem.W.fnOf x qual (defArgs st) (defBody st) (defScope st) .none kV doc pm an cdv ct) ⟨us, []⟩ = pure (ps.zip us))
    (len : ∀ vs H Q E, sp vs H Q E → vs.length = ps.length)
    (body : ∀ (cdv : Value) (A : Around) (outer : List Env) (s : Shared) (H : Hp) (vs : List V) (Q : VK) (E : XK), Room k (A.deeper (envOfC qual (defScope st) s.heap.objs.size f cdv)) → sp vs H Q E →
      ∃ t, PSs (cxOf L2.CX0 P w K mg base N qual (defScope st) f cdv A outer s H E).nox (defBody st) t ∧ t { nx := fun _ H' => Q .non H', rt := Q } (start N vs) H) : CalAt P w K mg base (k + 1) f sp := by
  obtain ⟨oc, od, kV, doc, pm, an, cdv, ct, osl, lk, hcd⟩ := R.ex
  have F := fun_mk (st := st) lk hcd R.kp
  exact ⟨_, ps, F.ok S len body, R.kp, F.binds hb⟩
theorem CalAt.up {f : Addr} {sp : Sp} {j k : Nat} (c : CalAt P w K mg base j f sp) (h : j ≤ k) : CalAt P w K mg base k f sp := by
  obtain ⟨fd, ps, F, kp, b⟩ := c.ex
  exact ⟨fd, ps, F.mono h, kp, b⟩
theorem CalAt.imp {f : Addr} {sp sp' : Sp} {k : Nat} (c : CalAt P w K mg base k f sp) (h : ∀ vs H Q E, sp' vs H Q E → sp vs H Q E) : CalAt P w K mg base k f sp' := by
  obtain ⟨fd, ps, F, kp, b⟩ := c.ex
  exact ⟨fd, ps, F.imp h, kp, b⟩
theorem cal_of {f : Addr} {sp : Sp} {k : Nat} {x : Str} (c : CalAt P w K mg base k f sp) (m : mg x = some (.ref f)) : Cal P w K mg base k x sp [] := by
  obtain ⟨fd, ps, F, kp, b⟩ := c.ex
  exact ⟨f, fd, ps, [], F, m, kp, b, .nil⟩
theorem met_of {f C : Addr} {sp : Sp} {k : Nat} {m : Str} (c : CalAt P w K mg base k f sp) (cl : Cls K C) (at_ : PySem.W.findIn K (.ref C) m = some (some (.ref f))) (fn : PySem.W.isFn K (.ref f) = true) : Met P w K mg base k C m sp [] := by
  obtain ⟨fd, ps, F, kp, b⟩ := c.ex
  exact ⟨f, fd, ps, [], cl, ⟨at_, fn, kp⟩, F, b, .nil⟩
theorem mak_of {f C : Addr} {sp : Sp} {k : Nat} {x : Str} (c : CalAt P w K mg base k f sp) (mk : PySem.W.makesIn K C = true) (at_ : PySem.W.findIn K (.ref C) "__init__" = some (some (.ref f))) (fn : PySem.W.isFn K (.ref f) = true) (kc : PySem.W.keepIn K (.ref C) = true) (m : mg x = some (.ref C)) :
    Mak P w K mg base k x C sp [] := by
  obtain ⟨fd, ps, F, kp, b⟩ := c.ex
  exact ⟨f, fd, ps, [], ⟨mk, at_, fn, kc⟩, F, m, b, .nil⟩
end
section
variable {K : PySem.W.Frag} {mg : Str → Option Value} {a : Ad} {fs : Fs}
theorem G.cl (g : G K mg a fs) : ∀ k, Cls K (a.at_ k)
  | .fx => ⟨g.pg_fx, g.hd_fx, g.po_fx, g.sa_fx⟩
  | .ct => ⟨g.pg_ct, g.hd_ct, g.po_ct, g.sa_ct⟩
  | .nt => ⟨g.pg_nt, g.hd_nt, g.po_nt, g.sa_nt⟩
  | .se => ⟨g.pg_se, g.hd_se, g.po_se, g.sa_se⟩
  | .br => ⟨g.pg_br, g.hd_br, g.po_br, g.sa_br⟩
theorem G.clS (g : G K mg a fs) : Cls K a.sh := ⟨g.pg_sh, g.hd_sh, g.po_sh, g.sa_sh⟩
/-- isinstance(p, C) of an instance of D -/
theorem kit_of_sub {C D : Addr} {b : Bool} (y : (PySem.W.clsIn K C).isSome = true) (t : PySem.W.typeIn K (.ref C) = some (.type "type")) (s : PySem.W.subIn K (.ref D) (.ref C) = some b) (d : (D == C) = false) : PySem.W.kitOne K (.ref D) (.ref C) = some b := by
  have h0 : D ≠ C := beq_eq_false_iff_ne.mp d
  have h1 : ((Value.ref D) == Value.ref C) = false := beq_eq_false_iff_ne.mpr fun z => h0 (Value.ref.inj z)
  have h2 : ((PySem.W.clsIn K C).isSome && PySem.W.typeIn K (.ref C) == some (.type "type")) = true := by rw [y, t]; decide
  unfold PySem.W.kitOne PySem.W.kitCls
  rw [h1, if_neg (by decide)]
  show (if ((PySem.W.clsIn K C).isSome && PySem.W.typeIn K (.ref C) == some (.type "type")) = true then _ else _) = _
  rw [if_pos h2, s]
theorem kit_self {C : Addr} : PySem.W.kitOne K (.ref C) (.ref C) = some true := by
  unfold PySem.W.kitOne
  rw [if_pos (by simp)]
theorem G.ty (g : G K mg a fs) {H : Hp} {p dx : Addr} {fs' : List (Str × V)} : ∀ {k : Kd}, H p = some (.ins (a.at_ k) dx fs') → TyX K H (.ref p) (.ref (a.at_ k))
  | .fx, e => .base (.ins e (g.cl .fx) g.xa_fx g.xn g.xt g.xm_fx)
  | .ct, e => .base (.ins e (g.cl .ct) g.xa_ct g.xn g.xt g.xm_ct)
  | .nt, e => .base (.ins e (g.cl .nt) g.xa_nt g.xn g.xt g.xm_nt)
  | .se, e => .base (.ins e (g.cl .se) g.xa_se g.xn g.xt g.xm_se)
  | .br, e => .base (.ins e (g.cl .br) g.xa_br g.xn g.xt g.xm_br)
def Kd.isFx : Kd → Bool
  | .fx => true
  | _ => false
def Kd.isCt : Kd → Bool
  | .ct => true
  | _ => false
def Kd.isNt : Kd → Bool
  | .nt => true
  | _ => false
def Kd.isSe : Kd → Bool
  | .se => true
  | _ => false
theorem G.isFx (g : G K mg a fs) : ∀ k : Kd, PySem.W.kitOne K (.ref (a.at_ k)) (.ref a.fx) = some k.isFx
  | .fx => kit_self
  | .ct => kit_of_sub g.y_fx g.t_fx g.s_ct_fx g.d_ct_fx
  | .nt => kit_of_sub g.y_fx g.t_fx g.s_nt_fx g.d_nt_fx
  | .se => kit_of_sub g.y_fx g.t_fx g.s_se_fx g.d_se_fx
  | .br => kit_of_sub g.y_fx g.t_fx g.s_br_fx g.d_br_fx
theorem G.isCt (g : G K mg a fs) : ∀ k : Kd, k ≠ .fx → PySem.W.kitOne K (.ref (a.at_ k)) (.ref a.ct) = some k.isCt
  | .fx, h => absurd rfl h
  | .ct, _ => kit_self
  | .nt, _ => kit_of_sub g.y_ct g.t_ct g.s_nt_ct g.d_nt_ct
  | .se, _ => kit_of_sub g.y_ct g.t_ct g.s_se_ct g.d_se_ct
  | .br, _ => kit_of_sub g.y_ct g.t_ct g.s_br_ct g.d_br_ct
theorem G.isNt (g : G K mg a fs) : ∀ k : Kd, k ≠ .fx → k ≠ .ct → PySem.W.kitOne K (.ref (a.at_ k)) (.ref a.nt) = some k.isNt
  | .fx, h, _ => absurd rfl h
  | .ct, _, h => absurd rfl h
  | .nt, _, _ => kit_self
  | .se, _, _ => kit_of_sub g.y_nt g.t_nt g.s_se_nt g.d_se_nt
  | .br, _, _ => kit_of_sub g.y_nt g.t_nt g.s_br_nt g.d_br_nt
theorem G.isSe (g : G K mg a fs) : ∀ k : Bool, PySem.W.kitOne K (.ref (a.at_ (gk k))) (.ref a.se) = some k
  | true => kit_self
  | false => kit_of_sub g.y_se g.t_se g.s_br_se g.d_br_se
end
end K34
set_option Elab.async false
set_option linter.all false
set_option maxRecDepth 100000
set_option maxHeartbeats 4000000
/-! Sheets: place, made, below. -/
namespace K34
open PySem PySem.Spec PyProof.Rows L2 C8
/-- a node from 2 on, as it stands -/
theorem SheetAt.get {a : Ad} {nm : List Str} {L : Sl} {H : Hp} {ns : List Nd} {k : Nat} {t : DT} (S : SheetAt a nm L H ns) (d : Den ns k t) (h2 : 2 ≤ k) :
    ∃ as p l h tl th aT, H L.ln = some (.lst (as.map V.ref)) ∧ NodesAt H as ns ∧ atI (as.map V.ref) ((k : Int) - 2) = some (.ref aT) ∧ H aT = some (.tup (ndV (p, l, h))) ∧ t = .br p tl th ∧ Den ns l tl ∧ Den ns h th := by
  obtain ⟨as, e, N⟩ := S.ln
  obtain ⟨p, l, h, tl, th, en, et, d1, d2⟩ := d.big h2
  have hk : k - 2 < as.length := by rw [N.len]; exact (List.getElem?_eq_some_iff.mp en).1
  have ea : as[k - 2]? = some as[k - 2] := List.getElem?_eq_getElem hk
  refine ⟨as, p, l, h, tl, th, as[k - 2], e, N, at_of (j := k - 2) (by omega) (by rw [List.getElem?_map, ea]; rfl), N.at_ _ _ _ ea en, et, d1, d2⟩

def spPlace (a : Ad) (nm : List Str) : Sp := fun vs H Q _ => ∃ (L : Sl) (ns : List Nd) (k : Nat) (t : DT), vs = [.ref L.p, .int k] ∧ SheetAt a nm L H ns ∧ Den ns k t ∧ Q (.int (plc nm.length t)) H
def spMade (a : Ad) (nm : List Str) : Sp := fun vs H Q _ => ∃ (L : Sl) (ns : List Nd) (p l h : Nat) (tl th : DT), vs = [.ref L.p, .int p, .int l, .int h] ∧ SheetAt a nm L H ns ∧ Den ns l tl ∧ Den ns h th ∧ p < nm.length ∧ p < plc nm.length tl ∧ p < plc nm.length th ∧
  ns.length < 2000 ∧ ∀ (ns' : List Nd) (k : Nat) (t : DT) (H' : Hp), SheetAt a nm L H' ns' → ns <+: ns' → ns'.length ≤ ns.length + 1 → Den ns' k t → p ≤ plc nm.length t → (∀ e, dev e t = if e p then dev e th else dev e tl) → But [L.ln, L.dn] H H' → Q (.int k) H'
def spBelow (a : Ad) (nm : List Str) : Sp := fun vs H Q _ => ∃ (L : Sl) (ns : List Nd) (k p : Nat) (t : DT), vs = [.ref L.p, .int k, .int p] ∧ SheetAt a nm L H ns ∧ Den ns k t ∧ p ≤ plc nm.length t ∧ p < nm.length ∧
  ∀ (q : Addr) (kl kh : Nat) (H' : Hp), Same H H' → H' q = some (.tup [.int kl, .int kh]) → Den ns kl (lo nm.length p t) → Den ns kh (hi nm.length p t) → Q (.ref q) H'
section
variable {P : Program} {w : World} {K : PySem.W.Frag} {mg : Str → Option Value} {base : Heap} {a : Ad} {fs : Fs} {nm : List Str}
theorem ok_place (g : G K mg a fs) : CalAt P w K mg base 1 fs.fPlace (spPlace a nm) := by
  refine ok_of g.rPlace scPlace (fun _ _ _ _ _ _ us hl => match us, hl with | [_, _], _ => rfl) (fun vs H Q E h => ?_) (fun cdv A outer s H vs Q E hr h => ?_)
  · obtain ⟨L, ns, k, t, rfl, _⟩ := h
    rfl
  · obtain ⟨L, ns, k, t, rfl, S, d, q⟩ := h
    refine ⟨_, pss_cons (ps_if (pt_cmpR op_lt (pv 1) pe_int (nomark _)) (pss_one (ps_ret (pe_callB call_len_seq (by rfl) (g.no _ g.z_len) PySem.boot_len (pa_cons (pe_fld (pv 0) rfl) pa_nil)))) pss_nil)
      (pss_one (ps_ret (pe_ix ix_tup (pe_ix ix_list (pe_fld (pv 0) rfl) (pe_op op_sub (pv 1) pe_int) (fun _ _ => rfl)) pe_int (fun _ _ => rfl)))), ?_⟩
    refine ⟨_, rfl, _, _, rfl, rfl, _, rfl, ?_⟩
    refine ite2 (fun c => ?_) (fun c => ?_)
    · have c' : (k : Int) < 2 := of_decide_eq_true c
      have e := d.small (by omega)
      subst e
      refine ⟨_, rfl, L.p, a.sh, L.dx, _, _, rfl, S.ob, g.clS, g.n_names_sh, rfl, L.tn, _, rfl, .inr (S.tn.sq), ?_⟩
      rw [List.length_map]
      exact q
    · have c' : ¬ (k : Int) < 2 := fun z => c (decide_eq_true z)
      obtain ⟨as, p, l, h, tl, th, aT, e1, N, e2, e3, rfl, d1, d2⟩ := S.get d (by omega)
      exact ⟨_, rfl, L.p, a.sh, L.dx, _, _, rfl, S.ob, g.clS, g.n_nodes_sh, rfl, _, rfl, _, _, rfl, rfl, L.ln, _, _, _, rfl, rfl, SqL.of e1, e2, aT, _, _, _, rfl, rfl, SqT.of e3, atI_nat (j := 0) rfl, q⟩
theorem ok_below (g : G K mg a fs) : CalAt P w K mg base 2 fs.fBelow (spBelow a nm) := by
  have CP : Met P w K mg base 1 a.sh "place" (spPlace a nm) [] := met_of (ok_place g) g.clS g.m_place_sh g.iPlace
  refine ok_of g.rBelow scBelow (fun _ _ _ _ _ _ us hl => match us, hl with | [_, _, _], _ => rfl) (fun vs H Q E h => ?_) (fun cdv A outer s H vs Q E hr h => ?_)
  · obtain ⟨L, ns, k, p, t, rfl, _⟩ := h
    rfl
  · obtain ⟨L, ns, k, p, t, rfl, S, d, hp, hn, q⟩ := h
    refine ⟨_, pss_cons (ps_if (pt_cmpR op_gt (pe_mt CP hr (Nat.le_refl _) (pv 0) (pa_cons (pv 1) pa_nil)) (pv 2) (nomark _)) (pss_one (ps_ret (pe_tup (pa_cons (pv 1) (pa_cons (pv 1) pa_nil))))) pss_nil)
      (pss_one (ps_ret (pe_slice sl_tup (pe_ix ix_list (pe_fld (pv 0) rfl) (pe_op op_sub (pv 1) pe_int) (fun _ _ => rfl)) (po_some pe_int) po_none))), ?_⟩
    refine ⟨_, rfl, L.p, L.dx, _, rfl, S.ob, rfl, _, rfl, L, ns, k, t, rfl, S, d, ?_⟩
    refine ⟨_, rfl, _, _, rfl, rfl, _, rfl, ?_⟩
    refine ite2 (fun c => ?_) (fun c => ?_)
    · have c' : (p : Int) < (plc nm.length t : Int) := of_decide_eq_true c
      have c2 : p < plc nm.length t := by omega
      have el : lo nm.length p t = t := by simp [lo, c2]
      have eh : hi nm.length p t = t := by simp [hi, c2]
      refine ⟨_, rfl, _, rfl, (by show 2 ≤ sizeLine; decide), fun r hr' => ?_⟩
      exact q r k k _ (Same.new _ hr') upd_same (by rw [el]; exact d) (by rw [eh]; exact d)
    · have c' : ¬ (p : Int) < (plc nm.length t : Int) := fun z => c (decide_eq_true z)
      have h2 : 2 ≤ k := by
        refine Nat.le_of_not_lt fun z => ?_
        have e := d.small z
        subst e
        exact c' (by show (p : Int) < (nm.length : Int); omega)
      obtain ⟨as, p', l, h, tl, th, aT, e1, N, e2, e3, rfl, d1, d2⟩ := S.get d h2
      have ep : p' = p := by
        have h3 : p ≤ p' := hp
        have h4 : ¬ (p : Int) < (p' : Int) := c'
        omega
      subst ep
      have el : lo nm.length p' (.br p' tl th) = tl := by simp [lo, plc]
      have eh : hi nm.length p' (.br p' tl th) = th := by simp [hi, plc]
      refine ⟨_, rfl, L.p, a.sh, L.dx, _, _, rfl, S.ob, g.clS, g.n_nodes_sh, rfl, _, rfl, _, _, rfl, rfl, L.ln, _, _, _, rfl, rfl, SqL.of e1, e2, _, rfl, aT, _, rfl, SqT.of e3, ?_⟩
      exact ⟨fun z => absurd (show (1 : Nat) = 0 from z.1) (by decide), fun r hr' => q r l h _ (Same.new _ hr') upd_same (by rw [el]; exact d1) (by rw [eh]; exact d2)⟩
theorem ok_made (g : G K mg a fs) : CalAt P w K mg base 1 fs.fMade (spMade a nm) := by
  refine ok_of g.rMade scMade (fun _ _ _ _ _ _ us hl => match us, hl with | [_, _, _, _], _ => rfl) (fun vs H Q E h => ?_) (fun cdv A outer s H vs Q E hr h => ?_)
  · obtain ⟨L, ns, p, l, h, tl, th, rfl, _⟩ := h
    rfl
  · obtain ⟨L, ns, p, l, h, tl, th, rfl, S, dl, dh, hp, h1, h2, few, q⟩ := h
    have hu := hu_of hr
    obtain ⟨tm, hm⟩ := g.vMOST_NODES
    refine ⟨_, pss_cons (ps_if (pt_cmpR op_eq (pv 2) (pv 3) (nomark _)) (pss_one (ps_ret (pv 2))) pss_nil)
      (pss_cons (ps_set (i := 4) scMade.nd rfl (.inl rfl) (pe_tup (pa_cons (pv 1) (pa_cons (pv 2) (pa_cons (pv 3) pa_nil)))))
      (pss_cons (ps_if (pt_cmp (pc_dnotin hu (pv 4) (pe_fld (pv 0) rfl)))
        (pss_cons (ps_if (pt_cmpR op_eq (pe_callB call_len_seq (by rfl) (g.no _ g.z_len) PySem.boot_len (pa_cons (pe_fld (pv 0) rfl) pa_nil)) (pe_glob (v := .int 2000) rfl (g.gl _ _ hm) ⟨tm, rfl⟩) (nomark _)) (pss_one ps_never) pss_nil)
        (pss_cons (ps_expr (pe_bm PySem.F.plainAttrs_list PySem.F.slot_list_append PySem.F.type_list_append mt_append (pe_fld (pv 0) rfl) (pa_cons (pv 4) pa_nil)))
        (pss_one (ps_dput hu (pe_fld (pv 0) rfl) (pv 4) (pe_op op_add (pe_callB call_len_seq (by rfl) (g.no _ g.z_len) PySem.boot_len (pa_cons (pe_fld (pv 0) rfl) pa_nil)) pe_int) rfl)))) pss_nil)
      (pss_one (ps_ret (pe_dget hu (pe_fld (pv 0) rfl) (pv 4) (fun _ _ => rfl)))))), ?_⟩
    refine ⟨_, rfl, _, rfl, rfl, _, rfl, ?_⟩
    refine ite2 (fun c => ?_) (fun c => ?_)
    · have e : (l : Int) = (h : Int) := V.int.inj (of_decide_eq_true c)
      have e' : l = h := by omega
      subst e'
      have et := dl.uniq dh
      subst et
      exact ⟨_, rfl, q ns l tl H S ⟨[], by simp⟩ (Nat.le_succ _) dl (Nat.le_of_lt h1) (fun e => by split <;> rfl) (But.refl _ _)⟩
    · have ne : l ≠ h := fun z => c (decide_eq_true (by rw [z]))
      refine ⟨_, rfl, _, rfl, _, rfl, (by show 3 ≤ sizeLine; decide), fun r hr' => ?_⟩
      have S1 : SheetAt a nm L (upd H r (.tup (ndV (p, l, h)))) ns := S.same (Same.new _ hr')
      have hk : (upd H r (.tup (ndV (p, l, h)))) r = some (.tup ((nkey (p, l, h)).map kV)) := upd_same
      refine ⟨_, rfl, _, rfl, L.p, a.sh, L.dx, _, _, rfl, S1.ob, g.clS, g.n_numbers_sh, rfl, L.dn, _, rfl, DGet.t (k := nkey (p, l, h)) S1.dn hk, _, rfl, ?_⟩
      cases ev : valV (nums ns) (nkey (p, l, h)) with
      | some v =>
        refine iteF ?_
        obtain ⟨j, ej, rfl⟩ := numsF_val 0 ns _ v ev
        obtain ⟨tl', th', d1, d2, d3, o3⟩ := S.wf.at ej
        have e1 := dl.uniq d1
        have e2 := dh.uniq d2
        subst e1; subst e2
        have z := DGet.t (k := nkey (p, l, h)) S1.dn hk
        rw [ev] at z
        refine ⟨_, rfl, L.p, a.sh, L.dx, _, _, rfl, S1.ob, g.clS, g.n_numbers_sh, rfl, _, rfl, L.dn, _, rfl, z, ?_⟩
        · have := q ns (j + 2) _ _ S1 ⟨[], by simp⟩ (Nat.le_succ _) d3 (Nat.le_refl _) (fun e => rfl) (But.new _ hr')
          have e3 : (((0 + j : Nat) : Int) + 2) = ((j + 2 : Nat) : Int) := by omega
          rw [e3]
          exact this
      | none =>
        refine iteT ?_
        obtain ⟨as, e1, N⟩ := S1.ln
        have len : (as.map V.ref).length = ns.length := by rw [List.length_map, N.len]
        refine ⟨_, rfl, L.p, a.sh, L.dx, _, _, rfl, S1.ob, g.clS, g.n_nodes_sh, rfl, L.ln, _, rfl, .inl (SqL.of e1), rfl, _, rfl, ?_⟩
        have nf : decide (V.int (((as.map V.ref).length : Nat) : Int) = V.int 2000) = false := decide_eq_false fun z => by
          have := V.int.inj z
          rw [len] at this
          omega
        rw [nf]
        refine iteF ?_
        let H1 : Hp := upd H r (.tup (ndV (p, l, h)))
        let H2 : Hp := upd H1 L.ln (.lst (as.map V.ref ++ [V.ref r]))
        have nln : L.ln ≠ L.dn := S1.ne
        have b2 : But [L.ln, L.dn] H1 H2 := But.upd _ List.mem_cons_self
        have f2 : Fixes H1 H2 := b2.fix2 S1.mLn S1.mDn
        have dn2 : H2 L.dn = some (.dT (nums ns)) := (upd_ne nln.symm).trans S1.dn
        have k2 : H2 r = some (.tup ((nkey (p, l, h)).map kV)) := f2 _ _ hk rfl
        have len2 : (as.map V.ref ++ [V.ref r]).length = ns.length + 1 := by rw [List.length_append, len]; rfl
        have hz : (nums ns).length < sizeLine := by rw [numsF_length, sizeLine_eq]; omega
        refine ⟨_, rfl, L.p, a.sh, L.dx, _, _, rfl, S1.ob, g.clS, g.n_nodes_sh, rfl, .inl ⟨rfl, _, SqL.of e1⟩, _, rfl, L.ln, _, _, rfl, rfl, e1, (by rw [len, sizeLine_eq]; omega), ?_⟩
        refine ⟨_, rfl, L.p, a.sh, L.dx, _, _, rfl, f2 _ _ S1.ob rfl, g.clS, g.n_nodes_sh, rfl, L.ln, _, rfl, .inl (SqL.of upd_same), _, _, rfl, rfl,
          _, rfl, L.p, a.sh, L.dx, _, _, rfl, f2 _ _ S1.ob rfl, g.clS, g.n_numbers_sh, rfl, _, rfl, L.dn, _, rfl, DPut.t (k := nkey (p, l, h)) dn2 k2 hz, ?_⟩
        have ep : putK (nums ns) (nkey (p, l, h)) (V.int ((((as.map V.ref ++ [V.ref r]).length : Nat) : Int) + 1)) = nums (ns ++ [(p, l, h)]) := by
          rw [putK_new _ ev, len2]
          show _ = numsF 0 (ns ++ [(p, l, h)])
          rw [numsF_snoc, show (((ns.length + 1 : Nat) : Int) + 1) = (((0 + ns.length : Nat) : Int) + 2) by omega]
        rw [ep]
        let H3 : Hp := upd H2 L.dn (.dT (nums (ns ++ [(p, l, h)])))
        have b3 : But [L.ln, L.dn] H1 H3 := b2.trans (But.upd _ (by simp))
        have f3 : Fixes H1 H3 := b3.fix2 S1.mLn S1.mDn
        obtain ⟨w3, d3, o3⟩ := S.wf.snoc dl dh hp h1 h2 ne
        have S3 : SheetAt a nm L H3 (ns ++ [(p, l, h)]) := by
          refine ⟨f3 _ _ S1.ob rfl, S1.tn.mono f3, ⟨as ++ [r], ?_, (N.mono f3).snoc (f3 _ _ hk rfl)⟩, upd_same, w3⟩
          rw [List.map_append]
          exact (upd_ne nln).trans upd_same
        have z3 : DGet H3 L.dn (V.ref r) (some (V.int (((ns.length : Nat) : Int) + 2))) := by
          have z := DGet.t (k := nkey (p, l, h)) (H := H3) (a := L.dn) (b := r) upd_same (f3 _ _ hk rfl)
          have e : valV (nums (ns ++ [(p, l, h)])) (nkey (p, l, h)) = some (V.int (((ns.length : Nat) : Int) + 2)) := by
            show valV (numsF 0 (ns ++ [(p, l, h)])) (nkey (p, l, h)) = _
            rw [numsF_snoc, valV_snoc _ _ _ _ ev, if_pos rfl, Nat.zero_add]
          rw [e] at z
          exact z
        refine ⟨_, rfl, L.p, a.sh, L.dx, _, _, rfl, f3 _ _ S1.ob rfl, g.clS, g.n_numbers_sh, rfl, _, rfl, L.dn, _, rfl, z3, ?_⟩
        exact q _ (ns.length + 2) _ H3 S3 ⟨_, rfl⟩ (by simp) d3 (Nat.le_refl _) (fun e => rfl) ((But.new _ hr').trans b3)
end
end K34
set_option Elab.async false
set_option linter.all false
set_option maxRecDepth 100000
set_option maxHeartbeats 4000000
/-! Sheets: joined. -/
namespace K34
open PySem PySem.Spec PyProof.Rows L2 C8
/-- how many nodes a join over so many places makes at most -/
def bd : Nat → Nat
  | 0 => 0
  | 1 => 0
  | d + 2 => 2 * bd (d + 1) + 1
/-- what the join of two trees is -/
structure JS (n : Nat) (s : Bool) (t1 t2 t : DT) : Prop where
  pl : plc n t1 ≤ plc n t ∨ plc n t2 ≤ plc n t
  ev : ∀ e, dev e t = op2 s (dev e t1) (dev e t2)
/-- what is kept of joins -/
def MemoJ (n : Nat) (ns : List Nd) (s : Bool) (kk : List (List Key × V)) : Prop :=
  ∀ (a b : Nat) (v : V), valV kk [Sum.inl (a : Int), Sum.inl (b : Int)] = some v → ∃ (k : Nat) (t1 t2 t : DT), v = .int k ∧ Den ns a t1 ∧ Den ns b t2 ∧ Den ns k t ∧ JS n s t1 t2 t
theorem MemoJ.mono {n : Nat} {ns ns' : List Nd} {s : Bool} {kk : List (List Key × V)} (m : MemoJ n ns s kk) (h : ns <+: ns') : MemoJ n ns' s kk := fun a b v e => by
  obtain ⟨k, t1, t2, t, e1, d1, d2, d3, j⟩ := m a b v e
  exact ⟨k, t1, t2, t, e1, d1.mono h, d2.mono h, d3.mono h, j⟩
theorem den_bool (ns : List Nd) : ∀ b : Bool, Den ns b.toNat (.lf b)
  | false => .z
  | true => .o
theorem op2_l (s b : Bool) : op2 s s b = s := by cases s <;> cases b <;> rfl
theorem op2_r (s b : Bool) : op2 s b s = s := by cases s <;> cases b <;> rfl
theorem op2_nl (s b : Bool) : op2 s (!s) b = b := by cases s <;> cases b <;> rfl
theorem op2_nr (s b : Bool) : op2 s b (!s) = b := by cases s <;> cases b <;> rfl
theorem op2_same (s b : Bool) : op2 s b b = b := by cases s <;> cases b <;> rfl
theorem not_nat (s : Bool) : (1 : Int) - (s.toNat : Int) = ((!s).toNat : Int) := by cases s <;> rfl

def spSJ (a : Ad) (nm : List Str) (d : Nat) : Sp := fun vs H Q _ => ∃ (L : Sl) (ns : List Nd) (one other : Nat) (s : Bool) (kd : Addr) (kk : List (List Key × V)) (t1 t2 : DT), vs = [.ref L.p, .int one, .int other, .int (s.toNat : Nat), .ref kd] ∧
  SheetAt a nm L H ns ∧ Den ns one t1 ∧ Den ns other t2 ∧ H kd = some (.dT kk) ∧ kd ≠ L.dn ∧ MemoJ nm.length ns s kk ∧ nm.length + 1 ≤ plc nm.length t1 + d ∧ nm.length + 1 ≤ plc nm.length t2 + d ∧ ns.length + bd d ≤ 2000 ∧ kk.length + bd d ≤ 2000 ∧
  ∀ (ns' : List Nd) (kk' : List (List Key × V)) (k : Nat) (t : DT) (H' : Hp), SheetAt a nm L H' ns' → ns <+: ns' → ns'.length ≤ ns.length + bd d → kk'.length ≤ kk.length + bd d → H' kd = some (.dT kk') → MemoJ nm.length ns' s kk' → Den ns' k t → JS nm.length s t1 t2 t →
    But [L.ln, L.dn, kd] H H' → Q (.int k) H'
section
variable {P : Program} {w : World} {K : PySem.W.Frag} {mg : Str → Option Value} {base : Heap} {a : Ad} {fs : Fs} {nm : List Str}
theorem sj_step (g : G K mg a fs) {d : Nat} (C : CalAt P w K mg base (3 + d) fs.fSJoined (spSJ a nm d)) : CalAt P w K mg base (3 + d + 1) fs.fSJoined (spSJ a nm (d + 1)) := by
  have CP : Met P w K mg base 1 a.sh "place" (spPlace a nm) [] := met_of (ok_place g) g.clS g.m_place_sh g.iPlace
  have CB : Met P w K mg base 2 a.sh "below" (spBelow a nm) [] := met_of (ok_below g) g.clS g.m_below_sh g.iBelow
  have CM : Met P w K mg base 1 a.sh "made" (spMade a nm) [] := met_of (ok_made g) g.clS g.m_made_sh g.iMade
  have CJ : Met P w K mg base (3 + d) a.sh "joined" (spSJ a nm d) [] := met_of C g.clS g.m_joined_sh g.iSJoined
  refine ok_of g.rSJoined scSJoined (fun _ _ _ _ _ _ us hl => match us, hl with | [_, _, _, _, _], _ => rfl) (fun vs H Q E h => ?_) (fun cdv A outer s H vs Q E hr h => ?_)
  · obtain ⟨L, ns, one, other, st, kd, kk, t1, t2, rfl, _⟩ := h
    rfl
  obtain ⟨L, ns, one, other, st, kd, kk, t1, t2, rfl, S, d1, d2, hkd, nkd, M, p1, p2, few, few2, q⟩ := h
  have hu := hu_of hr
  refine ⟨_, pss_cons (ps_if (PW.pt (pw_or (pt_cmpR op_eq (pv 1) (pv 3) (nomark _)) (pw_or1 (pt_cmpR op_eq (pv 2) (pv 3) (nomark _))))) (pss_one (ps_ret (pv 3))) pss_nil)
    (pss_cons (ps_if (PW.pt (pw_or (pt_cmpR op_eq (pv 1) (pe_op op_sub pe_int (pv 3)) (nomark _)) (pw_or1 (pt_cmpR op_eq (pv 1) (pv 2) (nomark _))))) (pss_one (ps_ret (pv 2))) pss_nil)
    (pss_cons (ps_if (pt_cmpR op_eq (pv 2) (pe_op op_sub pe_int (pv 3)) (nomark _)) (pss_one (ps_ret (pv 1))) pss_nil)
    (pss_cons (ps_if (pt_cmp (pc_dnotin hu (pe_tup (pa_cons (pv 1) (pa_cons (pv 2) pa_nil))) (pv 4)))
      (pss_cons (ps_set (i := 5) scSJoined.nd rfl (.inl rfl) (pe_callB (call_min2 rfl) (by rfl) (g.no _ g.z_min) (by decide +kernel) (pa_cons (pe_mt CP hr (by omega) (pv 0) (pa_cons (pv 1) pa_nil)) (pa_cons (pe_mt CP hr (by omega) (pv 0) (pa_cons (pv 2) pa_nil)) pa_nil))))
      (pss_cons (ps_set (i := 6) scSJoined.nd rfl (.inl rfl) (pe_mt CB hr (by omega) (pv 0) (pa_cons (pv 1) (pa_cons (pv 5) pa_nil))))
      (pss_cons (ps_set (i := 7) scSJoined.nd rfl (.inl rfl) (pe_mt CB hr (by omega) (pv 0) (pa_cons (pv 2) (pa_cons (pv 5) pa_nil))))
      (pss_cons (ps_set (i := 8) scSJoined.nd rfl (.inl rfl) (pe_mt CJ hr (Nat.le_refl _) (pv 0) (pa_cons (pe_ix ix_tup (pv 6) pe_int (fun _ _ => rfl)) (pa_cons (pe_ix ix_tup (pv 7) pe_int (fun _ _ => rfl)) (pa_cons (pv 3) (pa_cons (pv 4) pa_nil))))))
      (pss_one (ps_dput hu (pv 4) (pe_tup (pa_cons (pv 1) (pa_cons (pv 2) pa_nil)))
        (pe_mt CM hr (by omega) (pv 0) (pa_cons (pv 5) (pa_cons (pv 8) (pa_cons (pe_mt CJ hr (Nat.le_refl _) (pv 0) (pa_cons (pe_ix ix_tup (pv 6) pe_int (fun _ _ => rfl)) (pa_cons (pe_ix ix_tup (pv 7) pe_int (fun _ _ => rfl)) (pa_cons (pv 3) (pa_cons (pv 4) pa_nil))))) pa_nil)))) rfl)))))) pss_nil)
    (pss_one (ps_ret (pe_dget hu (pv 4) (pe_tup (pa_cons (pv 1) (pa_cons (pv 2) pa_nil))) (fun _ _ => rfl))))))), ?_⟩
  have o1 := S.wf.den d1
  have o2 := S.wf.den d2
  have keep : ∀ (k : Nat) (t : DT), Den ns k t → JS nm.length st t1 t2 t → Q (.int k) H := fun k t dk j => q ns kk k t H S ⟨[], by simp⟩ (Nat.le_add_right _ _) (Nat.le_add_right _ _) hkd M dk j (But.refl _ _)
  -- if one == stop or other == stop: return stop
  refine ⟨_, rfl, _, rfl, rfl, _, rfl, ?_⟩
  refine ite2 (fun c => ?_) (fun c1 => ?_)
  · have e : one = st.toNat := by have := V.int.inj (of_decide_eq_true c); omega
    subst e
    have e1 := (den_bool ns st).uniq d1
    subst e1
    refine iteT ⟨_, rfl, keep _ _ (den_bool ns st) ⟨.inl (Nat.le_refl _), fun e => (op2_l st _).symm⟩⟩
  refine ⟨_, rfl, _, rfl, rfl, _, rfl, ?_⟩
  refine ite2 (fun c => ?_) (fun c2 => ?_)
  · have e : other = st.toNat := by have := V.int.inj (of_decide_eq_true c); omega
    subst e
    have e1 := (den_bool ns st).uniq d2
    subst e1
    refine ⟨_, rfl, keep _ _ (den_bool ns st) ⟨.inr (Nat.le_refl _), fun e => (op2_r st _).symm⟩⟩
  -- if one == 1 - stop or one == other: return other
  refine ⟨_, rfl, _, rfl, _, _, rfl, rfl, rfl, _, rfl, ?_⟩
  refine ite2 (fun c => ?_) (fun c3 => ?_)
  · have e : one = (!st).toNat := by have := V.int.inj (of_decide_eq_true c); rw [not_nat] at this; omega
    subst e
    have e1 := (den_bool ns (!st)).uniq d1
    subst e1
    refine iteT ⟨_, rfl, keep _ _ d2 ⟨.inr (Nat.le_refl _), fun e => (op2_nl st _).symm⟩⟩
  refine ⟨_, rfl, _, rfl, rfl, _, rfl, ?_⟩
  refine ite2 (fun c => ?_) (fun c4 => ?_)
  · have e : one = other := by have := V.int.inj (of_decide_eq_true c); omega
    subst e
    have e1 := d1.uniq d2
    subst e1
    refine ⟨_, rfl, keep _ _ d2 ⟨.inr (Nat.le_refl _), fun e => (op2_same st _).symm⟩⟩
  -- if other == 1 - stop: return one
  refine ⟨_, rfl, _, rfl, _, _, rfl, rfl, rfl, _, rfl, ?_⟩
  refine ite2 (fun c => ?_) (fun c5 => ?_)
  · have e : other = (!st).toNat := by have := V.int.inj (of_decide_eq_true c); rw [not_nat] at this; omega
    subst e
    have e1 := (den_bool ns (!st)).uniq d2
    subst e1
    refine ⟨_, rfl, keep _ _ d1 ⟨.inl (Nat.le_refl _), fun e => (op2_nr st _).symm⟩⟩
  have big : ∀ k : Nat, k ≠ st.toNat → k ≠ (!st).toNat → 2 ≤ k := fun k h1 h2 => by cases st <;> simp at h1 h2 <;> omega
  have b1 : 2 ≤ one := big one (fun z => c1 (decide_eq_true (by rw [z]))) fun z => c3 (decide_eq_true (by show V.int one = V.int (1 - (st.toNat : Int)); rw [not_nat, z]))
  have b2 : 2 ≤ other := big other (fun z => c2 (decide_eq_true (by rw [z]))) fun z => c5 (decide_eq_true (by show V.int other = V.int (1 - (st.toNat : Int)); rw [not_nat, z]))
  -- if (one, other) not in known
  refine ⟨_, rfl, _, rfl, (by show 2 ≤ sizeLine; decide), fun r hr' => ?_⟩
  have sr : Same H (upd H r (.tup [.int one, .int other])) := Same.new _ hr'
  have kt : (upd H r (.tup [.int one, .int other])) r = some (.tup (([Sum.inl (one : Int), Sum.inl (other : Int)] : List Key).map kV)) := upd_same
  refine ⟨_, rfl, kd, _, rfl, DGet.t (k := [Sum.inl (one : Int), Sum.inl (other : Int)]) (sr _ _ hkd) kt, _, rfl, ?_⟩
  cases ev : valV kk [Sum.inl (one : Int), Sum.inl (other : Int)] with
  | some v =>
    refine iteF ?_
    obtain ⟨k, u1, u2, t, rfl, f1, f2, f3, j⟩ := M one other v ev
    have e1 := d1.uniq f1
    have e2 := d2.uniq f2
    subst e1; subst e2
    refine ⟨_, rfl, _, rfl, _, rfl, (by show 2 ≤ sizeLine; decide), fun r2 hr2 => ?_⟩
    have s2 := sr.trans (Same.new (.tup [.int one, .int other]) hr2)
    have z := DGet.t (k := [Sum.inl (one : Int), Sum.inl (other : Int)]) (a := kd) (s2 _ _ hkd) (b := r2) upd_same
    rw [ev] at z
    exact ⟨kd, _, rfl, z, q ns kk k t _ (S.same s2) ⟨[], by simp⟩ (Nat.le_add_right _ _) (Nat.le_add_right _ _) (s2 _ _ hkd) M f3 j (But.of s2)⟩
  | none =>
    refine iteT ?_
    -- the block: place, here, there, low; the new node; it is kept
    obtain ⟨p, hpe⟩ : ∃ p, p = min (plc nm.length t1) (plc nm.length t2) := ⟨_, rfl⟩
    let H1 : Hp := upd H r (.tup [.int one, .int other])
    have S1 : SheetAt a nm L H1 ns := S.same sr
    have d1' : 1 ≤ d := by
      obtain ⟨p', _, _, tl, th, _, rfl, _, _⟩ := d1.big b1
      have h0 : p' < nm.length := o1.1
      have h1 : nm.length + 1 ≤ p' + (d + 1) := p1
      omega
    have ebd : bd (d + 1) = 2 * bd d + 1 := by
      cases d with
      | zero => omega
      | succ e => rfl
    have hp1 : p ≤ plc nm.length t1 := by rw [hpe]; exact Nat.min_le_left _ _
    have hp2 : p ≤ plc nm.length t2 := by rw [hpe]; exact Nat.min_le_right _ _
    have hpn : p < nm.length := by
      obtain ⟨p', _, _, tl, th, _, rfl, _, _⟩ := d1.big b1
      exact Nat.lt_of_le_of_lt hp1 o1.1
    obtain ⟨l1, h1, ol1, oh1⟩ := lohi_plc o1 hp1 hpn
    obtain ⟨l2, h2, ol2, oh2⟩ := lohi_plc o2 hp2 hpn
    refine ⟨_, rfl, L.p, L.dx, _, rfl, S1.ob, rfl, _, rfl, L, ns, one, t1, rfl, S1, d1, _, rfl, L.p, L.dx, _, rfl, S1.ob, rfl, _, rfl, L, ns, other, t2, rfl, S1, d2, _, _, rfl, ?_⟩
    have ep : (if ((plc nm.length t2 : Nat) : Int) < ((plc nm.length t1 : Nat) : Int) then ((plc nm.length t2 : Nat) : Int) else ((plc nm.length t1 : Nat) : Int)) = ((p : Nat) : Int) := by
      rw [hpe]
      split <;> omega
    rw [ep]
    refine ⟨_, rfl, L.p, L.dx, _, rfl, S1.ob, rfl, _, rfl, _, rfl, L, ns, one, p, t1, rfl, S1, d1, hp1, hpn, fun q1 kl kh H2 s2 e2 dl1 dh1 => ?_⟩
    refine ⟨_, rfl, L.p, L.dx, _, rfl, s2 _ _ S1.ob, rfl, _, rfl, _, rfl, L, ns, other, p, t2, rfl, S1.same s2, d2, hp2, hpn, fun q2 ml mh H3 s3 e3 dl2 dh2 => ?_⟩
    have s03 : Same H H3 := sr.trans (s2.trans s3)
    have S3 : SheetAt a nm L H3 ns := S.same s03
    have f1 : H3 q1 = some (.tup [.int kl, .int kh]) := s3 _ _ e2
    have kd3 : H3 kd = some (.dT kk) := s03 _ _ hkd
    refine ⟨_, rfl, L.p, L.dx, _, rfl, S3.ob, rfl, _, rfl, q1, _, _, _, rfl, rfl, SqT.of f1, atI_nat (j := 0) rfl, _, rfl, q2, _, _, _, rfl, rfl, SqT.of e3, atI_nat (j := 0) rfl, _, rfl, _, rfl,
      L, ns, kl, ml, st, kd, kk, lo nm.length p t1, lo nm.length p t2, rfl, S3, dl1, dl2, kd3, nkd, M, by omega, by omega, by omega, by omega, fun ns4 kk4 k4 t4 H4 S4 pre4 len4 klen4 kd4 M4 d4 j4 b4 => ?_⟩
    have fx4 : Fixes H3 H4 := b4.fix3 S3.mLn S3.mDn (.dT kd3)
    have g1 : H4 q1 = some (.tup [.int kl, .int kh]) := fx4 _ _ f1 rfl
    have g2 : H4 q2 = some (.tup [.int ml, .int mh]) := fx4 _ _ e3 rfl
    refine ⟨_, rfl, L.p, L.dx, _, rfl, S4.ob, rfl, _, rfl, _, rfl, _, rfl, L.p, L.dx, _, rfl, S4.ob, rfl, _, rfl, q1, _, _, _, rfl, rfl, SqT.of g1, atI_nat (j := 1) rfl, _, rfl, q2, _, _, _, rfl, rfl, SqT.of g2, atI_nat (j := 1) rfl, _, rfl, _, rfl,
      L, ns4, kh, mh, st, kd, kk4, hi nm.length p t1, hi nm.length p t2, rfl, S4, dh1.mono pre4, dh2.mono pre4, kd4, nkd, M4, by omega, by omega, by omega, by omega, fun ns5 kk5 k5 t5 H5 S5 pre5 len5 klen5 kd5 M5 d5 j5 b5 => ?_⟩
    have pl4 : p < plc nm.length t4 := by rcases j4.pl with z | z <;> omega
    have pl5 : p < plc nm.length t5 := by rcases j5.pl with z | z <;> omega
    refine ⟨L, ns5, p, k4, k5, t4, t5, rfl, S5, d4.mono pre5, d5, hpn, pl4, pl5, by omega, fun ns6 k6 t6 H6 S6 pre6 len6 d6 pl6 ev6 b6 => ?_⟩
    have nkl : kd ≠ L.ln := by
      obtain ⟨as, e, _⟩ := S5.ln
      exact ne_of kd5 e (by intro z; cases z)
    have kd6 : H6 kd = some (.dT kk5) := b6 _ _ kd5 (by simp [nkl, nkd])
    refine ⟨_, rfl, _, rfl, _, rfl, (by show 2 ≤ sizeLine; decide), fun r6 hr6 => ?_⟩
    have s6 := Same.new (.tup [.int one, .int other]) hr6
    refine ⟨kd, _, rfl, DPut.t (k := [Sum.inl (one : Int), Sum.inl (other : Int)]) (s6 _ _ kd6) upd_same (by rw [sizeLine_eq]; omega), ?_⟩
    obtain ⟨kk7, ekk⟩ : ∃ kk7, kk7 = putK kk5 ([Sum.inl (one : Int), Sum.inl (other : Int)] : List Key) (V.int k6) := ⟨_, rfl⟩
    obtain ⟨H7, eH7⟩ : ∃ H7 : Hp, H7 = upd (upd H6 r6 (.tup [.int one, .int other])) kd (.dT kk7) := ⟨_, rfl⟩
    have b67 : But [L.ln, L.dn, kd] H6 H7 := by
      rw [eH7]
      exact (But.of s6).trans (But.upd _ (by simp))
    have kd7 : H7 kd = some (.dT kk7) := by rw [eH7]; exact upd_same
    have S7 : SheetAt a nm L H7 ns6 := by
      have S6' := S6.same s6
      have bb : But [kd] (upd H6 r6 (.tup [.int one, .int other])) H7 := by rw [eH7]; exact But.upd _ (by simp)
      exact S6'.but bb (bb.fix1 (.dT (s6 _ _ kd6))) (by simp [nkl.symm]) (by simp [nkd.symm])
    have klen7 : kk7.length ≤ kk5.length + 1 := by rw [ekk]; exact length_putK _ _ _
    have e7 : valV kk7 ([Sum.inl (one : Int), Sum.inl (other : Int)] : List Key) = some (V.int k6) := by rw [ekk, valV_put, if_pos rfl]
    have j6 : JS nm.length st t1 t2 t6 := by
      refine ⟨?_, fun e => ?_⟩
      · rw [hpe] at pl6
        omega
      · rw [ev6 e, j5.ev e, j4.ev e, dev_lohi e t1 hp1 hpn, dev_lohi e t2 hp2 hpn]
        cases e p <;> rfl
    have pre : ns <+: ns6 := pre4.trans (pre5.trans pre6)
    have M7 : MemoJ nm.length ns6 st kk7 := fun x y v e => by
      rw [ekk, valV_put] at e
      by_cases h : ([Sum.inl (x : Int), Sum.inl (y : Int)] : List Key) = [Sum.inl (one : Int), Sum.inl (other : Int)]
      · rw [if_pos h] at e
        simp only [List.cons.injEq, Sum.inl.injEq, Int.natCast_inj, and_true] at h
        obtain ⟨h1', h2'⟩ := h
        subst h1'; subst h2'
        exact ⟨k6, t1, t2, t6, (Option.some.inj e).symm, d1.mono pre, d2.mono pre, d6, j6⟩
      · rw [if_neg h] at e
        exact (M5.mono pre6) x y v e
    have b07 : But [L.ln, L.dn, kd] H H7 := (But.of s03).trans (b4.trans (b5.trans ((b6.mono (by simp)).trans b67)))
    rw [← ekk, ← eH7]
    refine ⟨_, rfl, _, rfl, _, rfl, (by show 2 ≤ sizeLine; decide), fun r7 hr7 => ?_⟩
    have s7 := Same.new (.tup [.int one, .int other]) hr7
    have z := DGet.t (k := [Sum.inl (one : Int), Sum.inl (other : Int)]) (a := kd) (s7 _ _ kd7) (b := r7) upd_same
    rw [e7] at z
    exact ⟨kd, _, rfl, z, q ns6 kk7 k6 t6 _ (S7.same s7) pre (by omega) (by omega) (s7 _ _ kd7) M7 d6 j6 (b07.trans (But.of s7))⟩
theorem sj_none {f : Addr} {fd : FuncData} {k : Nat} : FnOk P w K mg base C8.CX0 k f fd pSJoined (spSJ a nm 0) := by
  have no : ∀ vs H Q E, ¬ spSJ a nm 0 vs H Q E := fun vs H Q E h => by
    obtain ⟨L, ns, one, other, st, kd, kk, t1, t2, rfl, S, d1, d2, hkd, nkd, M, p1, p2, _⟩ := h
    have := (S.wf.den d1).plc_le
    omega
  exact ⟨fun vs H Q E h => absurd h (no vs H Q E), fun A outer s H args us vs Q E _ _ _ _ h => absurd h (no vs H Q E)⟩
theorem ok_sj (g : G K mg a fs) : ∀ d : Nat, CalAt P w K mg base (3 + d) fs.fSJoined (spSJ a nm d)
  | 0 => by
    obtain ⟨oc, od, kV, doc, pm, an, cdv, ct, osl, lk, hcd⟩ := g.rSJoined.ex
    exact ⟨_, pSJoined, sj_none, g.rSJoined.kp, (fun_mk (st := sSJoined) lk hcd g.rSJoined.kp).binds (ps := pSJoined) fun _ _ _ _ _ _ us hl => match us, hl with | [_, _, _, _, _], _ => rfl⟩
  | d + 1 => sj_step g (ok_sj g d)
end
end K34
set_option Elab.async false
set_option linter.all false
set_option maxRecDepth 100000
set_option maxHeartbeats 4000000
/-! Sheets: opposite, need, turned, shown. -/
namespace K34
open PySem PySem.Spec PyProof.Rows L2 C8
/-- what the turned tree is -/
structure OS (n : Nat) (t t' : DT) : Prop where
  pl : plc n t ≤ plc n t'
  ev : ∀ e, dev e t' = !dev e t
def MemoO (n : Nat) (ns : List Nd) (kk : List (Key × V)) : Prop :=
  ∀ (x : Nat) (v : V), valV kk (Sum.inl (x : Int)) = some v → ∃ (k : Nat) (t t' : DT), v = .int k ∧ Den ns x t ∧ Den ns k t' ∧ OS n t t'
theorem MemoO.mono {n : Nat} {ns ns' : List Nd} {kk : List (Key × V)} (m : MemoO n ns kk) (h : ns <+: ns') : MemoO n ns' kk := fun x v e => by
  obtain ⟨k, t, t', e1, d1, d2, o⟩ := m x v e
  exact ⟨k, t, t', e1, d1.mono h, d2.mono h, o⟩
def spOp (a : Ad) (nm : List Str) (d : Nat) : Sp := fun vs H Q _ => ∃ (L : Sl) (ns : List Nd) (k : Nat) (kd : Addr) (kk : List (Key × V)) (t : DT), vs = [.ref L.p, .int k, .ref kd] ∧
  SheetAt a nm L H ns ∧ Den ns k t ∧ H kd = some (.dK kk) ∧ MemoO nm.length ns kk ∧ nm.length + 1 ≤ plc nm.length t + d ∧ ns.length + bd d ≤ 2000 ∧ kk.length + bd d ≤ 2000 ∧
  ∀ (ns' : List Nd) (kk' : List (Key × V)) (k' : Nat) (t' : DT) (H' : Hp), SheetAt a nm L H' ns' → ns <+: ns' → ns'.length ≤ ns.length + bd d → kk'.length ≤ kk.length + bd d → H' kd = some (.dK kk') → MemoO nm.length ns' kk' → Den ns' k' t' → OS nm.length t t' →
    But [L.ln, L.dn, kd] H H' → Q (.int k') H'
def spNeed (a : Ad) (nm : List Str) : Sp := fun vs H Q _ => ∃ (L : Sl) (ns : List Nd) (k : Nat), vs = [.ref L.p, .int k] ∧ SheetAt a nm L H ns ∧ k < ns.length + 2 ∧ Q (.int k) H
/-- the node that holds where another does not; at most so many names -/
def spTurned (a : Ad) (nm : List Str) : Sp := fun vs H Q _ => ∃ (L : Sl) (ns : List Nd) (k : Nat) (t : DT), vs = [.ref L.p, .int k] ∧ SheetAt a nm L H ns ∧ Den ns k t ∧ nm.length ≤ 6 ∧ ns.length + 63 ≤ 2000 ∧
  ∀ (ns' : List Nd) (k' : Nat) (t' : DT) (H' : Hp), SheetAt a nm L H' ns' → ns <+: ns' → Den ns' k' t' → But [L.ln, L.dn] H H' → Q (.int k') H'
def spShown (a : Ad) (nm : List Str) : Sp := fun vs H Q _ => ∃ (L : Sl) (ns : List Nd) (k p l h : Nat), vs = [.ref L.p, .int k] ∧ SheetAt a nm L H ns ∧ 2 ≤ k ∧ ns[k - 2]? = some (p, l, h) ∧ ∀ q, H q = some (.tup (ndV (p, l, h))) → Q (.ref q) H
theorem bd_le : ∀ d : Nat, bd (d + 1) + 1 = 2 ^ d
  | 0 => rfl
  | d + 1 => by
    have := bd_le d
    show 2 * bd (d + 1) + 1 + 1 = 2 ^ (d + 1)
    rw [Nat.pow_succ]; omega
theorem bd_mono : ∀ d : Nat, bd d ≤ bd (d + 1)
  | 0 => Nat.le_refl _
  | 1 => by decide
  | d + 2 => by show bd (d + 2) ≤ 2 * bd (d + 2) + 1; omega
theorem bd_le7 {d : Nat} (h : d ≤ 7) : bd d ≤ 63 := by
  have : ∀ k, k ≤ 7 → bd k ≤ bd 7 := by decide
  exact this d h
section
variable {P : Program} {w : World} {K : PySem.W.Frag} {mg : Str → Option Value} {base : Heap} {a : Ad} {fs : Fs} {nm : List Str}
theorem op_step (g : G K mg a fs) {d : Nat} (C : CalAt P w K mg base (3 + d) fs.fOpposite (spOp a nm d)) : CalAt P w K mg base (3 + d + 1) fs.fOpposite (spOp a nm (d + 1)) := by
  have CM : Met P w K mg base 1 a.sh "made" (spMade a nm) [] := met_of (ok_made g) g.clS g.m_made_sh g.iMade
  have CO : Met P w K mg base (3 + d) a.sh "opposite" (spOp a nm d) [] := met_of C g.clS g.m_opposite_sh g.iOpposite
  refine ok_of g.rOpposite scOpposite (fun _ _ _ _ _ _ us hl => match us, hl with | [_, _, _], _ => rfl) (fun vs H Q E h => ?_) (fun cdv A outer s H vs Q E hr h => ?_)
  · obtain ⟨L, ns, k, kd, kk, t, rfl, _⟩ := h
    rfl
  obtain ⟨L, ns, k, kd, kk, t, rfl, S, dk, hkd, M, p1, few, few2, q⟩ := h
  have hu := hu_of hr
  refine ⟨_, pss_cons (ps_if (pt_cmpR op_lt (pv 1) pe_int (nomark _)) (pss_one (ps_ret (pe_op op_sub pe_int (pv 1)))) pss_nil)
    (pss_cons (ps_if (pt_cmp (pc_dnotin hu (pv 1) (pv 2)))
      (pss_cons (ps_asg (pe_ix ix_list (pe_fld (pv 0) rfl) (pe_op op_sub (pv 1) pe_int) (fun _ _ => rfl)) (pg_tup rfl (pgs_cons (pg_name (i := 3) scOpposite.nd rfl (.inl rfl)) (pgs_cons (pg_name (i := 4) scOpposite.nd rfl (.inl rfl)) (pgs_cons (pg_name (i := 5) scOpposite.nd rfl (.inl rfl)) pgs_nil)))))
      (pss_one (ps_dput hu (pv 2) (pv 1) (pe_mt CM hr (by omega) (pv 0) (pa_cons (pv 3) (pa_cons (pe_mt CO hr (Nat.le_refl _) (pv 0) (pa_cons (pv 4) (pa_cons (pv 2) pa_nil))) (pa_cons (pe_mt CO hr (Nat.le_refl _) (pv 0) (pa_cons (pv 5) (pa_cons (pv 2) pa_nil))) pa_nil)))) rfl))) pss_nil)
    (pss_one (ps_ret (pe_dget hu (pv 2) (pv 1) (fun _ _ => rfl))))), ?_⟩
  have ot := S.wf.den dk
  refine ⟨_, rfl, _, _, rfl, rfl, _, rfl, ?_⟩
  refine ite2 (fun c => ?_) (fun c => ?_)
  · have c' : (k : Int) < 2 := of_decide_eq_true c
    obtain ⟨b, rfl⟩ : ∃ b : Bool, k = b.toNat := by
      have : k = 0 ∨ k = 1 := by omega
      rcases this with rfl | rfl
      · exact ⟨false, rfl⟩
      · exact ⟨true, rfl⟩
    have e := (den_bool ns b).uniq dk
    subst e
    refine ⟨_, rfl, _, _, rfl, rfl, ?_⟩
    show Q (V.int (1 - (b.toNat : Int))) H
    rw [not_nat]
    exact q ns kk _ _ H S ⟨[], by simp⟩ (Nat.le_add_right _ _) (Nat.le_add_right _ _) hkd M (den_bool ns (!b)) ⟨Nat.le_refl _, fun e => rfl⟩ (But.refl _ _)
  have c' : ¬ (k : Int) < 2 := fun z => c (decide_eq_true z)
  refine ⟨_, rfl, _, rfl, kd, _, rfl, DGet.k (k := Sum.inl (k : Int)) hkd, _, rfl, ?_⟩
  cases ev : valV kk (Sum.inl (k : Int)) with
  | some v =>
    refine iteF ?_
    obtain ⟨k', t0, t', rfl, f1, f2, o⟩ := M k v ev
    have e1 := dk.uniq f1
    subst e1
    have z := DGet.k (k := Sum.inl (k : Int)) hkd
    rw [ev] at z
    exact ⟨_, rfl, _, rfl, kd, _, rfl, z, q ns kk k' t' H S ⟨[], by simp⟩ (Nat.le_add_right _ _) (Nat.le_add_right _ _) hkd M f2 o (But.refl _ _)⟩
  | none =>
    refine iteT ?_
    obtain ⟨as, p, l, h, tl, th, aT, e1, N, e2, e3, rfl, d1, d2⟩ := S.get dk (by omega)
    obtain ⟨hp, h1, h2, h3, ol, oh⟩ := id ot
    have p1' : nm.length + 1 ≤ p + (d + 1) := p1
    have ebd : bd (d + 1) = 2 * bd d + 1 := by
      cases d with
      | zero => omega
      | succ e => rfl
    refine ⟨_, rfl, L.p, a.sh, L.dx, _, _, rfl, S.ob, g.clS, g.n_nodes_sh, rfl, _, rfl, _, _, rfl, rfl, L.ln, _, _, _, rfl, rfl, SqL.of e1, e2, aT, _, rfl, SqT.of e3, rfl, _, _, rfl, _, _, rfl, _, _, rfl, rfl, ?_⟩
    refine ⟨_, rfl, L.p, L.dx, _, rfl, S.ob, rfl, _, rfl, _, rfl, L.p, L.dx, _, rfl, S.ob, rfl, _, rfl, _, rfl, L, ns, l, kd, kk, tl, rfl, S, d1, hkd, M, by omega, by omega, by omega, fun ns4 kk4 k4 t4 H4 S4 pre4 len4 klen4 kd4 M4 d4 o4 b4 => ?_⟩
    refine ⟨_, rfl, L.p, L.dx, _, rfl, S4.ob, rfl, _, rfl, _, rfl, L, ns4, h, kd, kk4, th, rfl, S4, d2.mono pre4, kd4, M4, by omega, by omega, by omega, fun ns5 kk5 k5 t5 H5 S5 pre5 len5 klen5 kd5 M5 d5 o5 b5 => ?_⟩
    refine ⟨L, ns5, p, k4, k5, t4, t5, rfl, S5, d4.mono pre5, d5, hp, Nat.lt_of_lt_of_le h1 o4.pl, Nat.lt_of_lt_of_le h2 o5.pl, by omega, fun ns6 k6 t6 H6 S6 pre6 len6 d6 pl6 ev6 b6 => ?_⟩
    have nkl : kd ≠ L.ln := by
      obtain ⟨as, e, _⟩ := S5.ln
      exact ne_of kd5 e (by intro z; cases z)
    have nkd : kd ≠ L.dn := ne_of kd5 S5.dn (by intro z; cases z)
    have kd6 : H6 kd = some (.dK kk5) := b6 _ _ kd5 (by simp [nkl, nkd])
    refine ⟨_, rfl, _, rfl, kd, _, rfl, DPut.k (k := Sum.inl (k : Int)) kd6 (by rw [sizeLine_eq]; omega), ?_⟩
    obtain ⟨kk7, ekk⟩ : ∃ kk7, kk7 = putK kk5 (Sum.inl (k : Int) : Key) (V.int k6) := ⟨_, rfl⟩
    obtain ⟨H7, eH7⟩ : ∃ H7 : Hp, H7 = upd H6 kd (.dK kk7) := ⟨_, rfl⟩
    have bb : But [kd] H6 H7 := by rw [eH7]; exact But.upd _ (by simp)
    have kd7 : H7 kd = some (.dK kk7) := by rw [eH7]; exact upd_same
    have S7 : SheetAt a nm L H7 ns6 := S6.but bb (bb.fix1 (.dK kd6)) (by simp [nkl.symm]) (by simp [nkd.symm])
    have klen7 : kk7.length ≤ kk5.length + 1 := by rw [ekk]; exact length_putK _ _ _
    have e7 : valV kk7 (Sum.inl (k : Int) : Key) = some (V.int k6) := by rw [ekk, valV_put, if_pos rfl]
    have pre : ns <+: ns6 := pre4.trans (pre5.trans pre6)
    have o6 : OS nm.length (.br p tl th) t6 := ⟨pl6, fun e => by
      rw [ev6 e, o5.ev e, o4.ev e]
      show _ = !(if e p then dev e th else dev e tl)
      cases e p <;> rfl⟩
    have M7 : MemoO nm.length ns6 kk7 := fun x v e => by
      rw [ekk, valV_put] at e
      by_cases hx : (Sum.inl (x : Int) : Key) = Sum.inl (k : Int)
      · rw [if_pos hx] at e
        have : x = k := by have := Sum.inl.inj hx; omega
        subst this
        exact ⟨k6, _, t6, (Option.some.inj e).symm, dk.mono pre, d6, o6⟩
      · rw [if_neg hx] at e
        exact (M5.mono pre6) x v e
    have b07 : But [L.ln, L.dn, kd] H H7 := b4.trans (b5.trans ((b6.mono (by simp)).trans (bb.mono (by simp))))
    rw [← ekk, ← eH7]
    have z := DGet.k (k := Sum.inl (k : Int)) kd7
    rw [e7] at z
    exact ⟨_, rfl, _, rfl, kd, _, rfl, z, q ns6 kk7 k6 t6 _ S7 pre (by omega) (by omega) kd7 M7 d6 o6 b07⟩
theorem op_none {f : Addr} {fd : FuncData} {k : Nat} : FnOk P w K mg base C8.CX0 k f fd pOpposite (spOp a nm 0) := by
  have no : ∀ vs H Q E, ¬ spOp a nm 0 vs H Q E := fun vs H Q E h => by
    obtain ⟨L, ns, k, kd, kk, t, rfl, S, dk, hkd, M, p1, _⟩ := h
    have := (S.wf.den dk).plc_le
    omega
  exact ⟨fun vs H Q E h => absurd h (no vs H Q E), fun A outer s H args us vs Q E _ _ _ _ h => absurd h (no vs H Q E)⟩
theorem ok_op (g : G K mg a fs) : ∀ d : Nat, CalAt P w K mg base (3 + d) fs.fOpposite (spOp a nm d)
  | 0 => by
    obtain ⟨oc, od, kV, doc, pm, an, cdv, ct, osl, lk, hcd⟩ := g.rOpposite.ex
    exact ⟨_, pOpposite, op_none, g.rOpposite.kp, (fun_mk (st := sOpposite) lk hcd g.rOpposite.kp).binds (ps := pOpposite) fun _ _ _ _ _ _ us hl => match us, hl with | [_, _, _], _ => rfl⟩
  | d + 1 => op_step g (ok_op g d)
theorem ok_need (g : G K mg a fs) : CalAt P w K mg base 1 fs.fNeed (spNeed a nm) := by
  refine ok_of g.rNeed scNeed (fun _ _ _ _ _ _ us hl => match us, hl with | [_, _], _ => rfl) (fun vs H Q E h => ?_) (fun cdv A outer s H vs Q E hr h => ?_)
  · obtain ⟨L, ns, k, rfl, _⟩ := h
    rfl
  obtain ⟨L, ns, k, rfl, S, lt, q⟩ := h
  have isi : ∀ {T : String} {u : Value} {x : Str} {p : Pos}, True := fun {_ _ _ _} => trivial
  refine ⟨_, pss_cons (ps_if (PW.pt (pw_or (pt_not (pt_val (pe_callB call_isi (by rfl) (g.no _ g.z_isinstance) (by decide +kernel) (pa_cons (pv 1) (pa_cons (pe_bltn (v := .ty "int") rfl (g.no _ g.z_int) (by decide +kernel) rfl) pa_nil)))))
    (pw_or (pt_val (pe_callB call_isi (by rfl) (g.no _ g.z_isinstance) (by decide +kernel) (pa_cons (pv 1) (pa_cons (pe_bltn (v := .ty "bool") rfl (g.no _ g.z_bool) (by decide +kernel) rfl) pa_nil))))
    (pw_or1 (pt_not (pt_chain op_le op_lt pe_int (pv 1) (pe_op op_add (pe_callB call_len_seq (by rfl) (g.no _ g.z_len) PySem.boot_len (pa_cons (pe_fld (pv 0) rfl) pa_nil)) pe_int))))))) (pss_one ps_never) pss_nil)
    (pss_one (ps_ret (pv 1))), ?_⟩
  obtain ⟨as, e1, N⟩ := S.ln
  refine ⟨_, rfl, _, _, _, _, true, rfl, .ty "int", .base (.int _), kit_ty (by decide +kernel), _, rfl, iteF ?_⟩
  refine ⟨_, rfl, _, _, _, _, false, rfl, .ty "bool", .base (.int _), kit_ty (by decide +kernel), _, rfl, iteF ?_⟩
  refine ⟨_, rfl, _, _, rfl, rfl, _, rfl, ?_⟩
  have c0 : decide ((0 : Int) ≤ (k : Int)) = true := decide_eq_true (by omega)
  rw [c0]
  refine iteT ⟨_, rfl, L.p, a.sh, L.dx, _, _, rfl, S.ob, g.clS, g.n_nodes_sh, rfl, L.ln, _, rfl, .inl (SqL.of e1), _, _, rfl, rfl, _, _, rfl, rfl, _, rfl, ?_⟩
  have c1 : decide ((k : Int) < (((as.map V.ref).length : Nat) : Int) + 2) = true := decide_eq_true (by rw [List.length_map, N.len]; omega)
  rw [c1]
  exact iteF ⟨_, rfl, q⟩
theorem ok_shown (g : G K mg a fs) : CalAt P w K mg base 2 fs.fShown (spShown a nm) := by
  have CN : Met P w K mg base 1 a.sh "need" (spNeed a nm) [] := met_of (ok_need g) g.clS g.m_need_sh g.iNeed
  refine ok_of g.rShown scShown (fun _ _ _ _ _ _ us hl => match us, hl with | [_, _], _ => rfl) (fun vs H Q E h => ?_) (fun cdv A outer s H vs Q E hr h => ?_)
  · obtain ⟨L, ns, k, p, l, h, rfl, _⟩ := h
    rfl
  obtain ⟨L, ns, k, p, l, h, rfl, S, h2, en, q⟩ := h
  refine ⟨_, pss_cons (ps_if (pt_cmpR op_lt (pe_mt CN hr (Nat.le_refl _) (pv 0) (pa_cons (pv 1) pa_nil)) pe_int (nomark _)) (pss_one (ps_ret (pe_tup pa_nil))) pss_nil)
    (pss_one (ps_ret (pe_ix ix_list (pe_fld (pv 0) rfl) (pe_op op_sub (pv 1) pe_int) (fun _ _ => rfl)))), ?_⟩
  obtain ⟨tl, th, _, _, dk, _⟩ := S.wf.at en
  rw [show k - 2 + 2 = k by omega] at dk
  obtain ⟨as, p', l', h', tl', th', aT, e1, N, e2, e3, _, _, _⟩ := S.get dk h2
  obtain ⟨as2, f1, f2⟩ := S.ln
  refine ⟨_, rfl, L.p, L.dx, _, rfl, S.ob, rfl, _, rfl, L, ns, k, rfl, S, dk.lt, _, _, rfl, rfl, _, rfl, ?_⟩
  have c : decide ((k : Int) < 2) = false := decide_eq_false (by omega)
  rw [c]
  refine iteF ⟨_, rfl, L.p, a.sh, L.dx, _, _, rfl, S.ob, g.clS, g.n_nodes_sh, rfl, _, rfl, _, _, rfl, rfl, L.ln, _, _, _, rfl, rfl, SqL.of e1, e2, q aT ?_⟩
  obtain ⟨j, hj, hj2, _⟩ := atI_get e2
  have hk : k - 2 < as.length := by rw [N.len]; exact (List.getElem?_eq_some_iff.mp en).1
  have ea : as[k - 2]? = some as[k - 2] := List.getElem?_eq_getElem hk
  have e4 : atI (as.map V.ref) ((k : Int) - 2) = some (.ref as[k - 2]) := at_of (j := k - 2) (by omega) (by rw [List.getElem?_map, ea]; rfl)
  rw [e2] at e4
  have e5 : aT = as[k - 2] := V.ref.inj (Option.some.inj e4)
  rw [e5]
  exact N.at_ _ _ _ ea en
theorem ok_turned (g : G K mg a fs) : CalAt P w K mg base 11 fs.fSTurned (spTurned a nm) := by
  have CN : Met P w K mg base 1 a.sh "need" (spNeed a nm) [] := met_of (ok_need g) g.clS g.m_need_sh g.iNeed
  have CO : Met P w K mg base 10 a.sh "opposite" (spOp a nm 7) [] := met_of (ok_op g 7) g.clS g.m_opposite_sh g.iOpposite
  refine ok_of g.rSTurned scSTurned (fun _ _ _ _ _ _ us hl => match us, hl with | [_, _], _ => rfl) (fun vs H Q E h => ?_) (fun cdv A outer s H vs Q E hr h => ?_)
  · obtain ⟨L, ns, k, t, rfl, _⟩ := h
    rfl
  obtain ⟨L, ns, k, t, rfl, S, dk, h6, few, q⟩ := h
  obtain ⟨tm, hm⟩ := g.vTooMany
  refine ⟨_, pss_cons (ps_expr (pe_mt CN hr (by omega) (pv 0) (pa_cons (pv 1) pa_nil)))
    (pss_cons (ps_set (i := 2) scSTurned.nd rfl (.inl rfl) (pe_callB call_len_seq (by rfl) (g.no _ g.z_len) PySem.boot_len (pa_cons (pe_fld (pv 0) rfl) pa_nil)))
    (pss_one (ps_try_only (tb := fun _ => tRet (tMeth a.sh "opposite" (spOp a nm 7) [] C8.E0 (tVar 0) (tCons (tVar 1) (tCons tDNewK tNil)))) (ts := fun _ _ _ => tNever) (Wout := fun _ _ _ _ => False) rfl rfl ⟨rfl, by decide, .inl (g.gl _ _ hm)⟩ takes0
      (fun W pn xe tk _ => pss_one (ps_ret (pe_mt CO hr (Nat.le_refl _) (pv 0) (pa_cons (pv 1) (pa_cons pe_dnewK pa_nil))))) (fun _ _ _ _ _ _ _ => pss_never)))), ?_⟩
  obtain ⟨as, e1, N⟩ := S.ln
  refine ⟨_, rfl, L.p, L.dx, _, rfl, S.ob, rfl, _, rfl, L, ns, k, rfl, S, dk.lt, ?_⟩
  refine ⟨_, rfl, L.p, a.sh, L.dx, _, _, rfl, S.ob, g.clS, g.n_nodes_sh, rfl, L.ln, _, rfl, .inl (SqL.of e1), ?_⟩
  refine ⟨_, rfl, L.p, L.dx, _, rfl, S.ob, rfl, _, rfl, fun kd hkd => ?_⟩
  have s1 := Same.new (.dK []) hkd
  have b7 : bd 7 = 63 := by decide
  refine ⟨L, ns, k, kd, [], t, rfl, S.same s1, dk, upd_same, fun x v e => (by cases e), by omega, by omega, by rw [b7]; decide, fun ns' kk' k' t' H' S' pre _ _ _ _ d' _ b => ?_⟩
  exact q ns' k' t' H' S' pre d' (But.less (But.of s1) b fun x hx => by
    simp only [List.mem_cons, List.not_mem_nil, or_false] at hx
    rcases hx with rfl | rfl | rfl
    · exact .inr (by simp)
    · exact .inr (by simp)
    · exact .inl hkd)
end
end K34
set_option Elab.async false
set_option linter.all false
set_option maxRecDepth 100000
set_option maxHeartbeats 4000000
/-! Sheets: counted, ways, row. -/
namespace K34
open PySem PySem.Spec PyProof.Rows L2 C8
def MemoC (n : Nat) (ns : List Nd) (kk : List (Key × V)) : Prop :=
  ∀ (x : Nat) (v : V), valV kk (Sum.inl (x : Int)) = some v → ∃ t, Den ns x t ∧ v = .int (cnt n t : Nat)
def spCounted (a : Ad) (nm : List Str) (d : Nat) : Sp := fun vs H Q _ => ∃ (L : Sl) (ns : List Nd) (k : Nat) (kd : Addr) (kk : List (Key × V)) (t : DT), vs = [.ref L.p, .int k, .ref kd] ∧
  SheetAt a nm L H ns ∧ Den ns k t ∧ H kd = some (.dK kk) ∧ MemoC nm.length ns kk ∧ nm.length ≤ 6 ∧ nm.length + 1 ≤ plc nm.length t + d ∧ kk.length + bd d ≤ 2000 ∧
  ∀ (kk' : List (Key × V)) (H' : Hp), kk'.length ≤ kk.length + bd d → H' kd = some (.dK kk') → MemoC nm.length ns kk' → But [kd] H H' → Q (.int (cnt nm.length t : Nat)) H'
def spWays (a : Ad) (nm : List Str) : Sp := fun vs H Q _ => ∃ (L : Sl) (ns : List Nd) (k : Nat) (t : DT), vs = [.ref L.p, .int k] ∧ SheetAt a nm L H ns ∧ Den ns k t ∧ nm.length ≤ 6 ∧
  ∀ (H' : Hp), Same H H' → Q (.int (cnt nm.length t * 2 ^ plc nm.length t : Nat)) H'
/-- a row at which a node holds, or None -/
def spRow (a : Ad) (nm : List Str) : Sp := fun vs H Q _ => ∃ (L : Sl) (ns : List Nd) (k : Nat) (t : DT), vs = [.ref L.p, .int k] ∧ SheetAt a nm L H ns ∧ Den ns k t ∧ nm.Nodup ∧ nm.length ≤ 6 ∧
  (k = 0 → Q .non H) ∧ (k ≠ 0 → ∀ (p : Addr) (H' : Hp), Same H H' → H p = none → H' p = some (.dK (rowK nm (rw_ (fun _ => false) t))) → Q (.ref p) H')
theorem pow_small {c n q : Nat} (h : c ≤ 2 ^ (n - q)) (hn : n ≤ 6) : (c : Int).natAbs < 2 ^ 64 := by
  have : 2 ^ (n - q) ≤ 2 ^ 6 := Nat.pow_le_pow_right (by decide) (by omega)
  have h6 : (2 : Nat) ^ 6 = 64 := by decide
  have h64 : (2 : Nat) ^ 64 = 18446744073709551616 := by decide
  omega
theorem cast_shl (c e : Nat) : ((c : Int) * 2 ^ ((e : Nat) : Int).toNat) = ((c * 2 ^ e : Nat) : Int) := by
  rw [Int.toNat_natCast]
  push_cast
  rfl
section
variable {P : Program} {w : World} {K : PySem.W.Frag} {mg : Str → Option Value} {base : Heap} {a : Ad} {fs : Fs} {nm : List Str}
theorem ct_step (g : G K mg a fs) {d : Nat} (C : CalAt P w K mg base (1 + d) fs.fCounted (spCounted a nm d)) : CalAt P w K mg base (1 + d + 1) fs.fCounted (spCounted a nm (d + 1)) := by
  have CP : Met P w K mg base 1 a.sh "place" (spPlace a nm) [] := met_of (ok_place g) g.clS g.m_place_sh g.iPlace
  have CC : Met P w K mg base (1 + d) a.sh "counted" (spCounted a nm d) [] := met_of C g.clS g.m_counted_sh g.iCounted
  refine ok_of g.rCounted scCounted (fun _ _ _ _ _ _ us hl => match us, hl with | [_, _, _], _ => rfl) (fun vs H Q E h => ?_) (fun cdv A outer s H vs Q E hr h => ?_)
  · obtain ⟨L, ns, k, kd, kk, t, rfl, _⟩ := h
    rfl
  obtain ⟨L, ns, k, kd, kk, t, rfl, S, dk, hkd, M, h6, p1, few, q⟩ := h
  have hu := hu_of hr
  refine ⟨_, pss_cons (ps_if (pt_cmpR op_lt (pv 1) pe_int (nomark _)) (pss_one (ps_ret (pv 1))) pss_nil)
    (pss_cons (ps_if (pt_cmp (pc_dnotin hu (pv 1) (pv 2)))
      (pss_cons (ps_asg (pe_ix ix_list (pe_fld (pv 0) rfl) (pe_op op_sub (pv 1) pe_int) (fun _ _ => rfl)) (pg_tup rfl (pgs_cons (pg_name (i := 3) scCounted.nd rfl (.inl rfl)) (pgs_cons (pg_name (i := 4) scCounted.nd rfl (.inl rfl)) (pgs_cons (pg_name (i := 5) scCounted.nd rfl (.inl rfl)) pgs_nil)))))
      (pss_cons (ps_set (i := 6) scCounted.nd rfl (.inl rfl) pe_int)
      (pss_cons (ps_for PassesOwn.never rfl (pi_tup (pe_tup (pa_cons (pv 4) (pa_cons (pv 5) pa_nil)))) (pg_name (i := 7) scCounted.nd rfl (.inl rfl))
        (pss_one (ps_aug (i := 6) scCounted.nd rfl (.inl rfl) (pe_op op_shl (pe_mt CC hr (Nat.le_refl _) (pv 0) (pa_cons (pv 7) (pa_cons (pv 2) pa_nil))) (pe_op op_sub (pe_op op_sub (pe_mt CP hr (by omega) (pv 0) (pa_cons (pv 7) pa_nil)) (pv 3)) pe_int)) iop_add)))
      (pss_one (ps_dput hu (pv 2) (pv 1) (pv 6) rfl))))) pss_nil)
    (pss_one (ps_ret (pe_dget hu (pv 2) (pv 1) (fun _ _ => rfl))))), ?_⟩
  have ot := S.wf.den dk
  refine ⟨_, rfl, _, _, rfl, rfl, _, rfl, ?_⟩
  refine ite2 (fun c => ?_) (fun c => ?_)
  · have c' : (k : Int) < 2 := of_decide_eq_true c
    obtain ⟨b, rfl⟩ : ∃ b : Bool, k = b.toNat := by
      have : k = 0 ∨ k = 1 := by omega
      rcases this with rfl | rfl
      · exact ⟨false, rfl⟩
      · exact ⟨true, rfl⟩
    have e := (den_bool ns b).uniq dk
    subst e
    exact ⟨_, rfl, q kk H (Nat.le_add_right _ _) hkd M (But.refl _ _)⟩
  have c' : ¬ (k : Int) < 2 := fun z => c (decide_eq_true z)
  refine ⟨_, rfl, _, rfl, kd, _, rfl, DGet.k (k := Sum.inl (k : Int)) hkd, _, rfl, ?_⟩
  cases ev : valV kk (Sum.inl (k : Int)) with
  | some v =>
    refine iteF ?_
    obtain ⟨t', f1, rfl⟩ := M k v ev
    have e1 := dk.uniq f1
    subst e1
    have z := DGet.k (k := Sum.inl (k : Int)) hkd
    rw [ev] at z
    exact ⟨_, rfl, _, rfl, kd, _, rfl, z, q kk H (Nat.le_add_right _ _) hkd M (But.refl _ _)⟩
  | none =>
    refine iteT ?_
    obtain ⟨as, p, l, h, tl, th, aT, e1, N, e2, e3, rfl, d1, d2⟩ := S.get dk (by omega)
    obtain ⟨hp, h1, h2, h3, ol, oh⟩ := id ot
    have p1' : nm.length + 1 ≤ p + (d + 1) := p1
    have ebd : bd (d + 1) = 2 * bd d + 1 := by
      cases d with
      | zero => omega
      | succ e => rfl
    refine ⟨_, rfl, L.p, a.sh, L.dx, _, _, rfl, S.ob, g.clS, g.n_nodes_sh, rfl, _, rfl, _, _, rfl, rfl, L.ln, _, _, _, rfl, rfl, SqL.of e1, e2, aT, _, rfl, SqT.of e3, rfl, _, _, rfl, _, _, rfl, _, _, rfl, rfl, ?_⟩
    -- the loop over (low, high)
    refine ⟨_, rfl, _, rfl, (by show 2 ≤ sizeLine; decide), fun r hr' => ?_⟩
    have s1 := Same.new (.tup [.int l, .int h]) hr'
    refine ⟨r, rfl, ⟨_, SqT.of upd_same⟩, ?_⟩
    let part : Nat → Nat := fun i => if i = 0 then 0 else if i = 1 then cnt nm.length tl * 2 ^ (plc nm.length tl - p - 1) else cnt nm.length tl * 2 ^ (plc nm.length tl - p - 1) + cnt nm.length th * 2 ^ (plc nm.length th - p - 1)
    refine for_tup (K := K) (a := r) (xs := [.int l, .int h]) (fun i σ H' => ∃ (kk' : List (Key × V)) (x : Option V), σ = [some (.ref L.p), some (.int k), some (.ref kd), some (.int p), some (.int l), some (.int h), some (.int (part i : Nat)), x] ∧
        But [kd] H H' ∧ H' kd = some (.dK kk') ∧ MemoC nm.length ns kk' ∧ kk'.length ≤ kk.length + i * bd d ∧ H' r = some (.tup [.int l, .int h]))
      ⟨kk, none, rfl, But.of s1, s1 _ _ hkd, M, by omega, upd_same⟩ (fun i σ H' _ ⟨_, _, _, _, _, _, _, e⟩ => SqT.of e) ?_ ?_
    · rintro i x σ H' hx ⟨kk', x0, rfl, b, kd', M', len', er⟩
      have nkl : kd ≠ L.ln := ne_of hkd e1 (by intro z; cases z)
      have nkd : kd ≠ L.dn := ne_of hkd S.dn (by intro z; cases z)
      have S' : SheetAt a nm L H' ns := S.but b (b.fix1 (.dK hkd)) (by simp [nkl.symm]) (by simp [nkd.symm])
      obtain ⟨m, tm, ex, dm, hm, hp1, hpart⟩ : ∃ (m : Nat) (tm : DT), x = V.int m ∧ Den ns m tm ∧ p < plc nm.length tm ∧ nm.length + 1 ≤ plc nm.length tm + d ∧ part i + cnt nm.length tm * 2 ^ (plc nm.length tm - p - 1) = part (i + 1) := by
        match i, hx with
        | 0, hx => exact ⟨l, tl, (Option.some.inj hx).symm, d1, h1, by omega, by simp [part]⟩
        | 1, hx => exact ⟨h, th, (Option.some.inj hx).symm, d2, h2, by omega, by simp [part]⟩
        | i + 2, hx => simp at hx
      subst ex
      have hi2 : i < 2 := (List.getElem?_eq_some_iff.mp hx).1
      have lt' : kk'.length + bd d ≤ 2000 := by
        have : i * bd d ≤ 1 * bd d := Nat.mul_le_mul_right _ (by omega)
        omega
      refine ⟨_, rfl, _, rfl, L.p, L.dx, _, rfl, S'.ob, rfl, _, rfl, _, rfl, L, ns, m, kd, kk', tm, rfl, S', dm, kd', M', h6, hp1, lt', fun kk2 H2 len2 kd2 M2 b2 => ?_⟩
      have S2 : SheetAt a nm L H2 ns := S'.but b2 (b2.fix1 (.dK kd')) (by simp [nkl.symm]) (by simp [nkd.symm])
      have om := S.wf.den dm
      refine ⟨_, rfl, L.p, L.dx, _, rfl, S2.ob, rfl, _, rfl, L, ns, m, tm, rfl, S2, dm, _, rfl, _, _, rfl, rfl, _, _, rfl, rfl, _, _, rfl, rfl, ⟨by omega, ?_, pow_small (cnt_le om) h6⟩, _, _, rfl, rfl, ?_⟩
      · have := om.plc_le
        omega
      · have ee : (((plc nm.length tm : Nat) : Int) - (p : Int) - 1) = ((plc nm.length tm - p - 1 : Nat) : Int) := by omega
        have es : ((part i : Nat) : Int) + ((cnt nm.length tm : Nat) : Int) * 2 ^ ((((plc nm.length tm : Nat) : Int) - (p : Int) - 1)).toNat = ((part (i + 1) : Nat) : Int) := by
          rw [ee, cast_shl, ← hpart]
          omega
        have fx2 := b2.fix1 (.dK kd')
        refine ⟨kk2, some (.int m), ?_, b.trans b2, kd2, M2, ?_, fx2 _ _ er rfl⟩
        · show _ = [some (V.ref L.p), some (V.int k), some (V.ref kd), some (V.int p), some (V.int l), some (V.int h), some (V.int ((part (i + 1) : Nat) : Int)), some (V.int m)]
          rw [← es]
          rfl
        · rw [Nat.add_mul]
          omega
    · rintro σ H' ⟨kk', x0, rfl, b, kd', M', len', er⟩
      have hc : part 2 = cnt nm.length (.br p tl th) := by simp [part, cnt]
      have len2 : kk'.length ≤ kk.length + 2 * bd d := len'
      refine ⟨_, rfl, _, rfl, _, rfl, kd, _, rfl, DPut.k (k := Sum.inl (k : Int)) kd' (by rw [sizeLine_eq]; omega), ?_⟩
      obtain ⟨kk7, ekk⟩ : ∃ kk7, kk7 = putK kk' (Sum.inl (k : Int) : Key) (V.int (part 2 : Nat)) := ⟨_, rfl⟩
      obtain ⟨H7, eH7⟩ : ∃ H7 : Hp, H7 = upd H' kd (.dK kk7) := ⟨_, rfl⟩
      have kd7 : H7 kd = some (.dK kk7) := by rw [eH7]; exact upd_same
      have klen7 : kk7.length ≤ kk'.length + 1 := by rw [ekk]; exact length_putK _ _ _
      have e7 : valV kk7 (Sum.inl (k : Int) : Key) = some (V.int (part 2 : Nat)) := by rw [ekk, valV_put, if_pos rfl]
      have M7 : MemoC nm.length ns kk7 := fun x v e => by
        rw [ekk, valV_put] at e
        by_cases hx : (Sum.inl (x : Int) : Key) = Sum.inl (k : Int)
        · rw [if_pos hx] at e
          have : x = k := by have := Sum.inl.inj hx; omega
          subst this
          exact ⟨_, dk, by rw [← Option.some.inj e, hc]⟩
        · rw [if_neg hx] at e
          exact M' x v e
      have b7 : But [kd] H H7 := b.trans (by rw [eH7]; exact But.upd _ (by simp))
      have q7 := q kk7 H7 (by omega) kd7 M7 b7
      rw [← hc] at q7
      have z := DGet.k (k := Sum.inl (k : Int)) kd7
      rw [e7] at z
      subst eH7; subst ekk
      exact ⟨_, rfl, _, rfl, kd, _, rfl, z, q7⟩
theorem ct_none {f : Addr} {fd : FuncData} {k : Nat} : FnOk P w K mg base C8.CX0 k f fd pCounted (spCounted a nm 0) := by
  have no : ∀ vs H Q E, ¬ spCounted a nm 0 vs H Q E := fun vs H Q E h => by
    obtain ⟨L, ns, k, kd, kk, t, rfl, S, dk, hkd, M, h6, p1, _⟩ := h
    have := (S.wf.den dk).plc_le
    omega
  exact ⟨fun vs H Q E h => absurd h (no vs H Q E), fun A outer s H args us vs Q E _ _ _ _ h => absurd h (no vs H Q E)⟩
theorem ok_ct (g : G K mg a fs) : ∀ d : Nat, CalAt P w K mg base (1 + d) fs.fCounted (spCounted a nm d)
  | 0 => by
    obtain ⟨oc, od, kV, doc, pm, an, cdv, ct, osl, lk, hcd⟩ := g.rCounted.ex
    exact ⟨_, pCounted, ct_none, g.rCounted.kp, (fun_mk (st := sCounted) lk hcd g.rCounted.kp).binds (ps := pCounted) fun _ _ _ _ _ _ us hl => match us, hl with | [_, _, _], _ => rfl⟩
  | d + 1 => ct_step g (ok_ct g d)
theorem ok_ways (g : G K mg a fs) : CalAt P w K mg base 9 fs.fWays (spWays a nm) := by
  have CN : Met P w K mg base 1 a.sh "need" (spNeed a nm) [] := met_of (ok_need g) g.clS g.m_need_sh g.iNeed
  have CP : Met P w K mg base 1 a.sh "place" (spPlace a nm) [] := met_of (ok_place g) g.clS g.m_place_sh g.iPlace
  have CC : Met P w K mg base 8 a.sh "counted" (spCounted a nm 7) [] := met_of (ok_ct g 7) g.clS g.m_counted_sh g.iCounted
  refine ok_of g.rWays scWays (fun _ _ _ _ _ _ us hl => match us, hl with | [_, _], _ => rfl) (fun vs H Q E h => ?_) (fun cdv A outer s H vs Q E hr h => ?_)
  · obtain ⟨L, ns, k, t, rfl, _⟩ := h
    rfl
  obtain ⟨L, ns, k, t, rfl, S, dk, h6, q⟩ := h
  refine ⟨_, pss_one (ps_ret (pe_op op_shl (pe_mt CC hr (Nat.le_refl _) (pv 0) (pa_cons (pe_mt CN hr (by omega) (pv 0) (pa_cons (pv 1) pa_nil)) (pa_cons pe_dnewK pa_nil))) (pe_mt CP hr (by omega) (pv 0) (pa_cons (pv 1) pa_nil)))), ?_⟩
  have o := S.wf.den dk
  refine ⟨_, rfl, L.p, L.dx, _, rfl, S.ob, rfl, _, rfl, L.p, L.dx, _, rfl, S.ob, rfl, _, rfl, L, ns, k, rfl, S, dk.lt, fun kd hkd => ?_⟩
  have s1 := Same.new (.dK []) hkd
  have b7 : bd 7 = 63 := by decide
  refine ⟨L, ns, k, kd, [], t, rfl, S.same s1, dk, upd_same, fun x v e => (by cases e), h6, by omega, by rw [b7]; decide, fun kk' H' _ kd' _ b => ?_⟩
  have s2 : Same H H' := But.drop s1 b fun x hx => by rw [List.mem_singleton.mp hx]; exact hkd
  refine ⟨_, rfl, L.p, L.dx, _, rfl, s2 _ _ S.ob, rfl, _, rfl, L, ns, k, t, rfl, S.same s2, dk, _, _, rfl, rfl, ⟨by omega, by have := o.plc_le; omega, pow_small (cnt_le o) h6⟩, ?_⟩
  show Q (V.int (((cnt nm.length t : Nat) : Int) * 2 ^ ((plc nm.length t : Nat) : Int).toNat)) H'
  rw [cast_shl]
  exact q H' s2
/-- one more name in a row -/
theorem row_grow {nm : List Str} (nd : nm.Nodup) (acc : Nat → Bool) {i : Nat} {x : Str} (h : nm[i]? = some x) : putK (rowK (nm.take i) acc) (Sum.inr x : Key) (.bl (acc i)) = rowK (nm.take (i + 1)) acc := by
  have lt := (List.getElem?_eq_some_iff.mp h).1
  have no : x ∉ nm.take i := fun z => by
    obtain ⟨j, hj⟩ := List.mem_iff_getElem?.mp z
    have hj2 : j < i := by
      have := (List.getElem?_eq_some_iff.mp hj).1
      rw [List.length_take] at this; omega
    rw [List.getElem?_take_of_lt hj2] at hj
    exact absurd (nd_ix nd hj h) (by omega)
  rw [putK_new _ (rowF_none acc 0 _ x no), List.take_add_one, h]
  show _ = rowF acc 0 (nm.take i ++ [x])
  rw [rowF_snoc, List.length_take, Nat.zero_add, show min i nm.length = i by omega]
theorem names_at {nm : List Str} {i : Nat} {v : V} (h : (nm.map V.str)[i]? = some v) : ∃ x, nm[i]? = some x ∧ v = .str x := by
  rw [List.getElem?_map] at h
  cases e : nm[i]? with
  | none => rw [e] at h; cases h
  | some x => rw [e] at h; exact ⟨x, rfl, (Option.some.inj h).symm⟩
theorem ok_row (g : G K mg a fs) : CalAt P w K mg base 2 fs.fRow (spRow a nm) := by
  have CN : Met P w K mg base 1 a.sh "need" (spNeed a nm) [] := met_of (ok_need g) g.clS g.m_need_sh g.iNeed
  refine ok_of g.rRow scRow (fun _ _ _ _ _ _ us hl => match us, hl with | [_, _], _ => rfl) (fun vs H Q E h => ?_) (fun cdv A outer s H vs Q E hr h => ?_)
  · obtain ⟨L, ns, k, t, rfl, _⟩ := h
    rfl
  obtain ⟨L, ns, k, t, rfl, S, dk, nd, h6, q0, q1⟩ := h
  have hu := hu_of hr
  refine ⟨_, pss_cons (ps_if (pt_cmpR op_eq (pe_mt CN hr (Nat.le_refl _) (pv 0) (pa_cons (pv 1) pa_nil)) pe_int (nomark _)) (pss_one (ps_ret pe_non)) pss_nil)
    (pss_cons (ps_set (i := 2) scRow.nd rfl (.inl rfl) pe_dnewK)
    (pss_cons (ps_for PassesOwn.never rfl (pi_tup (pe_fld (pv 0) rfl)) (pg_name (i := 3) scRow.nd rfl (.inl rfl)) (pss_one (ps_dput hu (pv 2) (pv 3) pe_bl rfl)))
    (pss_cons (ps_while PassesOwn.never (pt_cmpR op_ne (pv 1) pe_int (nomark _))
      (pss_cons (ps_asg (pe_ix ix_list (pe_fld (pv 0) rfl) (pe_op op_sub (pv 1) pe_int) (fun _ _ => rfl)) (pg_tup rfl (pgs_cons (pg_name (i := 4) scRow.nd rfl (.inl rfl)) (pgs_cons (pg_name (i := 5) scRow.nd rfl (.inl rfl)) (pgs_cons (pg_name (i := 6) scRow.nd rfl (.inl rfl)) pgs_nil)))))
      (pss_cons (ps_dput hu (pv 2) (pe_ix ix_tup (pe_fld (pv 0) rfl) (pv 4) (fun _ _ => rfl)) (pe_cmpR op_eq (pv 5) pe_int (nomark _)) rfl)
      (pss_one (ps_set (i := 1) scRow.nd rfl (.inl rfl) (pe_ifExp (pt_cmpR op_eq (pv 5) pe_int (nomark _)) (pv 6) (pv 5)))))))
    (pss_one (ps_ret (pv 2)))))), ?_⟩
  refine ⟨_, rfl, L.p, L.dx, _, rfl, S.ob, rfl, _, rfl, L, ns, k, rfl, S, dk.lt, rfl, _, rfl, ?_⟩
  refine ite2 (fun c => ?_) (fun c => ?_)
  · have e : k = 0 := by have := V.int.inj (of_decide_eq_true c); omega
    exact q0 e
  have k0 : k ≠ 0 := fun z => c (decide_eq_true (by rw [z]; rfl))
  intro p hp
  have s1 := Same.new (.dK []) hp
  refine ⟨_, rfl, L.p, a.sh, L.dx, _, _, rfl, s1 _ _ S.ob, g.clS, g.n_names_sh, rfl, L.tn, rfl, ⟨_, (S.tn.mono (.of s1)).sq⟩, ?_⟩
  refine for_tup (K := K) (a := L.tn) (xs := nm.map V.str) (fun i σ H' => ∃ x : Option V, σ = [some (.ref L.p), some (.int k), some (.ref p), x, none, none, none] ∧ Same H H' ∧ H' p = some (.dK (rowK (nm.take i) (fun _ => false))))
    ⟨none, rfl, s1, upd_same⟩ (fun i σ H' _ ⟨_, _, s2, _⟩ => (S.tn.mono (.of s2)).sq) ?_ ?_
  · rintro i x σ H' hx ⟨x0, rfl, s2, ep⟩
    obtain ⟨y, hy, rfl⟩ := names_at hx
    have ly : (rowK (nm.take i) (fun _ => false)).length < sizeLine := by rw [rowF_length, List.length_take, sizeLine_eq]; omega
    refine ⟨_, rfl, _, rfl, p, _, rfl, DPut.k (k := Sum.inr y) ep ly, ?_⟩
    have e := row_grow nd (fun _ => false) hy
    refine ⟨some (.str y), rfl, fun b o z => ?_, ?_⟩
    · rw [upd_ne (ne_of_none z hp)]; exact s2 b o z
    · rw [upd_same]
      exact congrArg (fun z => some (HO.dK z)) e
  · rintro σ H' ⟨x0, rfl, s2, ep⟩
    rw [List.length_map, List.take_length] at ep
    -- while node != 1
    refine ⟨fun m σ H2 => ∃ (k2 : Nat) (t2 : DT) (acc : Nat → Bool) (v4 v5 v6 : Option V), σ = [some (.ref L.p), some (.int k2), some (.ref p), x0, v4, v5, v6] ∧ Same H H2 ∧ H2 p = some (.dK (rowK nm acc)) ∧ Den ns k2 t2 ∧ k2 ≠ 0 ∧ rw_ acc t2 = rw_ (fun _ => false) t ∧ m + plc nm.length t2 = nm.length,
      ⟨nm.length - plc nm.length t, k, t, _, none, none, none, rfl, s2, ep, dk, k0, rfl, by have := (S.wf.den dk).plc_le; omega⟩, ?_⟩
    rintro m σ H2 ⟨k2, t2, acc, v4, v5, v6, rfl, s3, ep2, dk2, k20, erw, hm⟩
    refine ⟨_, rfl, rfl, _, rfl, ?_⟩
    refine ite2 (fun c2 => ?_) (fun c2 => ?_)
    · have k21 : k2 ≠ 1 := fun z => by
        subst z
        exact absurd c2 (by decide)
      have S3 : SheetAt a nm L H2 ns := S.same s3
      have ot := S.wf.den dk2
      obtain ⟨as, pp, l, h, tl, th, aT, e1, N, e2, e3, rfl, d1, d2⟩ := S3.get dk2 (by omega)
      obtain ⟨hpp, h1, h2, h3, ol, oh⟩ := id ot
      have hx : nm[pp]? = some nm[pp] := List.getElem?_eq_getElem hpp
      have le1 := ol.plc_le
      have le2 := oh.plc_le
      have hm' : m + pp = nm.length := hm
      refine ⟨fun σ' H' => ∃ m', m' < m ∧ ∃ (k2 : Nat) (t2 : DT) (acc : Nat → Bool) (v4 v5 v6 : Option V), σ' = [some (.ref L.p), some (.int k2), some (.ref p), x0, v4, v5, v6] ∧ Same H H' ∧ H' p = some (.dK (rowK nm acc)) ∧ Den ns k2 t2 ∧ k2 ≠ 0 ∧ rw_ acc t2 = rw_ (fun _ => false) t ∧ m' + plc nm.length t2 = nm.length,
        fun _ _ z => z, ?_⟩
      refine ⟨_, rfl, L.p, a.sh, L.dx, _, _, rfl, S3.ob, g.clS, g.n_nodes_sh, rfl, _, rfl, _, _, rfl, rfl, L.ln, _, _, _, rfl, rfl, SqL.of e1, e2, aT, _, rfl, SqT.of e3, rfl, _, _, rfl, _, _, rfl, _, _, rfl, rfl, ?_⟩
      have lr : (rowK nm acc).length < sizeLine := by rw [rowF_length, sizeLine_eq]; omega
      refine ⟨_, rfl, rfl, _, rfl, _, rfl, L.p, a.sh, L.dx, _, _, rfl, S3.ob, g.clS, g.n_names_sh, rfl, _, rfl, L.tn, _, _, _, rfl, rfl, S3.tn.sq, atI_nat (j := pp) (by rw [List.getElem?_map, hx]; rfl), p, _, rfl, DPut.k (k := Sum.inr nm[pp]) ep2 lr, ?_⟩
      have eput := rowF_put acc (decide (V.int (l : Int) = V.int 0)) 0 nm nd pp nm[pp] hx
      rw [Nat.zero_add] at eput
      have s4 : Same H (upd H2 p (.dK (putK (rowK nm acc) (Sum.inr nm[pp] : Key) (V.bl (decide (V.int (l : Int) = V.int 0)))))) := fun b o z => by
        rw [upd_ne (ne_of_none z hp)]; exact s3 b o z
      refine ⟨_, rfl, rfl, _, rfl, ?_⟩
      refine ite2 (fun c3 => ?_) (fun c3 => ?_)
      · have l0 : l = 0 := by have z : (l : Int) = 0 := V.int.inj (of_decide_eq_true c3); omega
        subst l0
        have etl : tl = DF := d1.uniq .z
        have hne : h ≠ 0 := fun z => by
          subst z
          exact h3 ⟨etl, d2.uniq .z⟩
        have lt1 : nm.length - plc nm.length th < m := by omega
        refine ⟨_, rfl, nm.length - plc nm.length th, lt1, h, th, st acc pp true, _, _, _, rfl, s4, ?_, d2, hne, ?_, by omega⟩
        · rw [upd_same]
          exact congrArg (fun z => some (HO.dK z)) eput
        · rw [← erw]
          show _ = if tl = DF then rw_ (st acc pp true) th else rw_ (st acc pp false) tl
          rw [if_pos etl]
      · have l0 : l ≠ 0 := fun z => c3 (decide_eq_true (by rw [z]; rfl))
        have etl : tl ≠ DF := fun z => by
          subst z
          exact l0 d1.lf_inv
        have lt1 : nm.length - plc nm.length tl < m := by omega
        refine ⟨_, rfl, nm.length - plc nm.length tl, lt1, l, tl, st acc pp false, _, _, _, rfl, s4, ?_, d1, l0, ?_, by omega⟩
        · rw [upd_same]
          have ef : decide (V.int (l : Int) = V.int 0) = false := decide_eq_false fun z => c3 (decide_eq_true z)
          rw [ef] at eput
          rw [ef]
          exact congrArg (fun z => some (HO.dK z)) eput
        · rw [← erw]
          show _ = if tl = DF then rw_ (st acc pp true) th else rw_ (st acc pp false) tl
          rw [if_neg etl]
    · have k21 : k2 = 1 := by
        have : (k2 : Int) = 1 := by
          refine V.int.inj ?_
          have : decide (V.int (k2 : Int) = V.int 1) = true := by simpa using c2
          exact of_decide_eq_true this
        omega
      subst k21
      have e := dk2.small (by decide)
      subst e
      have e2 : acc = rw_ (fun _ => false) t := erw
      rw [e2] at ep2
      exact ⟨_, rfl, q1 k0 p H2 s3 hp ep2⟩
end
end K34
set_option Elab.async false
set_option linter.all false
set_option maxRecDepth 100000
set_option maxHeartbeats 4000000
/-! Names: is_word, is_name. -/
namespace K34
open PySem PySem.Spec PyProof.Rows L2 C8
/-- over a text, sign by sign -/
theorem for_text {x : Str} {g : TG} {tb : TS} {D : Ends} {σ : L2.St} {H : Hp} (Pv : Nat → L2.St → Hp → Prop) (h0 : Pv 0 σ H)
    (hs : ∀ i c σ H, x.cps[i]? = some c → Pv i σ H → g (.str ⟨#[c]⟩) σ H fun σ2 H2 => tb { D with nx := Pv (i + 1), ct := Pv (i + 1), bk := D.nx } σ2 H2) (hd : ∀ σ H, Pv x.cps.size σ H → D.nx σ H) :
    ∃ W : Nat → Nat → L2.St → Hp → Prop, (∃ m, W 0 m σ H) ∧ ∀ i m σ H, W i m σ H →
      ((Its x).stop i H ∧ D.nx σ H) ∨ ((Its x).go i H ∧ ∃ N : L2.St → Hp → Prop, (∀ σ' H', N σ' H' → ∃ m', m' < m ∧ W (i + 1) m' σ' H') ∧ ∀ v H', (Its x).yld i H v H' → g v σ H' fun σ2 H2 => tb { D with nx := N, ct := N, bk := D.nx } σ2 H2) := by
  refine ⟨fun i m σ H => m = x.cps.size - i ∧ i ≤ x.cps.size ∧ Pv i σ H, ⟨_, rfl, Nat.zero_le _, h0⟩, ?_⟩
  rintro i m σ H ⟨rfl, hi, p⟩
  by_cases hlt : i < x.cps.size
  · refine .inr ⟨hlt, Pv (i + 1), fun σ2 H2 p2 => ⟨x.cps.size - (i + 1), by omega, rfl, hlt, p2⟩, fun v H2 y => ?_⟩
    obtain ⟨rfl, c, hc, rfl⟩ := y
    exact hs i c σ H2 hc p
  · have e : i = x.cps.size := by omega
    subst e
    exact .inl ⟨Nat.le_refl _, hd σ H p⟩
def keptL : List Str := ["on", "off", "and", "or", "not", "set", "reset", "timer", "counter", "inputs", "outputs"]
structure Good (x : Str) : Prop where
  small : ∀ c ∈ x.cps.toList, 97 ≤ c ∧ c ≤ 122
  pos : 0 < x.length
  len : x.length ≤ 8
  kept : x ∉ keptL
theorem in_signs {c : Nat} (h : 97 ≤ c ∧ c ≤ 122) : c ∈ (("abcdefghijklmnopqrstuvwxyz" : Str)).cps.toList := by
  have e : (("abcdefghijklmnopqrstuvwxyz" : Str)).cps.toList = (List.range 26).map (· + 97) := by decide +kernel
  rw [e]
  exact List.mem_map.mpr ⟨c - 97, List.mem_range.mpr (by omega), by omega⟩
def spIsWord : Sp := fun vs H Q _ => ∃ x : Str, vs = [.str x] ∧ (∀ c ∈ x.cps.toList, 97 ≤ c ∧ c ≤ 122) ∧ 0 < x.length ∧ Q (.bl true) H
def spIsName : Sp := fun vs H Q _ => ∃ x : Str, vs = [.str x] ∧ Good x ∧ Q (.bl true) H
section
variable {P : Program} {w : World} {K : PySem.W.Frag} {mg : Str → Option Value} {base : Heap} {a : Ad} {fs : Fs}
theorem ok_isWord (g : G K mg a fs) : CalAt P w K mg base 1 fs.fIsWord spIsWord := by
  refine ok_of g.rIsWord scIsWord (fun _ _ _ _ _ _ us hl => match us, hl with | [_], _ => rfl) (fun vs H Q E h => ?_) (fun cdv A outer s H vs Q E hr h => ?_)
  · obtain ⟨x, rfl, _⟩ := h
    rfl
  obtain ⟨x, rfl, sm, pos, q⟩ := h
  obtain ⟨tm, hm⟩ := g.vSIGNS
  refine ⟨_, pss_cons (ps_for PassesOwn.never rfl (pi_str (pv 0)) (pg_name (i := 1) scIsWord.nd rfl (.inl rfl))
      (pss_one (ps_if (pt_cmpR op_notIn_sign (pv 1) (pe_glob (v := .str "abcdefghijklmnopqrstuvwxyz") rfl (g.gl _ _ hm) ⟨tm, rfl⟩) (by rfl)) (pss_one (ps_ret pe_bl)) pss_nil)))
    (pss_one (ps_ret (pe_cmpR op_ne (pv 0) pe_str (nomark _)))), ?_⟩
  refine ⟨_, rfl, x, rfl, for_text (fun i σ H' => ∃ v : Option V, σ = [some (.str x), v] ∧ H' = H) ⟨none, rfl, rfl⟩ ?_ ?_⟩
  · rintro i c σ H' hc ⟨v, rfl, rfl⟩
    have hm : c ∈ x.cps.toList := by
      rw [← Array.getElem?_toList] at hc
      exact List.mem_of_getElem? hc
    refine ⟨_, rfl, c, _, rfl, rfl, _, rfl, ?_⟩
    rw [decide_eq_true (in_signs (sm c hm))]
    exact iteF ⟨_, rfl, rfl⟩
  · rintro σ H' ⟨v, rfl, rfl⟩
    refine ⟨_, rfl, rfl, ?_⟩
    have ne : ¬ (V.str x = V.str "") := fun z => by
      have e : x = "" := V.str.inj z
      subst e
      exact absurd pos (by decide)
    rw [decide_eq_false ne]
    exact q
theorem flat_keys : ∀ ys : List Str, (ys.map V.str).all flatV = true := flat_strs
theorem not_kept {x : Str} {ys : List Str} (h : x ∉ ys) : inV (.str x) (ys.map V.str) = false := by
  unfold inV
  rw [List.any_eq_false]
  intro v hv
  obtain ⟨y, hy, rfl⟩ := List.mem_map.mp hv
  intro e
  have : y = x := by simpa [eqV] using e
  exact h (this ▸ hy)
theorem ok_isName (g : G K mg a fs) : CalAt P w K mg base 2 fs.fIsName spIsName := by
  have CW : Cal P w K mg base 1 "is_word" spIsWord [] := cal_of (ok_isWord g) (g.gl _ _ g.gIsWord)
  refine ok_of g.rIsName scIsName (fun _ _ _ _ _ _ us hl => match us, hl with | [_], _ => rfl) (fun vs H Q E h => ?_) (fun cdv A outer s H vs Q E hr h => ?_)
  · obtain ⟨x, rfl, _⟩ := h
    rfl
  obtain ⟨x, rfl, hg, q⟩ := h
  obtain ⟨tm, hm⟩ := g.vMOST_SIGNS
  obtain ⟨pk, hk, od, t1, t2, t3, t4, t5, t6, t7, t8, t9, t10, t11, n, sl, lk⟩ := g.vKEPT
  have sq : SqT K H pk (keptL.map V.str) := .inr ⟨_, _, _, lk, rfl, rfl, (by show 11 ≤ sizeLine; decide),
    .cons ⟨_, rfl⟩ (.cons ⟨_, rfl⟩ (.cons ⟨_, rfl⟩ (.cons ⟨_, rfl⟩ (.cons ⟨_, rfl⟩ (.cons ⟨_, rfl⟩ (.cons ⟨_, rfl⟩ (.cons ⟨_, rfl⟩ (.cons ⟨_, rfl⟩ (.cons ⟨_, rfl⟩ (.cons ⟨_, rfl⟩ .nil))))))))))⟩
  refine ⟨_, pss_one (ps_ret (pe_and (pe_c CW hr (Nat.le_refl _) rfl (pa_cons (pv 0) pa_nil))
    (pe_and (pe_cmpR op_le (pe_callB call_len_str (by rfl) (g.no _ g.z_len) PySem.boot_len (pa_cons (pv 0) pa_nil)) (pe_glob (v := .int 8) rfl (g.gl _ _ hm) ⟨tm, rfl⟩) (nomark _))
    (pe_one (pe_cmpR op_notIn_seq (pv 0) (pe_glob (v := .ref pk) rfl (g.gl _ _ hk) rfl) (by rfl)))))), ?_⟩
  have l8 := hg.len
  refine ⟨_, rfl, x, rfl, hg.small, hg.pos, _, rfl, iteT ?_⟩
  refine ⟨_, rfl, x, rfl, (by rw [sizeLine_eq]; omega), _, _, rfl, rfl, _, rfl, ?_⟩
  rw [decide_eq_true (show (x.length : Int) ≤ 8 by omega)]
  refine iteT ⟨_, rfl, pk, _, rfl, .inr sq, rfl, flat_keys _, ?_⟩
  rw [not_kept hg.kept]
  exact q
end
end K34
set_option Elab.async false
set_option linter.all false
set_option maxRecDepth 100000
set_option maxHeartbeats 4000000
/-! Parts: inner, size, depth, gather, contacts, bounded. -/
namespace K34
open PySem PySem.Spec PyProof.Rows L2 C8
def kdOf : Tr → Kd
  | .fx _ => .fx
  | .ct _ => .ct
  | .nt _ => .nt
  | .gr k _ => gk k
def kids : Tr → List Tr
  | .fx _ => []
  | .ct _ => []
  | .nt t => [t]
  | .gr _ ts => ts
theorem sz_kids : ∀ t : Tr, sz t = szs (kids t) + 1
  | .fx _ => rfl
  | .ct _ => rfl
  | .nt t => by simp [sz, kids, szs]
  | .gr _ ts => by simp [sz, kids]
theorem dp_kids : ∀ t : Tr, dp t = dps (kids t) + 1
  | .fx _ => rfl
  | .ct _ => rfl
  | .nt t => by simp [dp, kids, dps]
  | .gr _ ts => by simp [dp, kids]
def keysL : List Str := ["value", "name", "part", "parts"]
theorem look1 {k : Str} {v : V} {m : Str} (hk : k ∈ keysL) (hm : m ∉ keysL) : List.lookup m [(k, v)] = none := by
  have ne : m ≠ k := fun z => hm (z ▸ hk)
  have hb : (m == k) = false := beq_eq_false_iff_ne.mpr ne
  simp only [List.lookup, hb]
theorem PartAt.obj {a : Ad} {nm : List Str} {H : Hp} {v : V} {t : Tr} (h : PartAt a nm H v t) : ∃ p dx fl, v = .ref p ∧ H p = some (.ins (a.at_ (kdOf t)) dx fl) ∧ fixO (.ins (a.at_ (kdOf t)) dx fl) = true ∧ ∀ m : Str, m ∉ keysL → fl.lookup m = none := by
  cases h with
  | fx e => exact ⟨_, _, _, rfl, e, rfl, fun m hm => look1 (by simp [keysL]) hm⟩
  | ct e hi => exact ⟨_, _, _, rfl, e, rfl, fun m hm => look1 (by simp [keysL]) hm⟩
  | nt e ht => exact ⟨_, _, _, rfl, e, rfl, fun m hm => look1 (by simp [keysL]) hm⟩
  | gr e eq ht => exact ⟨_, _, _, rfl, e, rfl, fun m hm => look1 (by simp [keysL]) hm⟩
/-- the parts right in a part -/
def spInner (a : Ad) (nm : List Str) (k : Kd) : Sp := fun vs H Q _ => ∃ (v : V) (t : Tr), vs = [v] ∧ PartAt a nm H v t ∧ kdOf t = k ∧ ∀ (q : Addr) (ws : List V) (H' : Hp), Same H H' → H' q = some (.tup ws) → PartsAt a nm H' ws (kids t) → Q (.ref q) H'
def spSize (a : Ad) (nm : List Str) (d : Nat) : Sp := fun vs H Q _ => ∃ (v : V) (t : Tr), vs = [v] ∧ PartAt a nm H v t ∧ dp t ≤ d ∧ sz t ≤ 60 ∧ ∀ H', Same H H' → Q (.int (sz t : Nat)) H'
def spDepth (a : Ad) (nm : List Str) (d : Nat) : Sp := fun vs H Q _ => ∃ (v : V) (t : Tr), vs = [v] ∧ PartAt a nm H v t ∧ dp t ≤ d ∧ sz t ≤ 60 ∧ ∀ H', Same H H' → Q (.int (dp t : Nat)) H'
/-- names that are the sheet's -/
def Known (nm : List Str) (kk : List (Key × V)) : Prop := ∀ p ∈ kk, ∃ x, x ∈ nm ∧ p.1 = Sum.inr x
def spGather (a : Ad) (nm : List Str) (d : Nat) (c : Bool) : Sp := fun vs H Q _ => ∃ (v : V) (t : Tr) (fd : Addr) (kk : List (Key × V)), vs = [v, .ref fd] ∧ PartAt a nm H v t ∧ (kdOf t).isCt = c ∧ dp t ≤ d ∧ H fd = some (.dK kk) ∧ Known nm kk ∧ kk.length + sz t ≤ 5000 ∧
  ∀ (kk' : List (Key × V)) (H' : Hp), But [fd] H H' → H' fd = some (.dK kk') → Known nm kk' → kk'.length ≤ kk.length + sz t → Q .non H'
def spContacts (a : Ad) (nm : List Str) : Sp := fun vs H Q _ => ∃ (v : V) (t : Tr), vs = [v] ∧ PartAt a nm H v t ∧ dp t ≤ 20 ∧ sz t ≤ 60 ∧ ∀ (q : Addr) (xs : List Str) (H' : Hp), Same H H' → H' q = some (.tup (xs.map V.str)) → (∀ x ∈ xs, x ∈ nm) → Q (.ref q) H'
def spBounded (a : Ad) (nm : List Str) : Sp := fun vs H Q _ => ∃ (v : V) (t : Tr), vs = [v] ∧ PartAt a nm H v t ∧ dp t ≤ 20 ∧ sz t ≤ 60 ∧ ∀ H', Same H H' → Q .non H'
section
variable {P : Program} {w : World} {K : PySem.W.Frag} {mg : Str → Option Value} {base : Heap} {a : Ad} {fs : Fs} {nm : List Str}
theorem ok_pInner (g : G K mg a fs) (k : Kd) (hk : k = .fx ∨ k = .ct) : CalAt P w K mg base 1 fs.fPInner (spInner a nm k) := by
  refine ok_of g.rPInner scPInner (fun _ _ _ _ _ _ us hl => match us, hl with | [_], _ => rfl) (fun vs H Q E h => ?_) (fun cdv A outer s H vs Q E hr h => ?_)
  · obtain ⟨v, t, rfl, _⟩ := h
    rfl
  obtain ⟨v, t, rfl, p, ek, q⟩ := h
  refine ⟨_, pss_one (ps_ret (pe_tup pa_nil)), (by show 0 ≤ sizeLine; decide), fun r hr' => q r [] _ (Same.new _ hr') upd_same ?_⟩
  have e : kids t = [] := by
    subst ek
    cases t with
    | fx _ => rfl
    | ct _ => rfl
    | nt _ => rcases hk with z | z <;> cases z
    | gr b _ => cases b <;> rcases hk with z | z <;> cases z
  rw [e]
  exact .nil
theorem ok_tInner (g : G K mg a fs) : CalAt P w K mg base 1 fs.fTInner (spInner a nm .nt) := by
  refine ok_of g.rTInner scTInner (fun _ _ _ _ _ _ us hl => match us, hl with | [_], _ => rfl) (fun vs H Q E h => ?_) (fun cdv A outer s H vs Q E hr h => ?_)
  · obtain ⟨v, t, rfl, _⟩ := h
    rfl
  obtain ⟨v, t, rfl, p, ek, q⟩ := h
  refine ⟨_, pss_one (ps_ret (pe_tup (pa_cons (pe_fld (pv 0) rfl) pa_nil))), ?_⟩
  cases p with
  | fx e => cases ek
  | ct e hi => cases ek
  | @nt p dx v t e ht =>
    refine ⟨_, rfl, p, _, dx, _, _, rfl, e, g.cl .nt, g.n_part_nt, rfl, (by show 1 ≤ sizeLine; decide), fun r hr' => ?_⟩
    have s1 := Same.new (.tup [v]) hr'
    exact q r [v] _ s1 upd_same (.cons (ht.mono (.of s1)) .nil)
  | @gr p dx q k vs ts e eq ht => cases k <;> cases ek
theorem ok_gInner (g : G K mg a fs) (k : Bool) : CalAt P w K mg base 1 fs.fGInner (spInner a nm (gk k)) := by
  refine ok_of g.rGInner scGInner (fun _ _ _ _ _ _ us hl => match us, hl with | [_], _ => rfl) (fun vs H Q E h => ?_) (fun cdv A outer s H vs Q E hr h => ?_)
  · obtain ⟨v, t, rfl, _⟩ := h
    rfl
  obtain ⟨v, t, rfl, p, ek, q⟩ := h
  refine ⟨_, pss_one (ps_ret (pe_fld (pv 0) rfl)), ?_⟩
  cases p with
  | fx e => cases k <;> cases ek
  | ct e hi => cases k <;> cases ek
  | nt e ht => cases k <;> cases ek
  | @gr p dx r k' vs ts e eq ht =>
    have np : NoAttr K (a.at_ (gk k')) "parts" := by
      cases k' with
      | true => exact g.n_parts_se
      | false => exact g.n_parts_br
    exact ⟨_, rfl, p, _, dx, _, _, rfl, e, g.cl _, np, rfl, q r vs H (Same.refl H) eq ht⟩
theorem met_inner (g : G K mg a fs) : ∀ k, Met P w K mg base 1 (a.at_ k) "inner" (spInner a nm k) []
  | .fx => met_of (ok_pInner g .fx (.inl rfl)) (g.cl .fx) g.m_inner_fx g.iPInner
  | .ct => met_of (ok_pInner g .ct (.inr rfl)) (g.cl .ct) g.m_inner_ct g.iPInner
  | .nt => met_of (ok_tInner g) (g.cl .nt) g.m_inner_nt g.iTInner
  | .se => met_of (ok_gInner g true) (g.cl .se) g.m_inner_se g.iGInner
  | .br => met_of (ok_gInner g false) (g.cl .br) g.m_inner_br g.iGInner
theorem met_size (g : G K mg a fs) {j : Nat} {sp : Sp} (C : CalAt P w K mg base j fs.fSize sp) : ∀ k, Met P w K mg base j (a.at_ k) "size" sp []
  | .fx => met_of C (g.cl .fx) g.m_size_fx g.iSize
  | .ct => met_of C (g.cl .ct) g.m_size_ct g.iSize
  | .nt => met_of C (g.cl .nt) g.m_size_nt g.iSize
  | .se => met_of C (g.cl .se) g.m_size_se g.iSize
  | .br => met_of C (g.cl .br) g.m_size_br g.iSize
theorem met_depth (g : G K mg a fs) {j : Nat} {sp : Sp} (C : CalAt P w K mg base j fs.fDepth sp) : ∀ k, Met P w K mg base j (a.at_ k) "depth" sp []
  | .fx => met_of C (g.cl .fx) g.m_depth_fx g.iDepth
  | .ct => met_of C (g.cl .ct) g.m_depth_ct g.iDepth
  | .nt => met_of C (g.cl .nt) g.m_depth_nt g.iDepth
  | .se => met_of C (g.cl .se) g.m_depth_se g.iDepth
  | .br => met_of C (g.cl .br) g.m_depth_br g.iDepth
theorem met_contacts (g : G K mg a fs) {j : Nat} {sp : Sp} (C : CalAt P w K mg base j fs.fContacts sp) : ∀ k, Met P w K mg base j (a.at_ k) "contacts" sp []
  | .fx => met_of C (g.cl .fx) g.m_contacts_fx g.iContacts
  | .ct => met_of C (g.cl .ct) g.m_contacts_ct g.iContacts
  | .nt => met_of C (g.cl .nt) g.m_contacts_nt g.iContacts
  | .se => met_of C (g.cl .se) g.m_contacts_se g.iContacts
  | .br => met_of C (g.cl .br) g.m_contacts_br g.iContacts
theorem met_bounded (g : G K mg a fs) {j : Nat} {sp : Sp} (C : CalAt P w K mg base j fs.fBounded sp) : ∀ k, Met P w K mg base j (a.at_ k) "bounded" sp []
  | .fx => met_of C (g.cl .fx) g.m_bounded_fx g.iBounded
  | .ct => met_of C (g.cl .ct) g.m_bounded_ct g.iBounded
  | .nt => met_of C (g.cl .nt) g.m_bounded_nt g.iBounded
  | .se => met_of C (g.cl .se) g.m_bounded_se g.iBounded
  | .br => met_of C (g.cl .br) g.m_bounded_br g.iBounded
theorem met_gather (g : G K mg a fs) {j : Nat} {sp : Bool → Sp} (C1 : CalAt P w K mg base j fs.fPGather (sp false)) (C2 : CalAt P w K mg base j fs.fCGather (sp true)) : ∀ k : Kd, Met P w K mg base j (a.at_ k) "gather" (sp k.isCt) []
  | .fx => met_of C1 (g.cl .fx) g.m_gather_fx g.iPGather
  | .ct => met_of C2 (g.cl .ct) g.m_gather_ct g.iCGather
  | .nt => met_of C1 (g.cl .nt) g.m_gather_nt g.iPGather
  | .se => met_of C1 (g.cl .se) g.m_gather_se g.iPGather
  | .br => met_of C1 (g.cl .br) g.m_gather_br g.iPGather
/-- sizes, depths of parts, as ints -/
def szL (ts : List Tr) : List Int := ts.map fun t => ((sz t : Nat) : Int)
def dpL (ts : List Tr) : List Int := ts.map fun t => ((dp t : Nat) : Int)
theorem szL_sum : ∀ ts : List Tr, (szL ts).sum = ((szs ts : Nat) : Int)
  | [] => rfl
  | t :: r => by
    have := szL_sum r
    show ((((sz t : Nat) : Int)) :: szL r).sum = _
    rw [List.sum_cons, this]
    simp only [szs]
    omega
theorem dpL_max : ∀ {ts : List Tr} {m : Int}, m ∈ (0 : Int) :: dpL ts → (∀ y ∈ (0 : Int) :: dpL ts, y ≤ m) → m = ((dps ts : Nat) : Int)
  | [], m, h, _ => by
    have e : m = 0 := by simpa [dpL] using h
    rw [e]; rfl
  | t :: r, m, h, hm => by
    have h0 := hm 0 List.mem_cons_self
    have ht := hm ((dp t : Nat) : Int) (by simp [dpL])
    by_cases hr : m ∈ (0 : Int) :: dpL r
    · have e := dpL_max hr fun y hy => hm y (by
        rcases List.mem_cons.mp hy with z | z
        · rw [z]; exact List.mem_cons_self
        · exact List.mem_cons_of_mem _ (List.mem_cons_of_mem _ z))
      simp only [dps]; omega
    · have e : m = ((dp t : Nat) : Int) := by
        rcases List.mem_cons.mp h with z | z
        · exact absurd (by rw [z]; exact List.mem_cons_self) hr
        · rcases List.mem_cons.mp (show m ∈ ((dp t : Nat) : Int) :: dpL r from z) with z | z
          · exact z
          · exact absurd (List.mem_cons_of_mem _ z) hr
      have le : ∀ (ts : List Tr), (∀ y ∈ dpL ts, y ≤ m) → ((dps ts : Nat) : Int) ≤ m := by
        intro ts
        induction ts with
        | nil => intro _; exact h0
        | cons u us ih =>
          intro hh
          have a1 := hh ((dp u : Nat) : Int) (by simp [dpL])
          have a2 := ih fun y hy => hh y (List.mem_cons_of_mem _ hy)
          simp only [dps]; omega
      have := le r fun y hy => hm y (List.mem_cons_of_mem _ (List.mem_cons_of_mem _ hy))
      simp only [dps]; omega
theorem size_step (g : G K mg a fs) {d : Nat} (C : CalAt P w K mg base (1 + d) fs.fSize (spSize a nm d)) : CalAt P w K mg base (1 + d + 1) fs.fSize (spSize a nm (d + 1)) := by
  have CI := met_inner (P := P) (w := w) (base := base) (nm := nm) g
  have CS := met_size g C
  refine ok_of g.rSize scSize (fun _ _ _ _ _ _ us hl => match us, hl with | [_], _ => rfl) (fun vs H Q E h => ?_) (fun cdv A outer s H vs Q E hr h => ?_)
  · obtain ⟨v, t, rfl, _⟩ := h
    rfl
  obtain ⟨v, t, rfl, p, hd, hs, q⟩ := h
  refine ⟨_, pss_one (ps_ret (pe_op op_add pe_int (pe_callB (cr_sum rfl) (by rfl) (g.no _ g.z_sum) (by decide +kernel) (pa_cons
    (pe_lc (own := [("part", 1)]) (g := gName 1) rfl scSize.nd (pi_tup (PE.any fun k => pe_mt0 (CI k) hr (by omega) (pv 0))) (blkOk_by (own := [("part", 1)]) (N := nSize) (sc := defScope sSize) (by decide +kernel))
      (fun _ _ _ _ _ => pg_name (i := 1) scSize.nd rfl (Or.inl rfl)) (fun _ _ _ _ _ => pts_nil) (fun _ _ _ _ _ => PE.any fun k => pe_mt0 (CS k) hr (Nat.le_refl _) (pv 1))) pa_nil)))), ?_⟩
  obtain ⟨x, dx, fl, rfl, ex, fx, nl⟩ := p.obj
  refine ⟨kdOf t, _, rfl, x, dx, fl, rfl, ex, nl _ (by decide +kernel), _, t, rfl, p, rfl, fun r ws H1 s1 er ps => ?_⟩
  refine ⟨r, rfl, ⟨_, SqT.of er⟩, fun D hD => ?_⟩
  refine lc_tup (K := K) (a := r) (xs := ws) (fun i H' => Same H1 H' ∧ H' D = some (.lst ((szL ((kids t).take i)).map V.int))) ⟨Same.new _ hD, upd_same⟩ (fun i H' _ ⟨s2, _⟩ => SqT.of (s2 _ _ er)) ?_ ?_
  · rintro i v H' hv ⟨s2, eD⟩
    obtain ⟨u, hu, pu⟩ := ps.get hv
    have pu' := pu.mono (.of s2)
    obtain ⟨y, dy, gl, rfl, ey, fy, ny⟩ := pu'.obj
    have dk := dp_kids t
    have zk := sz_kids t
    have dg := dp_get hu
    have zg := sz_get hu
    refine ⟨rfl, kdOf u, _, rfl, y, dy, gl, rfl, ey, ny _ (by decide +kernel), _, u, rfl, pu', by omega, by omega, fun H2 s3 => ?_⟩
    have hi : i < (kids t).length := (List.getElem?_eq_some_iff.mp hu).1
    have kl := szs_len (kids t)
    refine ⟨_, s3 _ _ eD, ?_, ?_, ?_⟩
    · rw [sizeLine_eq, List.length_map, szL, List.length_map, List.length_take]; omega
    · intro b o z
      have nb : b ≠ D := by
        intro z2
        subst z2
        rw [hD] at z; cases z
      rw [upd_ne nb]
      exact s3 b o (s2 b o z)
    · rw [upd_same]
      have e : szL ((kids t).take (i + 1)) = szL ((kids t).take i) ++ [((sz u : Nat) : Int)] := by
        unfold szL
        rw [List.take_add_one, hu, List.map_append]
        rfl
      rw [e, List.map_append]
      rfl
  · rintro H' ⟨s2, eD⟩
    have len : ws.length = (kids t).length := ps.len
    rw [len, List.take_length] at eD
    refine ⟨D, szL (kids t), rfl, SqL.of eD, _, _, rfl, rfl, ?_⟩
    have e : (1 : Int) + (szL (kids t)).sum = ((sz t : Nat) : Int) := by
      rw [szL_sum, sz_kids t]; omega
    show Q (V.int ((1 : Int) + (szL (kids t)).sum)) H'
    rw [e]
    exact q H' (s1.trans s2)
end
end K34
set_option Elab.async false
set_option linter.all false
set_option maxRecDepth 100000
set_option maxHeartbeats 4000000
/-! Parts, further: size, depth, gather at any depth; contacts, bounded; how parts are made. -/
namespace K34
open PySem PySem.Spec PyProof.Rows L2 C8
section
variable {P : Program} {w : World} {K : PySem.W.Frag} {mg : Str → Option Value} {base : Heap} {a : Ad} {fs : Fs} {nm : List Str}
/-- a promise that asks what cannot be -/
theorem ok_no {x qual : Str} {st : Stmt} {f : Addr} {ps : List Str} {k : Nat} {sp : Sp} (R : Row K x qual st f)
    (hb : ∀ (kV doc pm : Value) (an : Option Addr) (cdv ct : Value) (us : List Value), us.length = ps.length → bindArgs (PySem.W.fnOf x qual (defArgs st) (defBody st) (defScope st) .none kV doc pm an cdv ct) ⟨us, []⟩ = pure (ps.zip us))
    (no : ∀ vs H Q E, ¬ sp vs H Q E) : CalAt P w K mg base k f sp := by
  obtain ⟨oc, od, kV, doc, pm, an, cdv, ct, osl, lk, hcd⟩ := R.ex
  exact ⟨_, ps, ⟨fun vs H Q E h => absurd h (no vs H Q E), fun A outer s H args us vs Q E _ _ _ _ h => absurd h (no vs H Q E)⟩, R.kp, (fun_mk (st := st) lk hcd R.kp).binds hb⟩
theorem ok_size (g : G K mg a fs) : ∀ d : Nat, CalAt P w K mg base (1 + d) fs.fSize (spSize a nm d)
  | 0 => ok_no (ps := pSize) g.rSize (fun _ _ _ _ _ _ us hl => match us, hl with | [_], _ => rfl) fun vs H Q E ⟨v, t, _, _, hd, _⟩ => by have := dp_pos t; omega
  | d + 1 => size_step g (ok_size g d)
theorem depth_step (g : G K mg a fs) {d : Nat} (C : CalAt P w K mg base (1 + d) fs.fDepth (spDepth a nm d)) : CalAt P w K mg base (1 + d + 1) fs.fDepth (spDepth a nm (d + 1)) := by
  have CI := met_inner (P := P) (w := w) (base := base) (nm := nm) g
  have CS := met_depth g C
  refine ok_of g.rDepth scDepth (fun _ _ _ _ _ _ us hl => match us, hl with | [_], _ => rfl) (fun vs H Q E h => ?_) (fun cdv A outer s H vs Q E hr h => ?_)
  · obtain ⟨v, t, rfl, _⟩ := h
    rfl
  obtain ⟨v, t, rfl, p, hd, hs, q⟩ := h
  refine ⟨_, pss_one (ps_ret (pe_op op_add pe_int (pe_callB (cr_max rfl) (by rfl) (g.no _ g.z_max) (by decide +kernel) (pa_cons (pe_op op_cat (pe_lst (pa_cons pe_int pa_nil))
    (pe_lc (own := [("part", 1)]) (g := gName 1) rfl scDepth.nd (pi_tup (PE.any fun k => pe_mt0 (CI k) hr (by omega) (pv 0))) (blkOk_by (own := [("part", 1)]) (N := nDepth) (sc := defScope sDepth) (by decide +kernel))
      (fun _ _ _ _ _ => pg_name (i := 1) scDepth.nd rfl (Or.inl rfl)) (fun _ _ _ _ _ => pts_nil) (fun _ _ _ _ _ => PE.any fun k => pe_mt0 (CS k) hr (Nat.le_refl _) (pv 1)))) pa_nil)))), ?_⟩
  obtain ⟨x, dx, fl, rfl, ex, fx, nl⟩ := p.obj
  refine ⟨(by show 1 ≤ sizeLine; decide), fun r0 hr0 => ?_⟩
  have s0 := Same.new (.lst [V.int 0]) hr0
  have p0 := p.mono (.of s0)
  refine ⟨kdOf t, _, rfl, x, dx, fl, rfl, s0 _ _ ex, nl _ (by decide +kernel), _, t, rfl, p0, rfl, fun r ws H1 s1 er ps => ?_⟩
  refine ⟨r, rfl, ⟨_, SqT.of er⟩, fun D hD => ?_⟩
  refine lc_tup (K := K) (a := r) (xs := ws) (fun i H' => Same H1 H' ∧ H' D = some (.lst ((dpL ((kids t).take i)).map V.int))) ⟨Same.new _ hD, upd_same⟩ (fun i H' _ ⟨s2, _⟩ => SqT.of (s2 _ _ er)) ?_ ?_
  · rintro i v H' hv ⟨s2, eD⟩
    obtain ⟨u, hu, pu⟩ := ps.get hv
    have pu' := pu.mono (.of s2)
    obtain ⟨y, dy, gl, rfl, ey, fy, ny⟩ := pu'.obj
    have dk := dp_kids t
    have zk := sz_kids t
    have dg := dp_get hu
    have zg := sz_get hu
    refine ⟨rfl, kdOf u, _, rfl, y, dy, gl, rfl, ey, ny _ (by decide +kernel), _, u, rfl, pu', by omega, by omega, fun H2 s3 => ?_⟩
    have hi : i < (kids t).length := (List.getElem?_eq_some_iff.mp hu).1
    have kl := szs_len (kids t)
    refine ⟨_, s3 _ _ eD, ?_, ?_, ?_⟩
    · rw [sizeLine_eq, List.length_map, dpL, List.length_map, List.length_take]; omega
    · intro b o z
      have nb : b ≠ D := by
        intro z2
        subst z2
        rw [hD] at z; cases z
      rw [upd_ne nb]
      exact s3 b o (s2 b o z)
    · rw [upd_same]
      have e : dpL ((kids t).take (i + 1)) = dpL ((kids t).take i) ++ [((dp u : Nat) : Int)] := by
        unfold dpL
        rw [List.take_add_one, hu, List.map_append]
        rfl
      rw [e, List.map_append]
      rfl
  · rintro H' ⟨s2, eD⟩
    have len : ws.length = (kids t).length := ps.len
    rw [len, List.take_length] at eD
    have s02 : Same H H' := s0.trans (s1.trans s2)
    have kl := szs_len (kids t)
    have zk := sz_kids t
    have dl : ((dpL (kids t)).map V.int).length = (kids t).length := by rw [List.length_map, dpL, List.length_map]
    refine ⟨r0, D, _, _, rfl, rfl, s2 _ _ (s1 _ _ upd_same), eD, ?_, fun r5 hr5 => ?_⟩
    · rw [dl, sizeLine_eq]
      show 1 + _ ≤ _
      omega
    refine ⟨r5, (0 : Int) :: dpL (kids t), rfl, SqL.of upd_same, by simp, fun m hm hm2 => ?_⟩
    have em := dpL_max hm hm2
    refine ⟨_, _, rfl, rfl, ?_⟩
    have e : (1 : Int) + m = ((dp t : Nat) : Int) := by rw [em, dp_kids t]; omega
    show Q (V.int ((1 : Int) + m)) _
    rw [e]
    exact q _ (s02.trans (Same.new _ hr5))
theorem ok_depth (g : G K mg a fs) : ∀ d : Nat, CalAt P w K mg base (1 + d) fs.fDepth (spDepth a nm d)
  | 0 => ok_no (ps := pDepth) g.rDepth (fun _ _ _ _ _ _ us hl => match us, hl with | [_], _ => rfl) fun vs H Q E ⟨v, t, _, _, hd, _⟩ => by have := dp_pos t; omega
  | d + 1 => depth_step g (ok_depth g d)
theorem ok_bounded (g : G K mg a fs) : CalAt P w K mg base 22 fs.fBounded (spBounded a nm) := by
  have CS := met_size g (ok_size (P := P) (w := w) (base := base) (nm := nm) g 20)
  have CD := met_depth g (ok_depth (P := P) (w := w) (base := base) (nm := nm) g 20)
  refine ok_of g.rBounded scBounded (fun _ _ _ _ _ _ us hl => match us, hl with | [_], _ => rfl) (fun vs H Q E h => ?_) (fun cdv A outer s H vs Q E hr h => ?_)
  · obtain ⟨v, t, rfl, _⟩ := h
    rfl
  obtain ⟨v, t, rfl, p, hd, hs, q⟩ := h
  obtain ⟨t1, h1⟩ := g.vMOST_SIZE
  obtain ⟨t2, h2⟩ := g.vMOST_DEEP
  refine ⟨_, pss_one (ps_if (PW.pt (pw_or (pt_cmpR op_gt (PE.any fun k => pe_mt0 (CS k) hr (Nat.le_refl _) (pv 0)) (pe_glob (v := .int 60) rfl (g.gl _ _ h1) ⟨t1, rfl⟩) (nomark _))
    (pw_or1 (pt_cmpR op_gt (PE.any fun k => pe_mt0 (CD k) hr (Nat.le_refl _) (pv 0)) (pe_glob (v := .int 20) rfl (g.gl _ _ h2) ⟨t2, rfl⟩) (nomark _))))) (pss_one ps_never) pss_nil), ?_⟩
  obtain ⟨x, dx, fl, rfl, ex, fx, nl⟩ := p.obj
  refine ⟨kdOf t, _, rfl, x, dx, fl, rfl, ex, nl _ (by decide +kernel), _, t, rfl, p, hd, hs, fun H1 s1 => ?_⟩
  refine ⟨_, _, rfl, rfl, _, rfl, ?_⟩
  rw [decide_eq_false (show ¬ ((60 : Int) < ((sz t : Nat) : Int)) by omega)]
  refine iteF ?_
  refine ⟨kdOf t, _, rfl, x, dx, fl, rfl, s1 _ _ ex, nl _ (by decide +kernel), _, t, rfl, p.mono (.of s1), hd, hs, fun H2 s2 => ?_⟩
  refine ⟨_, _, rfl, rfl, _, rfl, ?_⟩
  rw [decide_eq_false (show ¬ ((20 : Int) < ((dp t : Nat) : Int)) by omega)]
  exact iteF (q H2 (s1.trans s2))
/-! ### contacts -/
theorem Known.put {nm : List Str} {kk : List (Key × V)} (h : Known nm kk) {x : Str} (hx : x ∈ nm) (v : V) : Known nm (putK kk (Sum.inr x : Key) v) := by
  unfold putK
  split
  · intro p hp
    obtain ⟨p0, h0, rfl⟩ := List.mem_map.mp hp
    by_cases e : p0.1 = (Sum.inr x : Key)
    · rw [if_pos e]; exact ⟨x, hx, e⟩
    · rw [if_neg e]; exact h p0 h0
  · intro p hp
    rcases List.mem_append.mp hp with z | z
    · exact h p z
    · rw [List.mem_singleton.mp z]; exact ⟨x, hx, rfl⟩
theorem gather_c (g : G K mg a fs) (d : Nat) : CalAt P w K mg base 1 fs.fCGather (spGather a nm d true) := by
  refine ok_of g.rCGather scCGather (fun _ _ _ _ _ _ us hl => match us, hl with | [_, _], _ => rfl) (fun vs H Q E h => ?_) (fun cdv A outer s H vs Q E hr h => ?_)
  · obtain ⟨v, t, fd, kk, rfl, _⟩ := h
    rfl
  obtain ⟨v, t, fd, kk, rfl, p, hc, hd, ef, kn, len, q⟩ := h
  have hu := hu_of hr
  refine ⟨_, pss_one (ps_dput hu (pv 1) (pe_fld (pv 0) rfl) pe_bl rfl), ?_⟩
  cases p with
  | fx e => cases hc
  | nt e ht => cases hc
  | @gr p dx r k' vs ts e eq ht => cases k' <;> cases hc
  | @ct p dx i x e hi =>
    have z1 : sz (.ct i) = 1 := rfl
    refine ⟨_, rfl, _, rfl, p, _, dx, _, _, rfl, e, g.cl .ct, g.n_name_ct, rfl, fd, _, rfl, DPut.k (k := Sum.inr x) ef (by rw [sizeLine_eq]; omega), ?_⟩
    exact q _ _ (But.upd _ (by simp)) upd_same (kn.put (List.mem_of_getElem? hi) _) (length_putK _ _ _)
theorem gather_step (g : G K mg a fs) {d : Nat} (C : CalAt P w K mg base (2 + d) fs.fPGather (spGather a nm d false)) : CalAt P w K mg base (2 + d + 1) fs.fPGather (spGather a nm (d + 1) false) := by
  have CI := met_inner (P := P) (w := w) (base := base) (nm := nm) g
  have CG := met_gather g (sp := spGather a nm d) C (CalAt.up (gather_c g d) (by omega))
  refine ok_of g.rPGather scPGather (fun _ _ _ _ _ _ us hl => match us, hl with | [_, _], _ => rfl) (fun vs H Q E h => ?_) (fun cdv A outer s H vs Q E hr h => ?_)
  · obtain ⟨v, t, fd, kk, rfl, _⟩ := h
    rfl
  obtain ⟨v, t, fd, kk, rfl, p, hc, hd, ef, kn, hlen, q⟩ := h
  refine ⟨_, pss_one (ps_for PassesOwn.never rfl (pi_tup (PE.any fun k => pe_mt0 (CI k) hr (by omega) (pv 0))) (pg_name (i := 2) scPGather.nd rfl (.inl rfl))
    (pss_one (ps_expr (PE.any fun k => pe_mt (CG k) hr (Nat.le_refl _) (pv 2) (pa_cons (pv 1) pa_nil))))), ?_⟩
  obtain ⟨x, dx, fl, rfl, ex, fx, nl⟩ := p.obj
  refine ⟨kdOf t, _, rfl, x, dx, fl, rfl, ex, nl _ (by decide +kernel), _, t, rfl, p, rfl, fun r ws H1 s1 er ps => ?_⟩
  refine ⟨r, rfl, ⟨_, SqT.of er⟩, ?_⟩
  have ef1 := s1 _ _ ef
  refine for_tup (K := K) (a := r) (xs := ws) (fun i σ H' => ∃ (y : Option V) (kk' : List (Key × V)), σ = [some (.ref x), some (.ref fd), y] ∧ But [fd] H1 H' ∧ H' fd = some (.dK kk') ∧ Known nm kk' ∧ kk'.length ≤ kk.length + szs ((kids t).take i))
    ⟨none, kk, rfl, But.refl _ _, ef1, kn, by simp [szs]⟩ (fun i σ H' _ ⟨_, _, _, b, _⟩ => SqT.of (b.fix1 (.dK ef1) _ _ er rfl)) ?_ ?_
  · rintro i v σ H' hv ⟨y, kk', rfl, b, ef', kn', len'⟩
    obtain ⟨u, hu, pu⟩ := ps.get hv
    have pu' := pu.mono (b.fix1 (.dK ef1))
    obtain ⟨y, dy, gl, rfl, ey, fy, ny⟩ := pu'.obj
    have dk := dp_kids t
    have zk := sz_kids t
    have dg := dp_get hu
    have zg := sz_get hu
    have zt := szs_snoc hu
    refine ⟨kdOf u, _, rfl, y, dy, gl, rfl, ey, ny _ (by decide +kernel), _, rfl, _, u, fd, kk', rfl, pu', rfl, by omega, ef', kn', by omega, fun kk2 H2 b2 ef2 kn2 len2 => ?_⟩
    exact ⟨_, kk2, rfl, b.trans b2, ef2, kn2, by omega⟩
  · rintro σ H' ⟨y, kk', rfl, b, ef', kn', len'⟩
    have len : ws.length = (kids t).length := ps.len
    rw [len, List.take_length] at len'
    have zk := sz_kids t
    exact q kk' H' ((But.of s1).trans b) ef' kn' (by omega)
theorem ok_gather (g : G K mg a fs) : ∀ d : Nat, CalAt P w K mg base (2 + d) fs.fPGather (spGather a nm d false)
  | 0 => ok_no (ps := pPGather) g.rPGather (fun _ _ _ _ _ _ us hl => match us, hl with | [_, _], _ => rfl) fun vs H Q E ⟨v, t, _, _, _, _, _, hd, _⟩ => by have := dp_pos t; omega
  | d + 1 => gather_step g (ok_gather g d)
theorem ok_contacts (g : G K mg a fs) : CalAt P w K mg base 23 fs.fContacts (spContacts a nm) := by
  have CG := met_gather g (sp := spGather a nm 20) (ok_gather (P := P) (w := w) (base := base) g 20) (CalAt.up (gather_c g 20) (by omega))
  refine ok_of g.rContacts scContacts (fun _ _ _ _ _ _ us hl => match us, hl with | [_], _ => rfl) (fun vs H Q E h => ?_) (fun cdv A outer s H vs Q E hr h => ?_)
  · obtain ⟨v, t, rfl, _⟩ := h
    rfl
  obtain ⟨v, t, rfl, p, hd, hs, q⟩ := h
  refine ⟨_, pss_cons (ps_set (i := 1) scContacts.nd rfl (.inl rfl) pe_dnewK)
    (pss_cons (ps_expr (PE.any fun k => pe_mt (CG k) hr (Nat.le_refl _) (pv 0) (pa_cons (pv 1) pa_nil)))
    (pss_one (ps_ret (pe_callTy (call_tupKeys rfl) (by rfl) (g.no _ g.z_tuple) (by decide +kernel) (pa_cons (pe_bm0 PySem.F.plainAttrs_dict PySem.F.slot_dict_keys PySem.F.type_dict_keys mt_keys (pv 1)) pa_nil))))), ?_⟩
  intro fd hf
  have s1 := Same.new (.dK []) hf
  have p1 := p.mono (.of s1)
  obtain ⟨x, dx, fl, rfl, ex, fx, nl⟩ := p1.obj
  refine ⟨kdOf t, _, rfl, x, dx, fl, rfl, ex, nl _ (by decide +kernel), _, rfl, _, t, fd, [], rfl, p1, rfl, hd, upd_same, (fun z hz => by cases hz), by rw [List.length_nil]; omega, fun kk H2 b ef kn len => ?_⟩
  have s2 : Same H H2 := But.drop s1 b fun z hz => by rw [List.mem_singleton.mp hz]; exact hf
  refine ⟨_, rfl, .inr (.inr (.inl ⟨rfl, .inl ⟨_, ef⟩⟩)), fd, kk, rfl, rfl, ef, fun r hr2 => ?_⟩
  have s3 := Same.new (keysO r fd) hr2
  refine ⟨r, fd, kk, rfl, upd_same, s3 _ _ ef, fun q2 hq2 => ?_⟩
  have s4 := Same.new (.tup (kk.map fun kv => kV kv.1)) hq2
  obtain ⟨xs, exs, hx⟩ : ∃ xs : List Str, kk.map (fun kv => kV kv.1) = xs.map V.str ∧ ∀ x ∈ xs, x ∈ nm := by
    clear ef len s3 s4 hq2 hr2
    induction kk with
    | nil => exact ⟨[], rfl, fun _ h => by cases h⟩
    | cons p r ih =>
      obtain ⟨x, hx, ep⟩ := kn p List.mem_cons_self
      obtain ⟨xs, e, h⟩ := ih fun z hz => kn z (List.mem_cons_of_mem _ hz)
      refine ⟨x :: xs, ?_, fun y hy => ?_⟩
      · rw [List.map_cons, List.map_cons, e, ep]; rfl
      · rcases List.mem_cons.mp hy with z | z
        · rw [z]; exact hx
        · exact h y z
  exact q q2 xs _ (s2.trans (s3.trans s4)) (by rw [upd_same, exs]) hx
end
end K34
set_option Elab.async false
set_option linter.all false
set_option maxRecDepth 100000
set_option maxHeartbeats 4000000
/-! How parts are made: __init__, single, joined. -/
namespace K34
open PySem PySem.Spec PyProof.Rows L2 C8
def spFInit (a : Ad) : Sp := fun vs H Q _ => ∃ (x dx : Addr) (b : Bool), vs = [.ref x, .bl b] ∧ H x = some (.ins (a.at_ .fx) dx []) ∧ Q .non (upd H x (.ins (a.at_ .fx) dx [("value", .bl b)]))
def spCInit (a : Ad) : Sp := fun vs H Q _ => ∃ (x dx : Addr) (y : Str), vs = [.ref x, .str y] ∧ Good y ∧ H x = some (.ins (a.at_ .ct) dx []) ∧ Q .non (upd H x (.ins (a.at_ .ct) dx [("name", .str y)]))
def spTInit (a : Ad) (nm : List Str) : Sp := fun vs H Q _ => ∃ (x dx : Addr) (v : V) (t : Tr), vs = [.ref x, v] ∧ H x = some (.ins (a.at_ .nt) dx []) ∧ PartAt a nm H v t ∧ sz t + 1 ≤ 60 ∧ dp t + 1 ≤ 20 ∧ ∀ H', PartAt a nm H' (.ref x) (.nt t) → But [x] H H' → Q .non H'
def spGInit (a : Ad) (nm : List Str) (k : Bool) : Sp := fun vs H Q _ => ∃ (x dx l : Addr) (ws : List V) (ts : List Tr), vs = [.ref x, .ref l] ∧ H x = some (.ins (a.at_ (gk k)) dx []) ∧ H l = some (.lst ws) ∧ PartsAt a nm H ws ts ∧ 2 ≤ ts.length ∧ szs ts + 1 ≤ 60 ∧ dps ts + 1 ≤ 20 ∧
  ∀ H', PartAt a nm H' (.ref x) (.gr k ts) → But [x] H H' → Q .non H'
def isSg : Tr → Bool
  | .fx _ => true
  | .ct _ => true
  | _ => false
def spSingle (a : Ad) (nm : List Str) : Sp := fun vs H Q _ => ∃ (v : V) (t : Tr), vs = [v] ∧ ToldAt nm H v t ∧ isSg t = true ∧ (∀ x ∈ nm, Good x) ∧ ∀ q H', Same H H' → PartAt a nm H' (.ref q) t → Q (.ref q) H'
/-- the word of a part with parts in it -/
def hdOf : Tr → Str
  | .fx _ => "fixed"
  | .ct _ => "contact"
  | .nt _ => "not"
  | .gr k _ => gw k
def spJoined (a : Ad) (nm : List Str) : Sp := fun vs H Q _ => ∃ (l : Addr) (ws : List V) (t : Tr), vs = [.str (hdOf t), .ref l] ∧ isSg t = false ∧ H l = some (.lst ws) ∧ PartsAt a nm H ws (kids t) ∧ ok nm.length t ∧ sz t ≤ 60 ∧ dp t ≤ 20 ∧ ∀ q H', Same H H' → PartAt a nm H' (.ref q) t → Q (.ref q) H'
section
variable {P : Program} {w : World} {K : PySem.W.Frag} {mg : Str → Option Value} {base : Heap} {a : Ad} {fs : Fs} {nm : List Str}
theorem ok_fInit (g : G K mg a fs) : CalAt P w K mg base 1 fs.fFInit (spFInit a) := by
  refine ok_of g.rFInit scFInit (fun _ _ _ _ _ _ us hl => match us, hl with | [_, _], _ => rfl) (fun vs H Q E h => ?_) (fun cdv A outer s H vs Q E hr h => ?_)
  · obtain ⟨x, dx, b, rfl, _⟩ := h
    rfl
  obtain ⟨x, dx, b, rfl, ex, q⟩ := h
  exact ⟨_, pss_one (ps_fld (pv 0) (pv 1) rfl), _, rfl, _, rfl, x, _, dx, _, rfl, ex, g.cl .fx, g.n_value_fx, (by show 0 < 1000; decide), q⟩
theorem ok_cInit (g : G K mg a fs) : CalAt P w K mg base 3 fs.fCInit (spCInit a) := by
  have CN : Cal P w K mg base 2 "is_name" spIsName [] := cal_of (ok_isName g) (g.gl _ _ g.gIsName)
  refine ok_of g.rCInit scCInit (fun _ _ _ _ _ _ us hl => match us, hl with | [_, _], _ => rfl) (fun vs H Q E h => ?_) (fun cdv A outer s H vs Q E hr h => ?_)
  · obtain ⟨x, dx, y, rfl, _⟩ := h
    rfl
  obtain ⟨x, dx, y, rfl, gd, ex, q⟩ := h
  refine ⟨_, pss_cons (ps_if (pt_not (pt_val (pe_c CN hr (Nat.le_refl _) rfl (pa_cons (pv 1) pa_nil)))) (pss_one ps_never) pss_nil) (pss_one (ps_fld (pv 0) (pv 1) rfl)), ?_⟩
  exact ⟨_, rfl, y, rfl, gd, _, rfl, iteF ⟨_, rfl, _, rfl, x, _, dx, _, rfl, ex, g.cl .ct, g.n_name_ct, (by show 0 < 1000; decide), q⟩⟩
/-- a part stays where an instance is being made -/
theorem fix_new {H : Hp} {x C dx : Addr} {fl : List (Str × V)} (e : H x = some (.ins C dx [])) : Fixes H (upd H x (.ins C dx fl)) := fun b o z f => by
  have ne : b ≠ x := fun q => by
    subst q
    rw [e] at z; cases z; cases f
  rw [upd_ne ne]; exact z
theorem ok_tInit (g : G K mg a fs) : CalAt P w K mg base 23 fs.fTInit (spTInit a nm) := by
  have CB := met_bounded g (ok_bounded (P := P) (w := w) (base := base) (nm := nm) g)
  refine ok_of g.rTInit scTInit (fun _ _ _ _ _ _ us hl => match us, hl with | [_, _], _ => rfl) (fun vs H Q E h => ?_) (fun cdv A outer s H vs Q E hr h => ?_)
  · obtain ⟨x, dx, v, t, rfl, _⟩ := h
    rfl
  obtain ⟨x, dx, v, t, rfl, ex, p, hs, hd, q⟩ := h
  refine ⟨_, pss_cons (ps_fld (pv 0) (pv 1) rfl) (pss_one (ps_expr (PE.any fun k => pe_mt0 (CB k) hr (Nat.le_refl _) (pv 0)))), ?_⟩
  refine ⟨_, rfl, _, rfl, x, _, dx, _, rfl, ex, g.cl .nt, g.n_part_nt, (by show 0 < 1000; decide), ?_⟩
  have f1 := fix_new (fl := [("part", v)]) ex
  have p1 : PartAt a nm (upd H x (.ins (a.at_ .nt) dx [("part", v)])) (.ref x) (.nt t) := .nt upd_same (p.mono f1)
  refine ⟨.nt, _, rfl, x, dx, _, rfl, upd_same, rfl, _, .nt t, rfl, p1, (by simp only [dp]; omega), (by simp only [sz]; omega), fun H2 s2 => ?_⟩
  exact q H2 (p1.mono (.of s2)) ((But.upd _ (by simp)).trans (But.of s2))
theorem ok_gInit (g : G K mg a fs) (k : Bool) : CalAt P w K mg base 23 fs.fGInit (spGInit a nm k) := by
  have CB := met_bounded g (ok_bounded (P := P) (w := w) (base := base) (nm := nm) g)
  refine ok_of g.rGInit scGInit (fun _ _ _ _ _ _ us hl => match us, hl with | [_, _], _ => rfl) (fun vs H Q E h => ?_) (fun cdv A outer s H vs Q E hr h => ?_)
  · obtain ⟨x, dx, l, ws, ts, rfl, _⟩ := h
    rfl
  obtain ⟨x, dx, l, ws, ts, rfl, ex, el, ps, h2, hs, hd, q⟩ := h
  refine ⟨_, pss_cons (ps_if (pt_cmpR op_lt (pe_callB call_len_seq (by rfl) (g.no _ g.z_len) PySem.boot_len (pa_cons (pv 1) pa_nil)) pe_int (nomark _)) (pss_one ps_never) pss_nil)
    (pss_cons (ps_fld (pv 0) (pe_callTy call_tuple_of (by rfl) (g.no _ g.z_tuple) (by decide +kernel) (pa_cons (pv 1) pa_nil)) rfl)
    (pss_one (ps_expr (PE.any fun k => pe_mt0 (CB k) hr (Nat.le_refl _) (pv 0))))), ?_⟩
  have len := ps.len
  refine ⟨_, rfl, l, _, rfl, .inl (SqL.of el), _, _, rfl, rfl, _, rfl, ?_⟩
  rw [decide_eq_false (show ¬ ((ws.length : Nat) : Int) < 2 by omega)]
  refine iteF ?_
  refine ⟨_, rfl, l, _, rfl, .inl ⟨SqL.of el, fun r hr2 => ?_⟩⟩
  have s1 := Same.new (.tup ws) hr2
  have np : NoAttr K (a.at_ (gk k)) "parts" := by
    cases k with
    | true => exact g.n_parts_se
    | false => exact g.n_parts_br
  have ex1 := s1 _ _ ex
  refine ⟨_, rfl, x, _, dx, _, rfl, ex1, g.cl _, np, (by show 0 < 1000; decide), ?_⟩
  have f1 := fix_new (fl := [("parts", V.ref r)]) ex1
  have er : (upd (upd H r (.tup ws)) x (.ins (a.at_ (gk k)) dx [("parts", .ref r)])) r = some (.tup ws) := f1 _ _ upd_same rfl
  have p1 : PartAt a nm (upd (upd H r (.tup ws)) x (.ins (a.at_ (gk k)) dx [("parts", .ref r)])) (.ref x) (.gr k ts) := .gr upd_same er (ps.mono ((Fixes.of s1).trans f1))
  refine ⟨gk k, _, rfl, x, dx, _, rfl, upd_same, rfl, _, .gr k ts, rfl, p1, (by simp only [dp]; omega), (by simp only [sz]; omega), fun H2 s2 => ?_⟩
  exact q H2 (p1.mono (.of s2)) ((But.of s1).trans ((But.upd _ (by simp)).trans (But.of s2)))
theorem ok_single (g : G K mg a fs) : CalAt P w K mg base 5 fs.fSingle (spSingle a nm) := by
  have MF : Mak P w K mg base 1 "Fixed" a.fx (spFInit a) [] := mak_of (ok_fInit g) g.mk_fx g.m_init_fx g.iFInit g.kc_fx (g.gl _ _ g.c_fx)
  have MC : Mak P w K mg base 3 "Contact" a.ct (spCInit a) [] := mak_of (ok_cInit g) g.mk_ct g.m_init_ct g.iCInit g.kc_ct (g.gl _ _ g.c_ct)
  refine ok_of g.rSingle scSingle (fun _ _ _ _ _ _ us hl => match us, hl with | [_], _ => rfl) (fun vs H Q E h => ?_) (fun cdv A outer s H vs Q E hr h => ?_)
  · obtain ⟨v, t, rfl, _⟩ := h
    rfl
  obtain ⟨v, t, rfl, tl, sg, gd, q⟩ := h
  refine ⟨_, pss_one (ps_ret (pe_ifExp (pt_cmpR op_eq (pe_ix ix_tup (pv 0) pe_int (fun _ _ => rfl)) pe_str (nomark _))
    (pe_mk MF hr (by omega) rfl (pa_cons (pe_ix ix_tup (pv 0) pe_int (fun _ _ => rfl)) pa_nil)) (pe_mk MC hr (by omega) rfl (pa_cons (pe_ix ix_tup (pv 0) pe_int (fun _ _ => rfl)) pa_nil)))), ?_⟩
  cases tl with
  | @fx p b e =>
    refine ⟨_, rfl, p, _, _, _, rfl, rfl, SqT.of e, atI_nat (j := 0) rfl, rfl, _, rfl, ?_⟩
    rw [decide_eq_true rfl]
    refine iteT ⟨_, rfl, p, _, _, _, rfl, rfl, SqT.of e, atI_nat (j := 1) rfl, fun x dx hx hdx ne => ?_⟩
    refine ⟨x, dx, b, rfl, upd_same, rfl, ?_⟩
    refine q x _ (fun c o z => ?_) (.fx upd_same)
    rw [upd_ne (ne_of_none z hx), upd_ne (ne_of_none z hx), upd_ne (ne_of_none z hdx)]
    exact z
  | @ct p i y e hi =>
    refine ⟨_, rfl, p, _, _, _, rfl, rfl, SqT.of e, atI_nat (j := 0) rfl, rfl, _, rfl, ?_⟩
    have ne : ¬ (V.str "contact" = V.str "fixed") := by decide
    rw [decide_eq_false ne]
    refine iteF ⟨_, rfl, p, _, _, _, rfl, rfl, SqT.of e, atI_nat (j := 1) rfl, fun x dx hx hdx ne => ?_⟩
    refine ⟨x, dx, y, rfl, gd y (List.mem_of_getElem? hi), upd_same, rfl, ?_⟩
    refine q x _ (fun c o z => ?_) (.ct upd_same hi)
    rw [upd_ne (ne_of_none z hx), upd_ne (ne_of_none z hx), upd_ne (ne_of_none z hdx)]
    exact z
  | nt e ht => cases sg
  | gr e ht => cases sg
theorem same_made {H H' : Hp} {x dx C : Addr} (hx : H x = none) (hdx : H dx = none) (b : But [x] (upd (upd H dx (.own x)) x (.ins C dx [])) H') : Same H H' := fun c o z => by
  refine b c o ?_ fun q => ?_
  · rw [upd_ne (ne_of_none z hx), upd_ne (ne_of_none z hdx)]
    exact z
  · rw [List.mem_singleton.mp q, hx] at z; cases z
theorem same_start {H : Hp} {x dx C : Addr} (hx : H x = none) (hdx : H dx = none) : Same H (upd (upd H dx (.own x)) x (.ins C dx [])) := fun c o z => by
  rw [upd_ne (ne_of_none z hx), upd_ne (ne_of_none z hdx)]
  exact z
theorem ok_joined (g : G K mg a fs) : CalAt P w K mg base 25 fs.fJoined (spJoined a nm) := by
  have MT : Mak P w K mg base 23 "Turned" a.nt (spTInit a nm) [] := mak_of (ok_tInit g) g.mk_nt g.m_init_nt g.iTInit g.kc_nt (g.gl _ _ g.c_nt)
  have MS : Mak P w K mg base 23 "Series" a.se (spGInit a nm true) [] := mak_of (ok_gInit g true) g.mk_se g.m_init_se g.iGInit g.kc_se (g.gl _ _ g.c_se)
  have MB : Mak P w K mg base 23 "Branch" a.br (spGInit a nm false) [] := mak_of (ok_gInit g false) g.mk_br g.m_init_br g.iGInit g.kc_br (g.gl _ _ g.c_br)
  refine ok_of g.rJoined scJoined (fun _ _ _ _ _ _ us hl => match us, hl with | [_, _], _ => rfl) (fun vs H Q E h => ?_) (fun cdv A outer s H vs Q E hr h => ?_)
  · obtain ⟨l, ws, t, rfl, _⟩ := h
    rfl
  obtain ⟨l, ws, t, rfl, sg, el, ps, okt, hs, hd, q⟩ := h
  refine ⟨_, pss_cons (ps_if (pt_cmpR op_eq (pv 0) pe_str (nomark _)) (pss_one (ps_ret (pe_mk MT hr (Nat.le_refl _) rfl (pa_cons (pe_ix ix_list (pv 1) pe_int (fun _ _ => rfl)) pa_nil)))) pss_nil)
    (pss_cons (ps_if (pt_cmpR op_eq (pv 0) pe_str (nomark _)) (pss_one (ps_ret (pe_mk MS hr (Nat.le_refl _) rfl (pa_cons (pv 1) pa_nil)))) pss_nil)
    (pss_one (ps_ret (pe_mk MB hr (Nat.le_refl _) rfl (pa_cons (pv 1) pa_nil))))), ?_⟩
  cases t with
  | fx _ => cases sg
  | ct _ => cases sg
  | nt t =>
    refine ⟨_, rfl, rfl, _, rfl, ?_⟩
    rw [decide_eq_true (show V.str (hdOf (.nt t)) = V.str "not" from rfl)]
    have ps' : PartsAt a nm H ws [t] := ps
    obtain ⟨v, rfl, pv'⟩ : ∃ v, ws = [v] ∧ PartAt a nm H v t := by
      cases ps' with
      | cons h1 h2 => cases h2; exact ⟨_, rfl, h1⟩
    refine iteT ⟨_, rfl, l, _, _, _, rfl, rfl, SqL.of el, atI_nat (j := 0) rfl, fun x dx hx hdx ne => ?_⟩
    have s1 := same_start (C := a.nt) hx hdx
    refine ⟨x, dx, v, t, rfl, upd_same, pv'.mono (.of s1), (by simp only [sz] at hs; omega), (by simp only [dp] at hd; omega), fun H' p b => ⟨rfl, ?_⟩⟩
    exact q x H' (same_made hx hdx b) p
  | gr k ts =>
    refine ⟨_, rfl, rfl, _, rfl, ?_⟩
    have ne : ¬ (V.str (hdOf (.gr k ts)) = V.str "not") := by
      cases k with
      | true => show ¬ (V.str "and" = V.str "not"); decide
      | false => show ¬ (V.str "or" = V.str "not"); decide
    rw [decide_eq_false ne]
    refine iteF ⟨_, rfl, rfl, _, rfl, ?_⟩
    have h2 : 2 ≤ ts.length := okt.1
    have hs' : szs ts + 1 ≤ 60 := by simp only [sz] at hs; omega
    have hd' : dps ts + 1 ≤ 20 := by simp only [dp] at hd; omega
    cases k with
    | true =>
      rw [decide_eq_true (show V.str (hdOf (.gr true ts)) = V.str "and" from rfl)]
      refine iteT ⟨_, rfl, fun x dx hx hdx ne => ?_⟩
      have s1 := same_start (C := a.se) hx hdx
      exact ⟨x, dx, l, ws, ts, rfl, upd_same, s1 _ _ el, ps.mono (.of s1), h2, hs', hd', fun H' p b => ⟨rfl, q x H' (same_made hx hdx b) p⟩⟩
    | false =>
      have ne2 : ¬ (V.str (hdOf (.gr false ts)) = V.str "and") := by show ¬ (V.str "or" = V.str "and"); decide
      rw [decide_eq_false ne2]
      refine iteF ⟨_, rfl, fun x dx hx hdx ne => ?_⟩
      have s1 := same_start (C := a.br) hx hdx
      exact ⟨x, dx, l, ws, ts, rfl, upd_same, s1 _ _ el, ps.mono (.of s1), h2, hs', hd', fun H' p b => ⟨rfl, q x H' (same_made hx hdx b) p⟩⟩
end
end K34
set_option Elab.async false
set_option linter.all false
set_option maxRecDepth 100000
set_option maxHeartbeats 4000000
/-! part_of: a stack of told parts, each with the parts that are made so far. -/
namespace K34
open PySem PySem.Spec PyProof.Rows L2 C8
/-- a told part that is being made -/
structure Fra where
  q : Addr
  v : V
  l : Addr
  ws : List V
  t : Tr
  n : Nat
structure FraAt (a : Ad) (nm : List Str) (H : Hp) (f : Fra) : Prop where
  eq_ : H f.q = some (.tup [f.v, .ref f.l])
  told : ToldAt nm H f.v f.t
  el : H f.l = some (.lst f.ws)
  ps : PartsAt a nm H f.ws ((kids f.t).take f.n)
  le : f.n ≤ (kids f.t).length
  okt : ok nm.length f.t
  sm : sz f.t ≤ 60
  dm : dp f.t ≤ 20
theorem FraAt.mono {a : Ad} {nm : List Str} {H H' : Hp} {f : Fra} (F : FraAt a nm H f) (k : Fixes H H') (e : H' f.l = H f.l) : FraAt a nm H' f :=
  ⟨k _ _ F.eq_ rfl, F.told.mono k, e.trans F.el, F.ps.mono k, F.le, F.okt, F.sm, F.dm⟩
def StackAt (a : Ad) (nm : List Str) (T : Tr) (H : Hp) : List Fra → Prop
  | [] => True
  | [f] => f.t = T ∧ FraAt a nm H f
  | f :: g :: r => (kids g.t)[g.n]? = some f.t ∧ FraAt a nm H f ∧ StackAt a nm T H (g :: r)
theorem StackAt.top {a : Ad} {nm : List Str} {T : Tr} {H : Hp} {f : Fra} : ∀ {r : List Fra}, StackAt a nm T H (f :: r) → FraAt a nm H f
  | [], h => h.2
  | _ :: _, h => h.2.1
theorem StackAt.tail {a : Ad} {nm : List Str} {T : Tr} {H : Hp} {f : Fra} : ∀ {r : List Fra}, StackAt a nm T H (f :: r) → StackAt a nm T H r
  | [], _ => trivial
  | _ :: _, h => h.2.2
theorem StackAt.mono {a : Ad} {nm : List Str} {T : Tr} {H H' : Hp} (k : Fixes H H') : ∀ {r : List Fra}, StackAt a nm T H r → (∀ f ∈ r, H' f.l = H f.l) → StackAt a nm T H' r
  | [], _, _ => trivial
  | [f], h, e => ⟨h.1, h.2.mono k (e f List.mem_cons_self)⟩
  | f :: g :: r, h, e => ⟨h.1, h.2.1.mono k (e f List.mem_cons_self), StackAt.mono k h.2.2 fun x hx => e x (List.mem_cons_of_mem _ hx)⟩
theorem StackAt.all {a : Ad} {nm : List Str} {T : Tr} {H : Hp} : ∀ {r : List Fra}, StackAt a nm T H r → ∀ f ∈ r, FraAt a nm H f
  | [], _, f, hf => by cases hf
  | g :: r, h, f, hf => by
    rcases List.mem_cons.mp hf with e | hf
    · rw [e]; exact h.top
    · exact StackAt.all h.tail f hf
def lowM : List Fra → Nat
  | [] => 0
  | g :: r => 2 * szs ((kids g.t).drop (g.n + 1)) + 1 + lowM r
def mu : List Fra → Nat
  | [] => 0
  | f :: r => 2 * szs ((kids f.t).drop f.n) + 1 + lowM r
theorem len_low : ∀ r : List Fra, r.length ≤ lowM r
  | [] => Nat.le_refl _
  | g :: r => by have := len_low r; simp only [List.length_cons, lowM]; omega
theorem len_mu : ∀ r : List Fra, r.length ≤ mu r
  | [] => Nat.le_refl _
  | g :: r => by have := len_low r; simp only [List.length_cons, mu]; omega
theorem szs_drop {ts : List Tr} {n : Nat} {u : Tr} (h : ts[n]? = some u) : szs (ts.drop n) = sz u + szs (ts.drop (n + 1)) := by
  obtain ⟨h1, h2⟩ := List.getElem?_eq_some_iff.mp h
  rw [List.drop_eq_getElem_cons h1, h2]
  rfl
abbrev refsOf (r : List Fra) : List V := r.reverse.map fun f => V.ref f.q
theorem refsOf_cons (f : Fra) (r : List Fra) : refsOf (f :: r) = refsOf r ++ [V.ref f.q] := by simp [refsOf]
structure Making (a : Ad) (nm : List Str) (T : Tr) (H0 : Hp) (lo : Addr) (H : Hp) (fr : List Fra) : Prop where
  same : Same H0 H
  lo0 : H0 lo = none
  elo : H lo = some (.lst (refsOf fr))
  st : StackAt a nm T H fr
  nd : (fr.map (·.l)).Nodup
  nlo : lo ∉ fr.map (·.l)
  l0 : ∀ f ∈ fr, H0 f.l = none
theorem Making.keep {a : Ad} {nm : List Str} {T : Tr} {H0 : Hp} {lo : Addr} {H H' : Hp} {fr : List Fra} (M : Making a nm T H0 lo H fr) (s : Same H H') : Making a nm T H0 lo H' fr :=
  ⟨M.same.trans s, M.lo0, s _ _ M.elo, M.st.mono (.of s) fun f hf => by
    have e := (M.st.all f hf).el
    rw [s _ _ e, e], M.nd, M.nlo, M.l0⟩
/-- one told part more -/
theorem Making.push {a : Ad} {nm : List Str} {T : Tr} {H0 : Hp} {lo : Addr} {H H2 : Hp} {f : Fra} {r : List Fra} {qn ln : Addr} {vu : V} {u : Tr} (M : Making a nm T H0 lo H (f :: r)) (s : Same H H2) (hu : (kids f.t)[f.n]? = some u) (tu : ToldAt nm H vu u)
    (oku : ok nm.length u) (hln : H ln = none) (eln : H2 ln = some (.lst [])) (eqn : H2 qn = some (.tup [vu, .ref ln])) :
    Making a nm T H0 lo (upd H2 lo (.lst (refsOf (f :: r) ++ [V.ref qn]))) (⟨qn, vu, ln, [], u, 0⟩ :: f :: r) := by
  have M2 := M.keep s
  have nl : ln ≠ lo := fun z => by
    subst z
    rw [M.elo] at hln; cases hln
  have fx : Fixes H2 (upd H2 lo (.lst (refsOf (f :: r) ++ [V.ref qn]))) := (But.upd (l := [lo]) _ (by simp)).fix1 (.lst M2.elo)
  have F := M.st.top
  have dk := dp_kids f.t
  have zk := sz_kids f.t
  have dg := dp_get hu
  have zg := sz_get hu
  have sm := F.sm
  have dm := F.dm
  refine ⟨fun b o z => ?_, M.lo0, (by rw [upd_same]; exact congrArg (fun z => some (HO.lst z)) (refsOf_cons ⟨qn, vu, ln, [], u, 0⟩ (f :: r)).symm), ⟨hu, ⟨fx _ _ eqn rfl, (tu.mono (.of s)).mono fx, ?_, ?_, Nat.zero_le _, oku, ?_, ?_⟩, M2.st.mono fx fun g hg => ?_⟩, ?_, ?_, ?_⟩
  · rw [upd_ne (fun q => by subst q; rw [M.lo0] at z; cases z)]
    exact M2.same b o z
  · exact (upd_ne nl).trans eln
  · simp only [List.take_zero]; exact .nil
  · show sz u ≤ 60
    omega
  · show dp u ≤ 20
    omega
  · exact upd_ne fun q => M.nlo (List.mem_map.mpr ⟨g, hg, q⟩)
  · rw [List.map_cons]
    refine List.nodup_cons.mpr ⟨fun z => ?_, M.nd⟩
    obtain ⟨g, hg, e⟩ := List.mem_map.mp z
    have := (M.st.all g hg).el
    rw [show g.l = ln from e, hln] at this
    cases this
  · rw [List.map_cons]
    intro z
    rcases List.mem_cons.mp z with z | z
    · exact nl z.symm
    · exact M.nlo z
  · intro g hg
    rcases List.mem_cons.mp hg with z | hg
    · rw [z]
      exact M.same.free hln
    · exact M.l0 g hg
theorem mu_push {f : Fra} {r : List Fra} {qn ln : Addr} {vu : V} {u : Tr} (hu : (kids f.t)[f.n]? = some u) : mu (⟨qn, vu, ln, [], u, 0⟩ :: f :: r) < mu (f :: r) := by
  have e := szs_drop hu
  have z := sz_kids u
  simp only [mu, lowM, List.drop_zero]
  omega
/-- the last told part is made -/
theorem Making.pop0 {a : Ad} {nm : List Str} {T : Tr} {H0 : Hp} {lo : Addr} {H : Hp} {f : Fra} {r : List Fra} (M : Making a nm T H0 lo H (f :: r)) : Making a nm T H0 lo (upd H lo (.lst (refsOf r))) r := by
  have fx : Fixes H (upd H lo (.lst (refsOf r))) := (But.upd (l := [lo]) _ (by simp)).fix1 (.lst M.elo)
  refine ⟨fun b o z => ?_, M.lo0, upd_same, M.st.tail.mono fx fun g hg => upd_ne fun q => M.nlo (List.mem_map.mpr ⟨g, List.mem_cons_of_mem _ hg, q⟩), (List.nodup_cons.mp M.nd).2, fun z => M.nlo (List.mem_cons_of_mem _ z), fun g hg => M.l0 g (List.mem_cons_of_mem _ hg)⟩
  rw [upd_ne (fun q => by subst q; rw [M.lo0] at z; cases z)]
  exact M.same b o z
/-- it is put to the parts of the one that it is in -/
theorem Making.put {a : Ad} {nm : List Str} {T : Tr} {H0 : Hp} {lo : Addr} {H : Hp} {g : Fra} {r : List Fra} {x : Addr} {u : Tr} (M : Making a nm T H0 lo H (g :: r)) (hu : (kids g.t)[g.n]? = some u) (p : PartAt a nm H (.ref x) u) :
    Making a nm T H0 lo (upd H g.l (.lst (g.ws ++ [V.ref x]))) ({ g with ws := g.ws ++ [V.ref x], n := g.n + 1 } :: r) := by
  have G := M.st.top
  have fx : Fixes H (upd H g.l (.lst (g.ws ++ [V.ref x]))) := (But.upd (l := [g.l]) _ (by simp)).fix1 (.lst G.el)
  have nlo : lo ≠ g.l := fun z => M.nlo (by rw [z]; exact List.mem_cons_self)
  have hlt := (List.getElem?_eq_some_iff.mp hu).1
  have F : FraAt a nm (upd H g.l (.lst (g.ws ++ [V.ref x]))) { g with ws := g.ws ++ [V.ref x], n := g.n + 1 } := by
    refine ⟨fx _ _ G.eq_ rfl, G.told.mono fx, upd_same, ?_, hlt, G.okt, G.sm, G.dm⟩
    show PartsAt a nm _ (g.ws ++ [V.ref x]) ((kids g.t).take (g.n + 1))
    rw [List.take_add_one, hu]
    exact (G.ps.mono fx).snoc (p.mono fx)
  have rest : StackAt a nm T (upd H g.l (.lst (g.ws ++ [V.ref x]))) r := M.st.tail.mono fx fun h hh => upd_ne fun q => (List.nodup_cons.mp M.nd).1 (List.mem_map.mpr ⟨h, hh, q⟩)
  refine ⟨fun b o z => ?_, M.lo0, (by rw [upd_ne nlo, M.elo, refsOf_cons, refsOf_cons]), ?_, M.nd, M.nlo, fun h hh => ?_⟩
  · rw [upd_ne (fun q => by subst q; rw [M.l0 g List.mem_cons_self] at z; cases z)]
    exact M.same b o z
  · cases r with
    | nil => exact ⟨M.st.1, F⟩
    | cons h r => exact ⟨M.st.1, F, rest⟩
  · rcases List.mem_cons.mp hh with z | hh
    · rw [z]; exact M.l0 g List.mem_cons_self
    · exact M.l0 h (List.mem_cons_of_mem _ hh)
theorem mu_put {f g : Fra} {r : List Fra} {ws : List V} : mu ({ g with ws := ws, n := g.n + 1 } :: r) < mu (f :: g :: r) := by
  simp only [mu, lowM]
  omega
theorem mu_pop {f : Fra} : mu [] < mu [f] := by
  simp only [mu]; omega
/-- how a told part begins -/
theorem ToldAt.head {nm : List Str} {H : Hp} {v : V} {t : Tr} (h : ToldAt nm H v t) : ∃ p tl, v = .ref p ∧ H p = some (.tup (.str (hdOf t) :: tl)) ∧ (isSg t = false → ToldsAt nm H tl (kids t)) := by
  cases h with
  | fx e => exact ⟨_, _, rfl, e, fun z => by cases z⟩
  | ct e hi => exact ⟨_, _, rfl, e, fun z => by cases z⟩
  | nt e ht => exact ⟨_, _, rfl, e, fun _ => .cons ht .nil⟩
  | gr e ht => exact ⟨_, _, rfl, e, fun _ => ht⟩
theorem in_sg : ∀ t : Tr, inV (.str (hdOf t)) [.str "fixed", .str "contact"] = isSg t
  | .fx _ => by show inV (.str "fixed") [.str "fixed", .str "contact"] = true; decide +kernel
  | .ct _ => by show inV (.str "contact") [.str "fixed", .str "contact"] = true; decide +kernel
  | .nt _ => by show inV (.str "not") [.str "fixed", .str "contact"] = false; decide +kernel
  | .gr true _ => by show inV (.str "and") [.str "fixed", .str "contact"] = false; decide +kernel
  | .gr false _ => by show inV (.str "or") [.str "fixed", .str "contact"] = false; decide +kernel
theorem ok_kids {n : Nat} : ∀ {t : Tr}, ok n t → ∀ u ∈ kids t, ok n u
  | .fx _, _, u, h => by cases h
  | .ct _, _, u, h => by cases h
  | .nt t, o, u, h => by rw [List.mem_singleton.mp h]; exact o
  | .gr _ ts, o, u, h => oks_mem o.2 u h
def spPartOf (a : Ad) (nm : List Str) : Sp := fun vs H Q _ => ∃ (v : V) (t : Tr), vs = [v] ∧ ToldAt nm H v t ∧ ok nm.length t ∧ sz t ≤ 60 ∧ dp t ≤ 20 ∧ (∀ x ∈ nm, Good x) ∧ ∀ q H', Same H H' → PartAt a nm H' (.ref q) t → Q (.ref q) H'
section
variable {P : Program} {w : World} {K : PySem.W.Frag} {mg : Str → Option Value} {base : Heap} {a : Ad} {fs : Fs} {nm : List Str}
/-- a made part is put to the one that it is in -/
def tEnd (K : PySem.W.Frag) : TS := tIfS (tTest (tOp rNeNil (tVar 1) (tLst tNil))) (tDrop (tBM K "list" rAppend (tOp (rIxT K) (tOp (rIxL K) (tVar 1) (tUn (rU fun i => V.int (-i)) (tC (V.int 1)))) (tC (V.int 1))) (tCons (tVar 2) tNil))) tNext
def onTop (T : Tr) (f : Fra) : List Fra → Prop
  | [] => f.t = T
  | g :: _ => (kids g.t)[g.n]? = some f.t
theorem part_end {T : Tr} {H : Hp} {lo : Addr} {f : Fra} {r : List Fra} {x : Addr} {H5 : Hp} {E : Ends} {v : V} {w3 w4 w5 : Option V} (M5 : Making a nm T H lo H5 r) (p5 : PartAt a nm H5 (.ref x) f.t)
    (top : onTop T f r) (m1000 : mu (f :: r) ≤ 1000)
    (hN : ∀ σ' H', (∃ m', m' < mu (f :: r) ∧ ∃ (fr : List Fra) (v2 v3 v4 v5 : Option V), σ' = [some v, some (.ref lo), v2, v3, v4, v5] ∧ Making a nm T H lo H' fr ∧ m' = mu fr ∧ m' ≤ 1000 ∧ (fr = [] → ∃ x, v2 = some (.ref x) ∧ PartAt a nm H' (.ref x) T)) → E.nx σ' H') :
    tEnd K E [some v, some (.ref lo), some (.ref x), w3, w4, w5] H5 := by
  refine ⟨_, rfl, (by show 0 ≤ sizeLine; decide), fun e3 he3 => ⟨lo, e3, _, rfl, rfl, Same.new _ he3 _ _ M5.elo, upd_same, _, rfl, ?_⟩⟩
  have M6 := M5.keep (Same.new (.lst []) he3)
  have p6 := p5.mono (.of (Same.new (.lst []) he3))
  cases r with
  | nil =>
    have e : (!(refsOf ([] : List Fra)).isEmpty) = false := rfl
    rw [e]
    refine iteF (hN _ _ ⟨0, mu_pop, [], _, _, _, _, rfl, M6, rfl, Nat.zero_le _, fun _ => ⟨x, rfl, (show f.t = T from top) ▸ p6⟩⟩)
  | cons g' r =>
    have e : (!(refsOf (g' :: r)).isEmpty) = true := by rw [refsOf_cons]; simp
    rw [e]
    have G6 := M6.st.top
    refine iteT ⟨_, rfl, _, rfl, lo, _, _, _, rfl, rfl, SqL.of (by rw [M6.elo, refsOf_cons]), atI_last _ _, g'.q, _, _, _, rfl, rfl, SqT.of G6.eq_, atI_nat (j := 1) rfl, .inl ⟨rfl, _, SqL.of G6.el⟩, _, rfl, g'.l, g'.ws, _, rfl, rfl, G6.el, ?_, hN _ _ ?_⟩
    · have h1 := G6.ps.len
      have h2 := sz_kids g'.t
      have h3 := szs_len (kids g'.t)
      have h4 := G6.sm
      rw [List.length_take] at h1
      have : sizeLine ≥ 1001 := by decide
      omega
    · have mp := mu_put (f := f) (g := g') (r := r) (ws := g'.ws ++ [V.ref x])
      exact ⟨_, mp, _, _, _, _, _, rfl, M6.put top p6, rfl, by omega, fun z => by cases z⟩
theorem ok_partOf (g : G K mg a fs) : CalAt P w K mg base 26 fs.fPartOf (spPartOf a nm) := by
  have CS : Cal P w K mg base 5 "single" (spSingle a nm) [] := cal_of (ok_single g) (g.gl _ _ g.gSingle)
  have CJ : Cal P w K mg base 25 "joined" (spJoined a nm) [] := cal_of (ok_joined g) (g.gl _ _ g.gJoined)
  refine ok_of g.rPartOf scPartOf (fun _ _ _ _ _ _ us hl => match us, hl with | [_], _ => rfl) (fun vs H Q E h => ?_) (fun cdv A outer s H vs Q E hr h => ?_)
  · obtain ⟨v, t, rfl, _⟩ := h
    rfl
  obtain ⟨v, T, rfl, tv, okT, hs, hd, gd, q⟩ := h
  have hu0 := hr.units0
  refine ⟨_, pss_cons (ps_set (i := 1) scPartOf.nd rfl (.inl rfl) (pe_lst (pa_cons (pe_tup (pa_cons (pv 0) (pa_cons (pe_lst pa_nil) pa_nil))) pa_nil)))
    (pss_cons (ps_set (i := 2) scPartOf.nd rfl (.inl rfl) pe_non)
    (pss_cons (ps_while PassesOwn.never (pt_cmpR (op_neNil hu0) (pv 1) (pe_lst pa_nil) (nomark _))
      (pss_cons (ps_asg (pe_ix ix_list (pv 1) (pe_un un_neg pe_int) (fun _ _ => rfl)) (pg_tup rfl (pgs_cons (pg_name (i := 3) scPartOf.nd rfl (.inl rfl)) (pgs_cons (pg_name (i := 4) scPartOf.nd rfl (.inl rfl)) pgs_nil))))
      (pss_cons (ps_set (i := 5) scPartOf.nd rfl (.inl rfl) (pe_cmpR op_in_seq (pe_ix ix_tup (pv 3) pe_int (fun _ _ => rfl)) (pe_tup (pa_cons pe_str (pa_cons pe_str pa_nil))) (by rfl)))
      (pss_cons (ps_if (PW.pt (pw_and (pt_not (pt_val (pv 5))) (pw_and1 (pt_cmpR op_lt (pe_callB call_len_seq (by rfl) (g.no _ g.z_len) PySem.boot_len (pa_cons (pv 4) pa_nil)) (pe_op op_sub (pe_callB call_len_seq (by rfl) (g.no _ g.z_len) PySem.boot_len (pa_cons (pv 3) pa_nil)) pe_int) (nomark _)))))
        (pss_cons (ps_expr (pe_bm PySem.F.plainAttrs_list PySem.F.slot_list_append PySem.F.type_list_append mt_append (pv 1) (pa_cons (pe_tup (pa_cons (pe_ix ix_tup (pv 3) (pe_op op_add pe_int (pe_callB call_len_seq (by rfl) (g.no _ g.z_len) PySem.boot_len (pa_cons (pv 4) pa_nil))) (fun _ _ => rfl)) (pa_cons (pe_lst pa_nil) pa_nil))) pa_nil)))
        (pss_one ps_continue)) pss_nil)
      (pss_cons (ps_expr (pe_bm0 PySem.F.plainAttrs_list PySem.F.slot_list_pop PySem.F.type_list_pop mt_pop (pv 1)))
      (pss_cons (ps_set (i := 2) scPartOf.nd rfl (.inl rfl) (pe_ifExp (pt_val (pv 5)) (pe_c CS hr (by omega) rfl (pa_cons (pv 3) pa_nil)) (pe_c CJ hr (Nat.le_refl _) rfl (pa_cons (pe_ix ix_tup (pv 3) pe_int (fun _ _ => rfl)) (pa_cons (pv 4) pa_nil)))))
      (pss_one (ps_if (pt_cmpR (op_neNil hu0) (pv 1) (pe_lst pa_nil) (nomark _))
        (pss_one (ps_expr (pe_bm PySem.F.plainAttrs_list PySem.F.slot_list_append PySem.F.type_list_append mt_append (pe_ix ix_tup (pe_ix ix_list (pv 1) (pe_un un_neg pe_int) (fun _ _ => rfl)) pe_int (fun _ _ => rfl)) (pa_cons (pv 2) pa_nil)))) pss_nil))))))))
    (pss_one (ps_ret (pv 2))))), ?_⟩
  -- opened = [(told, [])]
  refine ⟨_, rfl, (by show 0 ≤ sizeLine; decide), fun l0 hl0 => ⟨(by show 2 ≤ sizeLine; decide), fun q0 hq0 => ⟨(by show 1 ≤ sizeLine; decide), fun lo hlo => ?_⟩⟩⟩
  have s1 := Same.new (.lst []) hl0
  have s2 := Same.new (.tup [v, .ref l0]) hq0
  have s3 := Same.new (.lst [V.ref q0]) hlo
  have s03 := s1.trans (s2.trans s3)
  have M0 : Making a nm T H lo (upd (upd (upd H l0 (.lst [])) q0 (.tup [v, .ref l0])) lo (.lst [V.ref q0])) [⟨q0, v, l0, [], T, 0⟩] := by
    refine ⟨s03, s1.free (s2.free hlo), upd_same, ⟨rfl, s3 _ _ upd_same, tv.mono (.of s03), s3 _ _ (s2 _ _ upd_same), by simp only [List.take_zero]; exact .nil, Nat.zero_le _, okT, hs, hd⟩, List.nodup_cons.mpr ⟨by simp, List.nodup_nil⟩, ?_, fun f hf => ?_⟩
    · intro z
      have e : lo = l0 := by simpa using z
      subst e
      have := s2 _ _ (upd_same (H := H) (a := lo) (o := .lst []))
      rw [hlo] at this; cases this
    · rw [List.mem_singleton.mp hf]; exact hl0
  refine ⟨fun m σ H2 => ∃ (fr : List Fra) (v2 v3 v4 v5 : Option V), σ = [some v, some (.ref lo), v2, v3, v4, v5] ∧ Making a nm T H lo H2 fr ∧ m = mu fr ∧ m ≤ 1000 ∧ (fr = [] → ∃ x, v2 = some (.ref x) ∧ PartAt a nm H2 (.ref x) T),
    ⟨_, _, _, none, none, none, rfl, M0, rfl, ?_, fun z => by cases z⟩, ?_⟩
  · have := szs_cut (kids T) 0
    have := sz_kids T
    simp only [mu, lowM, List.take_zero, szs, List.drop_zero] at *
    omega
  rintro m σ H2 ⟨fr, v2, v3, v4, v5, rfl, M, rfl, m1000, fin⟩
  refine ⟨_, rfl, (by show 0 ≤ sizeLine; decide), fun e1 he1 => ⟨lo, e1, _, rfl, rfl, Same.new _ he1 _ _ M.elo, upd_same, _, rfl, ?_⟩⟩
  have M1 := M.keep (Same.new (.lst []) he1)
  obtain ⟨H3, eH3⟩ : ∃ H3 : Hp, H3 = upd H2 e1 (.lst []) := ⟨_, rfl⟩
  rw [← eH3] at M1 ⊢
  cases fr with
  | nil =>
    have e : (!(refsOf ([] : List Fra)).isEmpty) = false := rfl
    rw [e]
    refine iteF ?_
    obtain ⟨x, rfl, p⟩ := fin rfl
    exact ⟨_, rfl, q x H3 M1.same (p.mono (by rw [eH3]; exact .of (Same.new _ he1)))⟩
  | cons f r =>
    have e : (!(refsOf (f :: r)).isEmpty) = true := by rw [refsOf_cons]; simp
    rw [e]
    refine iteT ⟨fun σ' H' => ∃ m', m' < mu (f :: r) ∧ ∃ (fr : List Fra) (v2 v3 v4 v5 : Option V), σ' = [some v, some (.ref lo), v2, v3, v4, v5] ∧ Making a nm T H lo H' fr ∧ m' = mu fr ∧ m' ≤ 1000 ∧ (fr = [] → ∃ x, v2 = some (.ref x) ∧ PartAt a nm H' (.ref x) T), fun _ _ z => z, ?_⟩
    have F := M1.st.top
    obtain ⟨p, tl, ev, ep, tks⟩ := F.told.head
    have elo : H3 lo = some (.lst (refsOf r ++ [V.ref f.q])) := by rw [← refsOf_cons]; exact M1.elo
    have len := len_mu (f :: r)
    -- one, parts = opened[-1]
    refine ⟨_, rfl, _, rfl, lo, _, _, _, rfl, rfl, SqL.of elo, atI_last _ _, f.q, _, rfl, SqT.of F.eq_, rfl, _, _, rfl, _, _, rfl, rfl, ?_⟩
    rw [ev]
    -- is_single
    refine ⟨_, rfl, p, _, _, _, rfl, rfl, SqT.of ep, atI_nat (j := 0) rfl, (by show 2 ≤ sizeLine; decide), fun e2 he2 => ⟨e2, _, rfl, .inr (SqT.of upd_same), rfl, rfl, ?_⟩⟩
    have es : (if false = true then !inV (V.str (hdOf f.t)) [.str "fixed", .str "contact"] else inV (V.str (hdOf f.t)) [.str "fixed", .str "contact"]) = isSg f.t := by rw [in_sg]; rfl
    rw [es]
    have M2 := M1.keep (Same.new (.tup [V.str "fixed", .str "contact"]) he2)
    obtain ⟨H4, eH4⟩ : ∃ H4 : Hp, H4 = upd H3 e2 (.tup [V.str "fixed", .str "contact"]) := ⟨_, rfl⟩
    have s34 : Same H3 H4 := by rw [eH4]; exact Same.new _ he2
    rw [← eH4] at M2 ⊢
    have F4 := M2.st.top
    have ep4 := s34 _ _ ep
    have elo4 : H4 lo = some (.lst (refsOf r ++ [V.ref f.q])) := by rw [← refsOf_cons]; exact M2.elo
    have wl : f.ws.length = f.n := by
      have := F4.ps.len
      rw [List.length_take] at this
      have := F4.le
      omega
    refine ⟨_, rfl, _, rfl, ?_⟩
    have kl : isSg f.t = false → tl.length = (kids f.t).length := fun z => (tks z).len
    have top : onTop T f r := by
      cases r with
      | nil => exact M2.st.1
      | cons g r => exact M2.st.1
    have lastq : (refsOf r ++ [V.ref f.q])[(refsOf r ++ [V.ref f.q]).length - 1]? = some (V.ref f.q) := by
      rw [← List.getLast?_eq_getElem?, List.getLast?_concat]
    cases sg : isSg f.t with
    | false =>
      refine iteT ⟨_, rfl, f.l, _, rfl, .inl (SqL.of F4.el), _, rfl, p, _, rfl, .inr (SqT.of ep4), _, _, rfl, rfl, _, _, rfl, rfl, _, rfl, ?_⟩
      have tl1 := kl sg
      refine ite2 (fun c => ?_) (fun c => ?_)
      · have c' : f.n < (kids f.t).length := by
          have := of_decide_eq_true c
          rw [List.length_cons] at this
          omega
        obtain ⟨vu, hvu⟩ : ∃ vu, tl[f.n]? = some vu := ⟨_, List.getElem?_eq_getElem (by omega)⟩
        obtain ⟨u, hu, tu⟩ := (tks sg).get hvu
        have eix : atI (V.str (hdOf f.t) :: tl) (1 + (f.ws.length : Int)) = some vu := by
          rw [show (1 : Int) + (f.ws.length : Int) = ((f.n + 1 : Nat) : Int) by omega]
          exact atI_nat (by rw [List.getElem?_cons_succ]; exact hvu)
        refine ⟨_, rfl, .inl ⟨rfl, _, SqL.of elo4⟩, _, rfl, _, rfl, f.l, _, rfl, .inl (SqL.of F4.el), _, _, rfl, rfl, p, _, _, _, rfl, rfl, SqT.of ep4, eix, (by show 0 ≤ sizeLine; decide), fun ln hln => ⟨(by show 2 ≤ sizeLine; decide), fun qn hqn => ?_⟩⟩
        have s1 := Same.new (.lst []) hln
        have s2 := Same.new (.tup [vu, .ref ln]) hqn
        have s12 := s1.trans s2
        have lm : (refsOf r ++ [V.ref f.q]).length < sizeLine := by
          have : sizeLine ≥ 1001 := by decide
          simp only [refsOf, List.length_append, List.length_map, List.length_reverse, List.length_cons, List.length_nil] at len ⊢
          omega
        refine ⟨lo, _, _, rfl, rfl, s12 _ _ elo4, lm, ?_⟩
        have MP := M2.push (qn := qn) (ln := ln) (vu := vu) s12 hu (tu.mono (.of s34)) (ok_kids F4.okt u (List.mem_of_getElem? hu)) hln (s2 _ _ upd_same) upd_same
        rw [refsOf_cons] at MP
        have mp := mu_push (r := r) (qn := qn) (vu := vu) (ln := ln) hu
        exact ⟨_, mp, _, _, _, _, _, rfl, MP, rfl, by omega, fun z => by cases z⟩
      · have c' : f.n = (kids f.t).length := by
          have : ¬ ((f.ws.length : Int) < ((V.str (hdOf f.t) :: tl).length : Nat) - 1) := fun z => c (decide_eq_true z)
          rw [List.length_cons] at this
          have := F4.le
          omega
        have MQ := M2.pop0
        refine ⟨_, rfl, .inl ⟨rfl, _, SqL.of elo4⟩, lo, _, _, rfl, rfl, elo4, lastq, ?_⟩
        rw [List.dropLast_concat]
        have fxq : Fixes H4 (upd H4 lo (.lst (refsOf r))) := (But.upd (l := [lo]) _ (by simp)).fix1 (.lst elo4)
        refine ⟨_, rfl, _, rfl, iteF ?_⟩
        have ps := F4.ps
        rw [c', List.take_length] at ps
        have nl : f.l ≠ lo := fun z => M2.nlo (by rw [← z]; exact List.mem_cons_self)
        refine ⟨_, rfl, p, _, _, _, rfl, rfl, SqT.of (fxq _ _ ep4 rfl), atI_nat (j := 0) rfl, _, rfl, f.l, f.ws, f.t, rfl, sg, (upd_ne nl).trans F4.el, ps.mono fxq, F4.okt, F4.sm, F4.dm, fun x H5 s5 p5 => ?_⟩
        have M5 := MQ.keep s5
        exact part_end (K := K) M5 p5 top m1000 fun _ _ z => z
    | true =>
      refine iteF ?_
      have MQ := M2.pop0
      refine ⟨_, rfl, .inl ⟨rfl, _, SqL.of elo4⟩, lo, _, _, rfl, rfl, elo4, lastq, ?_⟩
      rw [List.dropLast_concat]
      have fxq : Fixes H4 (upd H4 lo (.lst (refsOf r))) := (But.upd (l := [lo]) _ (by simp)).fix1 (.lst elo4)
      refine ⟨_, rfl, _, rfl, iteT ?_⟩
      refine ⟨_, rfl, .ref p, f.t, rfl, ev ▸ F4.told.mono fxq, sg, gd, fun x H5 s5 p5 => ?_⟩
      have M5 := MQ.keep s5
      exact part_end (K := K) M5 p5 top m1000 fun _ _ z => z
end
end K34
set_option Elab.async false
set_option linter.all false
set_option maxRecDepth 100000
set_option maxHeartbeats 4000000
/-! Sheets: drawn, node, __init__. -/
namespace K34
open PySem PySem.Spec PyProof.Rows L2 C8
/-- the node of a part: it holds where the part does -/
def spDr (a : Ad) (nm : List Str) (d : Nat) : Sp := fun vs H Q _ => ∃ (L : Sl) (ns : List Nd) (v : V) (t : Tr), vs = [.ref L.p, v] ∧ SheetAt a nm L H ns ∧ PartAt a nm H v t ∧ ok nm.length t ∧ nm.length ≤ 6 ∧ nm.Nodup ∧ dp t ≤ d ∧ ns.length + 126 * sz t ≤ 2000 ∧
  ∀ (ns' : List Nd) (k : Nat) (t' : DT) (H' : Hp), SheetAt a nm L H' ns' → ns <+: ns' → ns'.length + 63 ≤ ns.length + 126 * sz t → Den ns' k t' → (∀ e, dev e t' = ev e t) → But [L.ln, L.dn] H H' → Q (.int k) H'
def spInit (a : Ad) (nm : List Str) : Sp := fun vs H Q _ => ∃ (x dx l : Addr), vs = [.ref x, .ref l] ∧ H x = some (.ins a.sh dx []) ∧ H l = some (.lst (nm.map V.str)) ∧ nm.length ≤ 6 ∧ nm.Nodup ∧ (∀ y ∈ nm, Good y) ∧
  ∀ (L : Sl) (H' : Hp), L.p = x → SheetAt a nm L H' [] → But [x] H H' → H L.ln = none → H L.dn = none → Q .non H'
theorem first_at {nm : List Str} (nd : nm.Nodup) {i : Nat} {x : Str} (h : nm[i]? = some x) : ∀ m, m < i → nm[m]? ≠ some x := fun m hm e => by
  obtain ⟨h1, h2⟩ := List.getElem?_eq_some_iff.mp h
  obtain ⟨h3, h4⟩ := List.getElem?_eq_some_iff.mp e
  exact List.pairwise_iff_getElem.mp nd m i h3 h1 hm (h4.trans h2.symm)
theorem inV_names {nm : List Str} {x : Str} (h : x ∈ nm) : inV (.str x) (nm.map V.str) = true := by
  refine List.any_eq_true.mpr ⟨.str x, List.mem_map.mpr ⟨x, h, rfl⟩, ?_⟩
  show (x == x) = true
  exact beq_self_eq_true x
theorem flat_names : ∀ nm : List Str, (nm.map V.str).all flatV = true
  | [] => rfl
  | x :: r => by rw [List.map_cons, List.all_cons, flat_names r]; rfl
theorem bl01 (b : Bool) : (if b = true then (1 : Int) else 0) = ((b.toNat : Nat) : Int) := by cases b <;> rfl
theorem sheet_made {a : Ad} {nm : List Str} {H H2 : Hp} {x dx tn ln dn : Addr} {o : Obj} (s2 : Same H H2) (tn2 : H2 tn = some (.frz o (.tup (nm.map V.str)))) (dno : o.dict = none) (n1 : tn ≠ x)
    (hln : (upd H2 x (.ins a.sh dx [("names", .ref tn)])) ln = none) (n2 : ln ≠ x) (hdn : (upd (upd (upd H2 x (.ins a.sh dx [("names", .ref tn)])) ln (.lst [])) x (.ins a.sh dx [("names", .ref tn), ("nodes", .ref ln)])) dn = none) (n4 : dn ≠ x) :
    SheetAt a nm ⟨x, dx, tn, ln, dn⟩ (upd (upd (upd (upd (upd H2 x (.ins a.sh dx [("names", .ref tn)])) ln (.lst [])) x (.ins a.sh dx [("names", .ref tn), ("nodes", .ref ln)])) dn (.dT [])) x (.ins a.sh dx [("names", .ref tn), ("nodes", .ref ln), ("numbers", .ref dn)])) [] ∧
    But [x] H (upd (upd (upd (upd (upd H2 x (.ins a.sh dx [("names", .ref tn)])) ln (.lst [])) x (.ins a.sh dx [("names", .ref tn), ("nodes", .ref ln)])) dn (.dT [])) x (.ins a.sh dx [("names", .ref tn), ("nodes", .ref ln), ("numbers", .ref dn)])) ∧ H ln = none ∧ H dn = none := by
  have hln2 : H2 ln = none := by rw [upd_ne n2] at hln; exact hln
  have n5 : dn ≠ ln := fun z => by
    rw [z, upd_ne n2] at hdn
    cases (upd_same.symm.trans hdn)
  have hdn2 : H2 dn = none := by rw [upd_ne n4, upd_ne n5, upd_ne n4] at hdn; exact hdn
  have n6 : tn ≠ ln := ne_of_none tn2 hln2
  have n7 : tn ≠ dn := ne_of_none tn2 hdn2
  refine ⟨⟨upd_same, ⟨o, ?_, dno⟩, ⟨[], ?_, rfl, fun i b y e1 _ => by simp at e1⟩, ?_, WF.nil _⟩, fun c u z nc => ?_, s2.free hln2, s2.free hdn2⟩
  · show upd _ x _ tn = _
    rw [upd_ne n1, upd_ne n7, upd_ne n1, upd_ne n6, upd_ne n1]
    exact tn2
  · show upd _ x _ ln = _
    rw [upd_ne n2, upd_ne n5.symm, upd_ne n2]
    exact upd_same
  · show upd _ x _ dn = _
    rw [upd_ne n4]
    exact upd_same
  · have z2 := s2 _ _ z
    have c1 : c ≠ x := fun q => nc (by rw [q]; exact List.mem_cons_self)
    rw [upd_ne c1, upd_ne (ne_of_none z2 hdn2), upd_ne c1, upd_ne (ne_of_none z2 hln2), upd_ne c1]
    exact z2
section
variable {P : Program} {w : World} {K : PySem.W.Frag} {mg : Str → Option Value} {base : Heap} {a : Ad} {fs : Fs} {nm : List Str}
theorem dr_step (g : G K mg a fs) {d : Nat} (C : CalAt P w K mg base (11 + d) fs.fDrawn (spDr a nm d)) : CalAt P w K mg base (11 + d + 1) fs.fDrawn (spDr a nm (d + 1)) := by
  have CM : Met P w K mg base 1 a.sh "made" (spMade a nm) [] := met_of (ok_made g) g.clS g.m_made_sh g.iMade
  have CO : Met P w K mg base 10 a.sh "opposite" (spOp a nm 7) [] := met_of (ok_op g 7) g.clS g.m_opposite_sh g.iOpposite
  have CJ : Met P w K mg base 10 a.sh "joined" (spSJ a nm 7) [] := met_of (ok_sj g 7) g.clS g.m_joined_sh g.iSJoined
  have CD : Met P w K mg base (11 + d) a.sh "drawn" (spDr a nm d) [] := met_of C g.clS g.m_drawn_sh g.iDrawn
  refine ok_of g.rDrawn scDrawn (fun _ _ _ _ _ _ us hl => match us, hl with | [_, _], _ => rfl) (fun vs H Q E h => ?_) (fun cdv A outer s H vs Q E hr h => ?_)
  · obtain ⟨L, ns, v, t, rfl, _⟩ := h
    rfl
  obtain ⟨L, ns, v, t, rfl, S, p, okt, h6, nd, hd, few, q⟩ := h
  refine ⟨_, pss_cons (ps_if (pt_val (pe_callB call_isi (by rfl) (g.no _ g.z_isinstance) (by decide +kernel) (pa_cons (pv 1) (pa_cons (pe_glob (v := .ref a.fx) rfl (g.gl _ _ g.c_fx) rfl) pa_nil))))
      (pss_one (ps_ret (pe_callTy call_int1 (by rfl) (g.no _ g.z_int) (by decide +kernel) (pa_cons (pe_fld (pv 1) rfl) pa_nil)))) pss_nil)
    (pss_cons (ps_if (pt_val (pe_callB call_isi (by rfl) (g.no _ g.z_isinstance) (by decide +kernel) (pa_cons (pv 1) (pa_cons (pe_glob (v := .ref a.ct) rfl (g.gl _ _ g.c_ct) rfl) pa_nil))))
      (pss_one (ps_ret (pe_mt CM hr (by omega) (pv 0) (pa_cons (pe_bmO PySem.F.plainAttrs_tuple PySem.F.slot_tuple_index PySem.F.type_tuple_index mt_tup_index (pe_fld (pv 0) rfl) (pa_cons (pe_fld (pv 1) rfl) pa_nil)) (pa_cons pe_int (pa_cons pe_int pa_nil)))))) pss_nil)
    (pss_cons (ps_if (pt_val (pe_callB call_isi (by rfl) (g.no _ g.z_isinstance) (by decide +kernel) (pa_cons (pv 1) (pa_cons (pe_glob (v := .ref a.nt) rfl (g.gl _ _ g.c_nt) rfl) pa_nil))))
      (pss_one (ps_ret (pe_mt CO hr (by omega) (pv 0) (pa_cons (pe_mt CD hr (Nat.le_refl _) (pv 0) (pa_cons (pe_fld (pv 1) rfl) pa_nil)) (pa_cons pe_dnewK pa_nil))))) pss_nil)
    (pss_cons (ps_set (i := 2) scDrawn.nd rfl (.inl rfl) (pe_callTy call_int1 (by rfl) (g.no _ g.z_int) (by decide +kernel) (pa_cons (pe_not (pe_callB call_isi (by rfl) (g.no _ g.z_isinstance) (by decide +kernel) (pa_cons (pv 1) (pa_cons (pe_glob (v := .ref a.se) rfl (g.gl _ _ g.c_se) rfl) pa_nil)))) pa_nil)))
    (pss_cons (ps_set (i := 3) scDrawn.nd rfl (.inl rfl) (pe_op op_sub pe_int (pv 2)))
    (pss_cons (ps_for PassesOwn.never rfl (pi_tup (pe_fld (pv 1) rfl)) (pg_name (i := 4) scDrawn.nd rfl (.inl rfl))
      (pss_one (ps_set (i := 3) scDrawn.nd rfl (.inl rfl) (pe_mt CJ hr (by omega) (pv 0) (pa_cons (pv 3) (pa_cons (pe_mt CD hr (Nat.le_refl _) (pv 0) (pa_cons (pv 4) pa_nil)) (pa_cons (pv 2) (pa_cons pe_dnewT pa_nil))))))))
    (pss_one (ps_ret (pv 3)))))))), ?_⟩
  obtain ⟨px, pdx, pfl, rfl, ex, fx, nl⟩ := p.obj
  refine ⟨_, rfl, _, _, _, _, _, rfl, .own _, g.ty ex, g.isFx _, _, rfl, ?_⟩
  cases p with
  | @fx _ dx b e =>
    refine iteT ⟨_, rfl, px, _, dx, _, _, rfl, e, g.cl .fx, g.n_value_fx, rfl, .inr ⟨b, rfl, ?_⟩⟩
    rw [bl01]
    exact q ns _ _ H S ⟨[], by simp⟩ (by simp only [sz]; omega) (den_bool ns b) (fun e => rfl) (But.refl _ _)
  | @ct _ dx i x e hi =>
    refine iteF ⟨_, rfl, _, _, _, _, _, rfl, .own _, g.ty ex, g.isCt _ (fun z => by cases z), _, rfl, ?_⟩
    have hlt := (List.getElem?_eq_some_iff.mp hi).1
    refine iteT ⟨_, rfl, L.p, L.dx, _, rfl, S.ob, rfl, _, rfl, L.p, a.sh, L.dx, _, _, rfl, S.ob, g.clS, g.n_names_sh, rfl, ⟨_, _, rfl, S.tn⟩, _, rfl, px, _, dx, _, _, rfl, e, g.cl .ct, g.n_name_ct, rfl, L.tn, nm, x, i, rfl, rfl, S.tn.sq, hi, first_at nd hi, ?_⟩
    refine ⟨L, ns, i, 0, 1, .lf false, .lf true, rfl, S, .z, .o, hlt, hlt, hlt, by simp only [sz] at few; omega, fun ns' k t H' S' pre len d pl ev b => ?_⟩
    exact q ns' k t H' S' pre (by simp only [sz]; omega) d (fun e => by rw [ev e]; show (if e i = true then true else false) = e i; cases e i <;> rfl) b
  | @nt _ dx v t e ht =>
    refine iteF ⟨_, rfl, _, _, _, _, _, rfl, .own _, g.ty ex, g.isCt _ (fun z => by cases z), _, rfl, ?_⟩
    refine iteF ⟨_, rfl, _, _, _, _, _, rfl, .own _, g.ty ex, g.isNt _ (fun z => by cases z) (fun z => by cases z), _, rfl, ?_⟩
    have zs : sz (.nt t) = sz t + 1 := rfl
    have ds : dp (.nt t) = dp t + 1 := rfl
    refine iteT ⟨_, rfl, L.p, L.dx, _, rfl, S.ob, rfl, _, rfl, L.p, L.dx, _, rfl, S.ob, rfl, _, rfl, px, _, dx, _, _, rfl, e, g.cl .nt, g.n_part_nt, rfl, L, ns, v, t, rfl, S, ht, okt, h6, nd, by omega, by omega, fun ns1 k1 t1 H1 S1 pre1 len1 d1 ev1 b1 => ?_⟩
    intro kd hkd
    have s1 := Same.new (.dK []) hkd
    have b7 : bd 7 = 63 := by decide
    refine ⟨L, ns1, k1, kd, [], t1, rfl, S1.same s1, d1, upd_same, fun x v e => (by cases e), by omega, by omega, by rw [b7]; decide, fun ns' kk' k' t' H' S' pre len2 _ _ _ d' o' b => ?_⟩
    refine q ns' k' t' H' S' (pre1.trans pre) (by omega) d' (fun e => by rw [o'.ev e, ev1 e]; rfl) (b1.trans (But.less (But.of s1) b fun x hx => by
      simp only [List.mem_cons, List.not_mem_nil, or_false] at hx
      rcases hx with rfl | rfl | rfl
      · exact .inr (by simp)
      · exact .inr (by simp)
      · exact .inl hkd))
  | @gr _ dx qq k vs ts e eq ht =>
    have hk1 : gk k ≠ .fx := by cases k <;> intro z <;> cases z
    have hk2 : gk k ≠ .ct := by cases k <;> intro z <;> cases z
    have f1 : (gk k).isFx = false := by cases k <;> rfl
    have f2 : (gk k).isCt = false := by cases k <;> rfl
    have f3 : (gk k).isNt = false := by cases k <;> rfl
    show (if (gk k).isFx = true then _ else _)
    rw [f1]
    refine iteF ⟨_, rfl, _, _, _, _, _, rfl, .own _, g.ty ex, g.isCt _ hk1, _, rfl, ?_⟩
    show (if (gk k).isCt = true then _ else _)
    rw [f2]
    refine iteF ⟨_, rfl, _, _, _, _, _, rfl, .own _, g.ty ex, g.isNt _ hk1 hk2, _, rfl, ?_⟩
    show (if (gk k).isNt = true then _ else _)
    rw [f3]
    refine iteF ⟨_, rfl, _, _, _, _, _, rfl, .own _, g.ty ex, g.isSe k, _, rfl, .inr ⟨_, rfl, ?_⟩⟩
    rw [bl01]
    refine ⟨_, rfl, _, _, rfl, rfl, ?_⟩
    have np : NoAttr K (a.at_ (gk k)) "parts" := by
      cases k with
      | true => exact g.n_parts_se
      | false => exact g.n_parts_br
    refine ⟨_, rfl, px, _, dx, _, _, rfl, e, g.cl _, np, rfl, qq, rfl, ⟨_, SqT.of eq⟩, ?_⟩
    have zs : sz (.gr k ts) = szs ts + 1 := rfl
    have ds : dp (.gr k ts) = dps ts + 1 := rfl
    refine for_tup (K := K) (a := qq) (xs := vs) (fun i σ H' => ∃ (y : Option V) (ns' : List Nd) (kf : Nat) (tf : DT), σ = [some (.ref L.p), some (.ref px), some (.int ((!k).toNat : Nat)), some (.int kf), y] ∧ SheetAt a nm L H' ns' ∧ ns <+: ns' ∧ ns'.length ≤ ns.length + 126 * szs (ts.take i) ∧ Den ns' kf tf ∧
        (∀ e, dev e tf = grp k (evs e (ts.take i))) ∧ But [L.ln, L.dn] H H') ⟨none, ns, k.toNat, .lf k, ?_, S, ⟨[], by simp⟩, by simp [szs], den_bool ns k, fun e => ?_, But.refl _ _⟩ (fun i σ H' _ ⟨_, _, _, _, _, _, _, _, _, _, b⟩ => SqT.of (b.fix2 S.mLn S.mDn _ _ eq rfl)) ?_ ?_
    · show [some (V.ref L.p), some (V.ref px), some (V.int _), some (V.int ((1 : Int) - (((!k).toNat : Nat) : Int))), none] = _
      rw [not_nat, Bool.not_not]
    · show k = grp k (evs e (ts.take 0))
      rw [List.take_zero]
      cases k <;> rfl
    · rintro i v σ H1 hv ⟨y, ns1, kf, tf, rfl, S1, pre1, len1, d1, ev1, b1⟩
      obtain ⟨u, hu, pu⟩ := ht.get hv
      have fx1 := b1.fix2 S.mLn S.mDn
      have dg := dp_get hu
      have zg := sz_get hu
      have zt := szs_snoc hu
      refine ⟨_, rfl, L.p, L.dx, _, rfl, S1.ob, rfl, _, rfl, _, rfl, L.p, L.dx, _, rfl, S1.ob, rfl, _, rfl, L, ns1, v, u, rfl, S1, pu.mono fx1, oks_mem okt.2 u (List.mem_of_getElem? hu), h6, nd, by omega, by omega, fun ns2 k2 t2 H2 S2 pre2 len2 d2 ev2 b2 => ?_⟩
      refine ⟨_, rfl, fun kd hkd => ?_⟩
      have s3 := Same.new (.dT []) hkd
      have b7 : bd 7 = 63 := by decide
      have nkd : kd ≠ L.dn := fun z => by subst z; rw [S2.dn] at hkd; cases hkd
      refine ⟨L, ns2, kf, k2, !k, kd, [], tf, t2, rfl, S2.same s3, d1.mono pre2, d2, upd_same, nkd, (fun a b v e => by cases e), by omega, by omega, by omega, by rw [b7]; decide, fun ns' kk' k' t' H' S' pre len3 _ _ _ d' j' b => ?_⟩
      refine ⟨_, ns', k', t', rfl, S', pre1.trans (pre2.trans pre), by omega, d', fun e => ?_, b1.trans (b2.trans (But.less (But.of s3) b fun x hx => ?_))⟩
      · rw [j'.ev e, ev1 e, ev2 e, evs_take_succ e hu, grp_snoc]
        cases k <;> rfl
      · simp only [List.mem_cons, List.not_mem_nil, or_false] at hx
        rcases hx with rfl | rfl | rfl
        · exact .inr (by simp)
        · exact .inr (by simp)
        · exact .inl hkd
    · rintro σ H1 ⟨y, ns1, kf, tf, rfl, S1, pre1, len1, d1, ev1, b1⟩
      have len : vs.length = ts.length := ht.len
      rw [len, List.take_length] at len1 ev1
      exact ⟨_, rfl, q ns1 kf tf H1 S1 pre1 (by omega) d1 (fun e => by rw [ev1 e, ev_gr]) b1⟩
theorem ok_drawn (g : G K mg a fs) : ∀ d : Nat, CalAt P w K mg base (11 + d) fs.fDrawn (spDr a nm d)
  | 0 => CalAt.up (ok_no (ps := pDrawn) g.rDrawn (fun _ _ _ _ _ _ us hl => match us, hl with | [_, _], _ => rfl) fun vs H Q E ⟨L, ns, v, t, _, _, _, _, _, _, hd, _⟩ => by have := dp_pos t; omega) (Nat.le_refl _)
  | d + 1 => dr_step g (ok_drawn g d)
theorem ok_node (g : G K mg a fs) : CalAt P w K mg base 33 fs.fNode (spDr a nm 20) := by
  have CC := met_contacts g (ok_contacts (P := P) (w := w) (base := base) (nm := nm) g)
  have CD : Met P w K mg base 31 a.sh "drawn" (spDr a nm 20) [] := met_of (ok_drawn g 20) g.clS g.m_drawn_sh g.iDrawn
  refine ok_of g.rNode scNode (fun _ _ _ _ _ _ us hl => match us, hl with | [_, _], _ => rfl) (fun vs H Q E h => ?_) (fun cdv A outer s H vs Q E hr h => ?_)
  · obtain ⟨L, ns, v, t, rfl, _⟩ := h
    rfl
  obtain ⟨L, ns, v, t, rfl, S, p, okt, h6, nd, hd, few, q⟩ := h
  obtain ⟨tm, hm⟩ := g.vTooMany
  refine ⟨_, pss_cons (ps_for PassesOwn.never rfl (pi_tup (PE.any fun k => pe_mt0 (CC k) hr (by omega) (pv 1))) (pg_name (i := 2) scNode.nd rfl (.inl rfl))
      (pss_one (ps_if (pt_cmpR op_notIn_seq (pv 2) (pe_fld (pv 0) rfl) (by rfl)) (pss_one ps_never) pss_nil)))
    (pss_cons (ps_set (i := 3) scNode.nd rfl (.inl rfl) (pe_callB call_len_seq (by rfl) (g.no _ g.z_len) PySem.boot_len (pa_cons (pe_fld (pv 0) rfl) pa_nil)))
    (pss_one (ps_try_only (tb := fun _ => tRet (tMeth a.sh "drawn" (spDr a nm 20) [] C8.E0 (tVar 0) (tCons (tVar 1) tNil))) (ts := fun _ _ _ => tNever) (Wout := fun _ _ _ _ => False) rfl rfl ⟨rfl, by decide, .inl (g.gl _ _ hm)⟩ takes0
      (fun W pn xe tk _ => pss_one (ps_ret (pe_mt CD hr (by omega) (pv 0) (pa_cons (pv 1) pa_nil)))) (fun _ _ _ _ _ _ _ => pss_never)))), ?_⟩
  obtain ⟨x, dx, fl, rfl, ex, fx, nl⟩ := p.obj
  refine ⟨kdOf t, _, rfl, x, dx, fl, rfl, ex, nl _ (by decide +kernel), _, t, rfl, p, hd, by omega, fun r xs H1 s1 er hx => ?_⟩
  refine ⟨r, rfl, ⟨_, SqT.of er⟩, ?_⟩
  refine for_tup (K := K) (a := r) (xs := xs.map V.str) (fun i σ H' => ∃ y : Option V, σ = [some (.ref L.p), some (.ref x), y, none] ∧ H' = H1) ⟨none, rfl, rfl⟩ (fun i σ H' _ ⟨_, _, e⟩ => by rw [e]; exact SqT.of er) ?_ ?_
  · rintro i v σ H' hv ⟨y, rfl, rfl⟩
    rw [List.getElem?_map] at hv
    obtain ⟨z, hz, rfl⟩ := Option.map_eq_some_iff.mp hv
    have S1 := S.same s1
    have zn := hx z (List.mem_of_getElem? hz)
    refine ⟨_, rfl, _, rfl, L.p, a.sh, L.dx, _, _, rfl, S1.ob, g.clS, g.n_names_sh, rfl, L.tn, _, rfl, .inr S1.tn.sq, rfl, flat_names nm, _, rfl, ?_⟩
    have e : (if true = true then !inV (.str z) (nm.map V.str) else inV (.str z) (nm.map V.str)) = false := by rw [inV_names zn]; rfl
    rw [e]
    exact iteF ⟨_, rfl, rfl⟩
  · rintro σ H' ⟨y, rfl, rfl⟩
    have S1 := S.same s1
    obtain ⟨as, e1, N⟩ := S1.ln
    refine ⟨_, rfl, L.p, a.sh, L.dx, _, _, rfl, S1.ob, g.clS, g.n_nodes_sh, rfl, L.ln, _, rfl, .inl (SqL.of e1), ?_⟩
    refine ⟨_, rfl, L.p, L.dx, _, rfl, S1.ob, rfl, _, rfl, L, ns, _, t, rfl, S1, p.mono (.of s1), okt, h6, nd, hd, few, fun ns' k t' H2 S2 pre len d ev b => ?_⟩
    exact q ns' k t' H2 S2 pre len d ev ((But.of s1).trans b)
theorem ok_sInit (g : G K mg a fs) : CalAt P w K mg base 4 fs.fSInit (spInit a nm) := by
  have CN : Cal P w K mg base 2 "is_name" spIsName [] := cal_of (ok_isName g) (g.gl _ _ g.gIsName)
  refine ok_of g.rSInit scSInit (fun _ _ _ _ _ _ us hl => match us, hl with | [_, _], _ => rfl) (fun vs H Q E h => ?_) (fun cdv A outer s H vs Q E hr h => ?_)
  · obtain ⟨x, dx, l, rfl, _⟩ := h
    rfl
  obtain ⟨x, dx, l, rfl, ex, el, h6, nd, gd, q⟩ := h
  obtain ⟨t1, h1⟩ := g.vMOST_NAMES
  refine ⟨_, pss_cons (ps_for PassesOwn.never rfl (pi_list (pv 1)) (pg_name (i := 2) scSInit.nd rfl (.inl rfl))
      (pss_one (ps_if (pt_not (pt_val (pe_c CN hr (by omega) rfl (pa_cons (pv 2) pa_nil)))) (pss_one ps_never) pss_nil)))
    (pss_cons (ps_if (PW.pt (pw_or (pt_cmpR op_gt (pe_callB call_len_seq (by rfl) (g.no _ g.z_len) PySem.boot_len (pa_cons (pv 1) pa_nil)) (pe_glob (v := .int 60) rfl (g.gl _ _ h1) ⟨t1, rfl⟩) (nomark _))
      (pw_or1 (pt_cmpR op_lt (pe_callB cr_lenN (by rfl) (g.no _ g.z_len) PySem.boot_len (pa_cons (pe_callTy (cr_setTx rfl) (by rfl) (g.no _ g.z_set) (by decide +kernel) (pa_cons (pv 1) pa_nil)) pa_nil)) (pe_callB call_len_seq (by rfl) (g.no _ g.z_len) PySem.boot_len (pa_cons (pv 1) pa_nil)) (nomark _))))) (pss_one ps_never) pss_nil)
    (pss_cons (ps_fld (pv 0) (pe_callTy call_tupleO (by rfl) (g.no _ g.z_tuple) (by decide +kernel) (pa_cons (pv 1) pa_nil)) rfl)
    (pss_cons (ps_fld (pv 0) (pe_lst pa_nil) rfl)
    (pss_one (ps_fld (pv 0) pe_dnewT rfl))))), ?_⟩
  have len : (nm.map V.str).length = nm.length := List.length_map ..
  refine ⟨_, rfl, l, rfl, ⟨_, SqL.of el⟩, ?_⟩
  refine for_list (K := K) (a := l) (xs := nm.map V.str) (fun i σ H' => ∃ y : Option V, σ = [some (.ref x), some (.ref l), y] ∧ H' = H) ⟨none, rfl, rfl⟩ (fun i σ H' _ ⟨_, _, e⟩ => by rw [e]; exact SqL.of el) ?_ ?_
  · rintro i v σ H' hv ⟨y, rfl, rfl⟩
    rw [List.getElem?_map] at hv
    obtain ⟨z, hz, rfl⟩ := Option.map_eq_some_iff.mp hv
    exact ⟨_, rfl, z, rfl, gd z (List.mem_of_getElem? hz), _, rfl, iteF ⟨_, rfl, rfl⟩⟩
  · rintro σ H' ⟨y, rfl, rfl⟩
    refine ⟨_, rfl, l, _, rfl, .inl (SqL.of el), _, _, rfl, rfl, _, rfl, ?_⟩
    rw [len, decide_eq_false (show ¬ ((60 : Int) < ((nm.length : Nat) : Int)) by omega)]
    refine iteF ⟨_, rfl, l, nm, rfl, SqL.of el, nd, by omega, fun p hp => ?_⟩
    have s1 := Same.new (SetN P w p nm.length) hp
    refine ⟨p, nm.length, rfl, upd_same, by omega, _, rfl, l, _, rfl, .inl (SqL.of (s1 _ _ el)), _, _, rfl, rfl, _, rfl, ?_⟩
    rw [len, decide_eq_false (show ¬ (((nm.length : Nat) : Int) < ((nm.length : Nat) : Int)) by omega)]
    refine iteF ⟨_, rfl, l, _, rfl, SqL.of (s1 _ _ el), fun tn o htn dno => ?_⟩
    have s2 := s1.trans (Same.new (.frz o (.tup (nm.map V.str))) htn)
    refine ⟨_, rfl, x, _, dx, _, rfl, s2 _ _ ex, g.clS, g.n_names_sh, (by show 0 < 1000; decide), ?_⟩
    refine ⟨(by show 0 ≤ sizeLine; decide), fun ln hln => ?_⟩
    have n2 : ln ≠ x := fun z => by
      rw [z] at hln
      cases (upd_same.symm.trans hln)
    refine ⟨_, rfl, x, _, dx, _, rfl, (upd_ne n2.symm).trans upd_same, g.clS, g.n_nodes_sh, (by show 1 < 1000; decide), ?_⟩
    intro dn hdn
    have n4 : dn ≠ x := fun z => by
      rw [z] at hdn
      cases (upd_same.symm.trans hdn)
    refine ⟨_, rfl, x, _, dx, _, rfl, (upd_ne n4.symm).trans upd_same, g.clS, g.n_numbers_sh, (by show 2 < 1000; decide), ?_⟩
    have n1 : tn ≠ x := (ne_of_none (s1 _ _ ex) htn).symm
    obtain ⟨S, b, fl, fd⟩ := sheet_made (a := a) (nm := nm) (x := x) (dx := dx) s2 upd_same dno n1 hln n2 hdn n4
    exact q _ _ rfl S b fl fd
end
end K34
set_option Elab.async false
set_option linter.all false
set_option maxRecDepth 100000
set_option maxHeartbeats 4000000
/-! The law's own: cells, numbers, words, names. -/
namespace K34
open PySem PySem.Spec PyProof.Rows L2 C8 SX
theorem sqL_same {K : PySem.W.Frag} {H H' : Hp} {a : Addr} {xs : List V} (h : SqL K H a xs) (s : Same H H') : SqL K H' a xs := by
  rcases h with (e | ⟨o, e⟩) | h
  · exact .inl (.inl (s _ _ e))
  · exact .inl (.inr ⟨o, s _ _ e⟩)
  · exact .inr h
def spCellAt (K : PySem.W.Frag) : Sp := fun vs H Q _ => ∃ (a : Addr) (ns : List Int) (k : Int), vs = [.ref a, .int k] ∧ SqL K H a (ns.map V.int) ∧ ns.length ≤ 63 ∧ 0 ≤ k ∧ k < 1000 ∧ ∀ c : Int, Q (.int c) H
def spMixed : Sp := fun vs H Q _ => ∃ (c k : Int), vs = [.int c, .int k] ∧ ∀ m : Nat, Q (.int m) H
def low26 (t : List Nat) : Prop := ∀ c ∈ t, 97 ≤ c ∧ c ≤ 122
def spWord : Sp := fun vs H Q _ => ∃ (c : Int) (n : Nat), vs = [.int c, .int n] ∧ n ≤ 6 ∧ ∀ t : List Nat, t.length = n → low26 t → Q (.str (S t)) H
def spNames : Sp := fun vs H Q _ => ∃ (c : Int) (n : Nat), vs = [.int c, .int n] ∧ n ≤ 6 ∧ ∀ (l : Addr) (nm : List Str) (H' : Hp), nm.length = n → nm.Nodup → (∀ x ∈ nm, Good x) → Same H H' → H l = none → H' l = some (.lst (nm.map V.str)) → Q (.ref l) H'
/-- a name: a letter in a word, at a place, and a q behind -/
def nameOf (t : List Nat) (p c : Nat) : Str := S (t.take p ++ [c] ++ t.drop p ++ [113])
theorem nameOf_inj {t : List Nat} {p c c' : Nat} (h : nameOf t p c = nameOf t p c') : c = c' := by
  have := S_inj h
  simp only [List.append_assoc] at this
  have h2 := List.append_cancel_left this
  exact (List.cons.inj h2).1
theorem kept_last : ∀ y ∈ keptL, y.cps.toList.getLast? ≠ some 113 := by decide +kernel
theorem nameOf_good {t : List Nat} {p c : Nat} (ht : low26 t) (hl : t.length ≤ 6) (hc : 97 ≤ c ∧ c ≤ 122) : Good (nameOf t p c) := by
  have len : (nameOf t p c).length = t.length + 2 := by
    unfold nameOf
    rw [S_len]
    simp only [List.length_append, List.length_take, List.length_drop, List.length_cons, List.length_nil]
    omega
  refine ⟨fun d hd => ?_, by omega, by omega, fun z => kept_last _ z ?_⟩
  · have hd' : d ∈ t.take p ++ [c] ++ t.drop p ++ [113] := hd
    simp only [List.mem_append, List.mem_singleton] at hd'
    rcases hd' with ((h | h) | h) | h
    · exact ht d (List.mem_of_mem_take h)
    · rw [h]; exact hc
    · exact ht d (List.mem_of_mem_drop h)
    · rw [h]; decide
  · show (t.take p ++ [c] ++ t.drop p ++ [113]).getLast? = some 113
    rw [List.getLast?_concat]
theorem nodup_range {f : Nat → Str} {n : Nat} (h : ∀ i j, i < j → j < n → f i ≠ f j) : ((List.range n).map f).Nodup := by
  refine List.pairwise_iff_getElem.mpr fun i j hi hj hij => ?_
  simp only [List.length_map, List.length_range] at hi hj
  rw [List.getElem_map, List.getElem_map, List.getElem_range, List.getElem_range]
  exact h i j hij hj
theorem letters_at {i : Int} (h0 : 0 ≤ i) (h1 : i < 26) : atI (("abcdefghijklmnopqrstuvwxyz" : Str)).cps.toList i = some (97 + i.toNat) := by
  have e : (("abcdefghijklmnopqrstuvwxyz" : Str)).cps.toList = (List.range 26).map (· + 97) := by decide +kernel
  rw [e]
  have e2 : i = ((i.toNat : Nat) : Int) := by omega
  have := atI_nat (xs := (List.range 26).map (· + 97)) (j := i.toNat) (v := 97 + i.toNat) (by
    rw [List.getElem?_map, List.getElem?_range (by omega)]
    show some (i.toNat + 97) = some (97 + i.toNat)
    rw [Nat.add_comm])
  rw [← e2] at this
  exact this
section
variable {P : Program} {w : World} {K : PySem.W.Frag} {mg : Str → Option Value} {base : Heap} {a : Ad} {fs : Fs}
theorem ok_cellAt (g : G K mg a fs) : CalAt P w K mg base 1 fs.fCellAt (spCellAt K) := by
  refine ok_of g.rCellAt scCellAt (fun _ _ _ _ _ _ us hl => match us, hl with | [_, _], _ => rfl) (fun vs H Q E h => ?_) (fun cdv A outer s H vs Q E hr h => ?_)
  · obtain ⟨p, ns, k, rfl, _⟩ := h
    rfl
  obtain ⟨p, ns, k, rfl, hS, len, k0, k1, q⟩ := h
  refine ⟨_, pss_cons (ps_if (pt_cmpR op_eq (pe_callB call_len_seq (by rfl) (g.no _ g.z_len) PySem.boot_len (pa_cons (pv 0) pa_nil)) pe_int (nomark _)) (pss_one (ps_ret (pv 1))) pss_nil)
    (pss_one (ps_ret (pe_op op_add (pe_ix ix_list (pv 0) (pe_op op_mod (pv 1) (pe_callB call_len_seq (by rfl) (g.no _ g.z_len) PySem.boot_len (pa_cons (pv 0) pa_nil))) (fun _ _ => rfl)) (pe_op op_mul pe_int (pe_op op_fdiv (pv 1) (pe_callB call_len_seq (by rfl) (g.no _ g.z_len) PySem.boot_len (pa_cons (pv 0) pa_nil))))))), ?_⟩
  refine ⟨_, rfl, p, _, rfl, .inl hS, rfl, _, rfl, ?_⟩
  rw [List.length_map]
  refine ite2 (fun c => ⟨_, rfl, q k⟩) (fun c => ?_)
  have hp : 0 < ns.length := by
    refine Nat.pos_of_ne_zero fun z => c (decide_eq_true ?_)
    rw [z]; rfl
  have m0 := Int.emod_nonneg k (show ((ns.length : Nat) : Int) ≠ 0 by omega)
  have m1 := Int.emod_lt_of_pos k (show (0 : Int) < ((ns.length : Nat) : Int) by omega)
  have hlt : (k % ((ns.length : Nat) : Int)).toNat < ns.length := by omega
  have hat : atI (ns.map V.int) (k % ((ns.length : Nat) : Int)) = some (.int ns[(k % ((ns.length : Nat) : Int)).toNat]) := by
    have e := atI_nat (xs := ns.map V.int) (j := (k % ((ns.length : Nat) : Int)).toNat) (v := .int ns[(k % ((ns.length : Nat) : Int)).toNat]) (by rw [List.getElem?_map, List.getElem?_eq_getElem hlt]; rfl)
    rw [Int.toNat_of_nonneg m0] at e
    exact e
  obtain ⟨c2, hc2⟩ : ∃ c2 : Int, c2 = ns[(k % ((ns.length : Nat) : Int)).toNat] := ⟨_, rfl⟩
  rw [← hc2] at hat
  rw [← List.length_map (f := V.int)] at hat m0 m1
  exact ⟨_, rfl, _, rfl, _, rfl, p, _, rfl, .inl hS, _, _, rfl, rfl, (by rw [List.length_map]; omega), p, _, _, .int c2, rfl, rfl, hS, hat, _, rfl, _, rfl, p, _, rfl, .inl hS, _, _, rfl, rfl, (by rw [List.length_map]; exact ⟨by omega, by omega⟩), _, _, rfl, rfl, .inl ⟨by decide, by decide⟩, _, _, rfl, rfl, q _⟩
theorem ok_mixed (g : G K mg a fs) : CalAt P w K mg base 1 fs.fMixed spMixed := by
  refine ok_of g.rMixed scMixed (fun _ _ _ _ _ _ us hl => match us, hl with | [_, _], _ => rfl) (fun vs H Q E h => ?_) (fun cdv A outer s H vs Q E hr h => ?_)
  · obtain ⟨c, k, rfl, _⟩ := h
    rfl
  obtain ⟨c, k, rfl, q⟩ := h
  refine ⟨_, pss_cons (ps_set (i := 2) scMixed.nd rfl (.inl rfl) (pe_op op_mod (pe_op op_mul (pe_op op_add (pe_op op_add (pv 0) (pe_op op_mul pe_int (pv 1))) pe_int) pe_int) pe_int))
    (pss_one (ps_ret (pe_op op_mod (pe_op op_add (pe_op op_mul (pv 2) (pv 2)) (pe_op op_mul pe_int (pv 2))) pe_int))), ?_⟩
  refine ⟨_, rfl, _, rfl, _, _, rfl, rfl, .inl ⟨by decide, by decide⟩, _, _, rfl, rfl, _, _, rfl, rfl, _, _, rfl, rfl, .inr ⟨by decide, by decide⟩, _, _, rfl, rfl, (show (0 : Int) < 2147483647 by decide), ?_⟩
  show gName 2 (V.int ((c + 7919 * k + 11) * 48271 % 2147483647)) _ _ _
  obtain ⟨m, em⟩ : ∃ m : Int, m = (c + 7919 * k + 11) * 48271 % 2147483647 := ⟨_, rfl⟩
  have m0 : 0 ≤ m := by rw [em]; exact Int.emod_nonneg _ (by decide)
  have m1 : m < 2147483647 := by rw [em]; exact Int.emod_lt_of_pos _ (by decide)
  rw [← em]
  refine ⟨_, rfl, _, rfl, _, _, rfl, rfl, .inl ⟨by omega, by omega⟩, _, rfl, _, _, rfl, rfl, .inl ⟨by decide, by decide⟩, _, _, rfl, rfl, _, _, rfl, rfl, (show (0 : Int) < 2147483399 by decide), ?_⟩
  have r0 : 0 ≤ (m * m + 40692 * m) % 2147483399 := Int.emod_nonneg _ (by decide)
  have := q ((m * m + 40692 * m) % 2147483399).toNat
  rw [show ((((m * m + 40692 * m) % 2147483399).toNat : Nat) : Int) = (m * m + 40692 * m) % 2147483399 from Int.toNat_of_nonneg r0] at this
  exact this
theorem ok_word (g : G K mg a fs) : CalAt P w K mg base 2 fs.fWord spWord := by
  have CM : Cal P w K mg base 1 "_law_mixed" spMixed [] := cal_of (ok_mixed g) (g.gl _ _ g.gMixed)
  refine ok_of g.rWord scWord (fun _ _ _ _ _ _ us hl => match us, hl with | [_, _], _ => rfl) (fun vs H Q E h => ?_) (fun cdv A outer s H vs Q E hr h => ?_)
  · obtain ⟨c, n, rfl, _⟩ := h
    rfl
  obtain ⟨c, n, rfl, n6, q⟩ := h
  refine ⟨_, pss_cons (ps_set (i := 2) scWord.nd rfl (.inl rfl) pe_str)
    (pss_cons (ps_set (i := 3) scWord.nd rfl (.inl rfl) pe_str)
    (pss_cons (ps_for PassesOwn.never rfl (pi_range1 (by rfl) (g.no _ g.z_range) (pa_cons (pv 1) pa_nil)) (pg_name (i := 4) scWord.nd rfl (.inl rfl))
      (pss_one (ps_set (i := 3) scWord.nd rfl (.inl rfl) (pe_op op_add_str (pv 3) (pe_ix ix_str (pv 2) (pe_op op_mod (pe_op op_fdiv (pe_c CM hr (by omega) rfl (pa_cons (pv 0) (pa_cons (pv 4) pa_nil))) pe_int) pe_int) (fun _ _ => rfl))))))
    (pss_one (ps_ret (pv 3))))), ?_⟩
  refine ⟨_, rfl, (n : Int), rfl, by omega, by omega, ?_⟩
  have e0 : ("" : Str) = S [] := rfl
  refine for_range (lo := 0) (n := (n : Int).toNat) (fun i σ H' => ∃ (t : List Nat) (v : Option V), σ = [some (.int c), some (.int n), some (.str "abcdefghijklmnopqrstuvwxyz"), some (.str (S t)), v] ∧ H' = H ∧ t.length = i ∧ low26 t)
    ⟨[], none, rfl, rfl, rfl, fun c h => by cases h⟩ ?_ ?_
  · rintro i σ H' hi ⟨t, v, rfl, rfl, tl, tz⟩
    refine ⟨_, rfl, _, rfl, _, rfl, _, rfl, c, _, rfl, fun m => ?_⟩
    refine ⟨_, _, rfl, rfl, ⟨by decide, by decide⟩, _, _, rfl, rfl, (show (0 : Int) < 26 by decide), ?_⟩
    have r0 : 0 ≤ (m : Int) / 31 % 26 := Int.emod_nonneg _ (by decide)
    have r1 : (m : Int) / 31 % 26 < 26 := Int.emod_lt_of_pos _ (by decide)
    refine ⟨_, _, _, rfl, rfl, (by decide +kernel), letters_at r0 r1, ?_⟩
    refine ⟨_, _, rfl, rfl, ?_, ?_⟩
    · rw [S_len, sizeLine_eq]
      show t.length + 1 ≤ _
      omega
    · show ∃ _, _
      rw [show (S t ++ (⟨#[97 + ((m : Int) / 31 % 26).toNat]⟩ : Str)) = S (t ++ [97 + ((m : Int) / 31 % 26).toNat]) from S_cat t [97 + ((m : Int) / 31 % 26).toNat]]
      refine ⟨_, _, rfl, rfl, by rw [List.length_append, tl]; rfl, fun d hd => ?_⟩
      rcases List.mem_append.mp hd with h | h
      · exact tz d h
      · rw [List.mem_singleton.mp h]; omega
  · rintro σ H' ⟨t, v, rfl, rfl, tl, tz⟩
    exact ⟨_, rfl, q t (by omega) tz⟩
end
end K34
set_option Elab.async false
set_option linter.all false
set_option maxRecDepth 100000
set_option maxHeartbeats 4000000
/-! The law's own: names. -/
namespace K34
open PySem PySem.Spec PyProof.Rows L2 C8 SX
/-- the k-th letter's number -/
def lett (c : Int) (j k : Nat) : Nat := ((c / 147 + (2 * (j : Int) + 1) * (k : Int)) % 26).toNat
theorem lett_lt (c : Int) (j k : Nat) : lett c j k < 26 := by
  have := Int.emod_lt_of_pos (c / 147 + (2 * (j : Int) + 1) * (k : Int)) (show (0 : Int) < 26 by decide)
  have := Int.emod_nonneg (c / 147 + (2 * (j : Int) + 1) * (k : Int)) (show (26 : Int) ≠ 0 by decide)
  unfold lett
  omega
theorem lett_ne {c : Int} {j k k' : Nat} (hj : j < 3) (h : k < k') (h6 : k' < 6) : lett c j k ≠ lett c j k' := by
  unfold lett
  have : j = 0 ∨ j = 1 ∨ j = 2 := by omega
  rcases this with rfl | rfl | rfl <;> omega
section
variable {P : Program} {w : World} {K : PySem.W.Frag} {mg : Str → Option Value} {base : Heap} {a : Ad} {fs : Fs}
theorem ok_names (g : G K mg a fs) : CalAt P w K mg base 3 fs.fNames spNames := by
  have CW : Cal P w K mg base 2 "_law_word" spWord [] := cal_of (ok_word g) (g.gl _ _ g.gWord)
  refine ok_of g.rNames scNames (fun _ _ _ _ _ _ us hl => match us, hl with | [_, _], _ => rfl) (fun vs H Q E h => ?_) (fun cdv A outer s H vs Q E hr h => ?_)
  · obtain ⟨c, n, rfl, _⟩ := h
    rfl
  obtain ⟨c, n, rfl, n6, q⟩ := h
  refine ⟨_, pss_cons (ps_set (i := 2) scNames.nd rfl (.inl rfl) pe_str)
    (pss_cons (ps_set (i := 3) scNames.nd rfl (.inl rfl) (pe_c CW hr (by omega) rfl (pa_cons (pv 0) (pa_cons (pe_op op_mod (pv 0) pe_int) pa_nil))))
    (pss_cons (ps_set (i := 4) scNames.nd rfl (.inl rfl) (pe_op op_mod (pe_op op_fdiv (pv 0) pe_int) (pe_op op_add (pe_callB call_len_str (by rfl) (g.no _ g.z_len) PySem.boot_len (pa_cons (pv 3) pa_nil)) pe_int)))
    (pss_cons (ps_set (i := 5) scNames.nd rfl (.inl rfl) (pe_ix ix_list (pe_lst (pa_cons pe_int (pa_cons pe_int (pa_cons pe_int pa_nil)))) (pe_op op_mod (pe_op op_fdiv (pv 0) pe_int) pe_int) (fun _ _ => rfl)))
    (pss_cons (ps_set (i := 6) scNames.nd rfl (.inl rfl) (pe_lst pa_nil))
    (pss_cons (ps_for PassesOwn.never rfl (pi_range1 (by rfl) (g.no _ g.z_range) (pa_cons (pv 1) pa_nil)) (pg_name (i := 7) scNames.nd rfl (.inl rfl))
      (pss_cons (ps_set (i := 8) scNames.nd rfl (.inl rfl) (pe_ix ix_str (pv 2) (pe_op op_mod (pe_op op_add (pe_op op_fdiv (pv 0) pe_int) (pe_op op_mul (pv 5) (pv 7))) pe_int) (fun _ _ => rfl)))
      (pss_one (ps_expr (pe_bm PySem.F.plainAttrs_list PySem.F.slot_list_append PySem.F.type_list_append mt_append (pv 6)
        (pa_cons (pe_op op_add_str (pe_op op_add_str (pe_op op_add_str (pe_slice sl_txt (pv 3) po_none (po_some (pv 4))) (pv 8)) (pe_slice sl_txt (pv 3) (po_some (pv 4)) po_none)) pe_str) pa_nil))))))
    (pss_one (ps_ret (pv 6)))))))), ?_⟩
  have m0 := Int.emod_nonneg c (show (7 : Int) ≠ 0 by decide)
  have m1 := Int.emod_lt_of_pos c (show (0 : Int) < 7 by decide)
  refine ⟨_, rfl, _, rfl, _, _, rfl, rfl, (show (0 : Int) < 7 by decide), c, (c % 7).toNat, ?_, by omega, fun t tl tz => ?_⟩
  · show [V.int c, V.int (c % 7)] = _
    rw [Int.toNat_of_nonneg m0]
  have hz : sizeLine ≥ 1001 := by decide
  refine ⟨_, rfl, _, _, rfl, rfl, ⟨by decide, by decide⟩, _, rfl, S t, rfl, (by rw [S_len]; omega), _, _, rfl, rfl, _, _, rfl, rfl, ?_, ?_⟩
  · show (0 : Int) < (((S t).length : Nat) : Int) + 1
    omega
  obtain ⟨at_, hat⟩ : ∃ at_ : Int, at_ = c / 7 % ((((S t).length : Nat) : Int) + 1) := ⟨_, rfl⟩
  have at0 : 0 ≤ at_ := by rw [hat]; exact Int.emod_nonneg _ (by omega)
  show gName 4 (V.int (c / 7 % ((((S t).length : Nat) : Int) + 1))) _ _ _
  rw [← hat]
  refine ⟨(by show 3 ≤ sizeLine; decide), fun r1 hr1 => ?_⟩
  have h0 := Int.emod_nonneg (c / 49) (show (3 : Int) ≠ 0 by decide)
  have h1 := Int.emod_lt_of_pos (c / 49) (show (0 : Int) < 3 by decide)
  obtain ⟨j, hj⟩ : ∃ j : Nat, (j : Int) = c / 49 % 3 := ⟨(c / 49 % 3).toNat, Int.toNat_of_nonneg h0⟩
  have j3 : j < 3 := by omega
  have hix : atI [V.int 1, V.int 3, V.int 5] (c / 49 % 3) = some (.int (2 * (j : Int) + 1)) := by
    rw [← hj]
    refine atI_nat ?_
    have : j = 0 ∨ j = 1 ∨ j = 2 := by omega
    rcases this with rfl | rfl | rfl <;> rfl
  refine ⟨_, rfl, _, _, rfl, rfl, ⟨by decide, by decide⟩, _, _, rfl, rfl, (show (0 : Int) < 3 by decide), r1, _, _, _, rfl, rfl, SqL.of upd_same, hix, ?_⟩
  have s1 := Same.new (.lst [V.int 1, V.int 3, V.int 5]) hr1
  refine ⟨(by show 0 ≤ sizeLine; decide), fun l hl => ?_⟩
  have s2 := Same.new (.lst []) hl
  have hl0 : H l = none := s1.free hl
  refine ⟨_, rfl, (n : Int), rfl, by omega, by omega, ?_⟩
  let nmf : Nat → Str := fun k => nameOf t at_.toNat (97 + lett c j k)
  refine for_range (lo := 0) (n := (n : Int).toNat) (fun i σ H' => ∃ (v7 v8 : Option V), σ = [some (.int c), some (.int n), some (.str "abcdefghijklmnopqrstuvwxyz"), some (.str (S t)), some (.int at_), some (.int (2 * (j : Int) + 1)), some (.ref l), v7, v8] ∧ Same H H' ∧ H' l = some (.lst (((List.range i).map nmf).map V.str)))
    ⟨none, none, rfl, s1.trans s2, upd_same⟩ ?_ ?_
  · rintro i σ H' hi ⟨v7, v8, rfl, s3, el⟩
    refine ⟨_, rfl, _, rfl, _, _, rfl, rfl, ⟨by decide, by decide⟩, _, rfl, _, rfl, _, _, rfl, rfl, .inl ⟨by omega, by omega⟩, _, _, rfl, rfl, _, _, rfl, rfl, (show (0 : Int) < 26 by decide), ?_⟩
    have r0 := Int.emod_nonneg (c / 147 + (2 * (j : Int) + 1) * (0 + (i : Int))) (show (26 : Int) ≠ 0 by decide)
    have r1 := Int.emod_lt_of_pos (c / 147 + (2 * (j : Int) + 1) * (0 + (i : Int))) (show (0 : Int) < 26 by decide)
    have el1 := letters_at r0 r1
    have elt : ((c / 147 + (2 * (j : Int) + 1) * (0 + (i : Int))) % 26).toNat = lett c j i := by
      unfold lett
      rw [Int.zero_add]
    rw [elt] at el1
    refine ⟨_, _, _, rfl, rfl, (by decide +kernel), el1, ?_⟩
    have tk : ((S (t.take at_.toNat)).length : Nat) ≤ 6 := by rw [S_len, List.length_take]; omega
    have td : ((S (t.drop at_.toNat)).length : Nat) ≤ 6 := by rw [S_len, List.length_drop]; omega
    refine ⟨_, rfl, .inl ⟨rfl, _, SqL.of el⟩, ?_⟩
    refine ⟨_, rfl, _, rfl, _, rfl, S t, rfl, (by rw [S_len]; omega), ?_⟩
    rw [slice_to at0]
    refine ⟨_, rfl, _, _, rfl, rfl, ?_, ?_⟩
    · show (S (t.take at_.toNat)).length + 1 ≤ sizeLine
      omega
    refine ⟨_, rfl, _, rfl, _, rfl, S t, rfl, (by rw [S_len]; omega), ?_⟩
    rw [slice_from at0]
    have e1 : (S (t.take at_.toNat) ++ (⟨#[97 + lett c j i]⟩ : Str)) = S (t.take at_.toNat ++ [97 + lett c j i]) := S_cat _ [97 + lett c j i]
    rw [e1]
    refine ⟨_, _, rfl, rfl, ?_, ?_⟩
    · rw [S_len, S_len]
      simp only [List.length_append, List.length_take, List.length_drop, List.length_cons, List.length_nil]
      omega
    rw [S_cat]
    refine ⟨_, _, rfl, rfl, ?_, ?_⟩
    · rw [S_len]
      simp only [List.length_append, List.length_take, List.length_drop, List.length_cons, List.length_nil]
      show _ + 1 ≤ _
      omega
    have e2 : (S (t.take at_.toNat ++ [97 + lett c j i] ++ t.drop at_.toNat) ++ ("q" : Str)) = nmf i := S_cat _ [113]
    rw [e2]
    refine ⟨l, _, _, rfl, rfl, el, (by rw [List.length_map, List.length_map, List.length_range]; omega), _, _, rfl, fun b o z => ?_, ?_⟩
    · rw [upd_ne (ne_of_none z hl0)]; exact s3 b o z
    · rw [upd_same, List.range_succ, List.map_append, List.map_append]
      rfl
  · rintro σ H' ⟨v7, v8, rfl, s3, el⟩
    refine ⟨_, rfl, q l ((List.range (n : Int).toNat).map nmf) H' (by rw [List.length_map, List.length_range]; omega) (nodup_range fun k k' h h' e => ?_) (fun x hx => ?_) s3 hl0 el⟩
    · have := nameOf_inj e
      exact lett_ne (c := c) j3 h (by omega) (by omega)
    · obtain ⟨k, hk, rfl⟩ := List.mem_map.mp hx
      have := lett_lt c j k
      exact nameOf_good tz (by omega) ⟨by omega, by omega⟩
end
end K34
set_option Elab.async false
set_option linter.all false
set_option maxRecDepth 100000
set_option maxHeartbeats 4000000
/-! The law's own: a pile of told parts grows. -/
namespace K34
open PySem PySem.Spec PyProof.Rows L2 C8 SX
theorem cutV_from {xs : List V} {k : Nat} (hk : k ≤ xs.length) : cutV xs (some (k : Int)) none = xs.drop k := by
  unfold cutV
  rw [HT.sIx_nat, HT.sIx_none, Nat.min_eq_left hk, List.take_of_length_le (by rw [List.length_drop]; omega)]
theorem cutV_to {xs : List V} {k : Nat} (hk : k ≤ xs.length) : cutV xs none (some (k : Int)) = xs.take k := by
  unfold cutV
  rw [HT.sIx_nat, HT.sIx_none, Nat.min_eq_left hk, List.drop_zero, Nat.sub_zero]
theorem cutV_butlast {xs : List V} (h : xs ≠ []) : cutV xs none (some (-1)) = xs.take (xs.length - 1) := by
  have hp := List.length_pos_iff.mpr h
  unfold cutV
  rw [HT.sIx_none, List.drop_zero, Nat.sub_zero]
  have e : HT.sIx xs.length xs.length (some (-1)) = xs.length - 1 := by
    show (if (-1 : Int) < 0 then ((-1 : Int) + (xs.length : Int)).toNat else min (-1 : Int).toNat xs.length) = _
    rw [if_pos (show (-1 : Int) < 0 by decide)]
    omega
  rw [e]
def spGrown (K : PySem.W.Frag) (nm : List Str) : Sp := fun vs H Q _ => ∃ (l l2 : Addr) (ws : List V) (ts : List Tr) (c : Int), vs = [.ref l, .int c, .ref l2] ∧ H l = some (.lst ws) ∧ ToldsAt nm H ws ts ∧ oks nm.length ts ∧ szs ts ≤ 60 ∧ 0 < nm.length ∧ nm.length ≤ 6 ∧ SqL K H l2 (nm.map V.str) ∧
  ∀ (l' : Addr) (ws' : List V) (ts' : List Tr) (H' : Hp), Same H H' → H' l' = some (.lst ws') → ToldsAt nm H' ws' ts' → oks nm.length ts' → szs ts' ≤ szs ts + 1 → Q (.ref l') H'
section
variable {P : Program} {w : World} {K : PySem.W.Frag} {mg : Str → Option Value} {base : Heap} {a : Ad} {fs : Fs} {nm : List Str}
theorem ok_grown (g : G K mg a fs) : CalAt P w K mg base 2 fs.fGrown (spGrown K nm) := by
  have CM : Cal P w K mg base 1 "_law_mixed" spMixed [] := cal_of (ok_mixed g) (g.gl _ _ g.gMixed)
  refine ok_of g.rGrown scGrown (fun _ _ _ _ _ _ us hl => match us, hl with | [_, _, _], _ => rfl) (fun vs H Q E h => ?_) (fun cdv A outer s H vs Q E hr h => ?_)
  · obtain ⟨l, l2, ws, ts, c, rfl, _⟩ := h
    rfl
  obtain ⟨l, l2, ws, ts, c, rfl, el, T, okt, h60, n0, n6, hN, q⟩ := h
  have hu0 := hr.units0
  refine ⟨_, pss_cons (ps_set (i := 3) scGrown.nd rfl (.inl rfl) (pe_op op_mod (pe_op op_fdiv (pe_c CM hr (by omega) rfl (pa_cons (pv 1) (pa_cons pe_int pa_nil))) pe_int) pe_int))
    (pss_cons (ps_set (i := 4) scGrown.nd rfl (.inl rfl) (pe_op op_fdiv (pe_c CM hr (by omega) rfl (pa_cons (pv 1) (pa_cons pe_int pa_nil))) pe_int))
    (pss_cons (ps_if (pt_cmpR op_eq (pv 3) pe_int (nomark _)) (pss_one (ps_ret (pe_op op_cat (pv 0) (pe_lst (pa_cons (pe_tup (pa_cons pe_str (pa_cons (pe_cmpR op_eq (pe_op op_mod (pv 4) pe_int) pe_int (nomark _)) pa_nil))) pa_nil))))) pss_nil)
    (C8.pss_cut (ps_if (PW.pt (pw_and (pt_cmpR op_eq (pv 3) pe_int (nomark _)) (pw_and1 (pt_cmpR (op_neNil hu0) (pv 0) (pe_lst pa_nil) (nomark _)))))
      (pss_one (ps_ret (pe_op op_cat (pe_slice sl_list (pv 0) po_none (po_some (pe_un un_neg pe_int))) (pe_lst (pa_cons (pe_tup (pa_cons pe_str (pa_cons (pe_ix ix_list (pv 0) (pe_un un_neg pe_int) (fun _ _ => rfl)) pa_nil))) pa_nil))))) pss_nil)
    (C8.pss_cut (ps_if (PW.pt (pw_and (pt_cmpR op_gt (pv 3) pe_int (nomark _)) (pw_and1 (pt_cmpR op_gt (pe_callB call_len_seq (by rfl) (g.no _ g.z_len) PySem.boot_len (pa_cons (pv 0) pa_nil)) pe_int (nomark _)))))
      (pss_cons (ps_set (i := 5) scGrown.nd rfl (.inl rfl) (pe_callB (call_max2 rfl) (by rfl) (g.no _ g.z_max) (by decide +kernel) (pa_cons pe_int (pa_cons (pe_op op_sub (pe_op op_sub (pe_callB call_len_seq (by rfl) (g.no _ g.z_len) PySem.boot_len (pa_cons (pv 0) pa_nil)) pe_int) (pe_op op_mod (pv 4) pe_int)) pa_nil))))
      (pss_one (ps_ret (pe_op op_cat (pe_slice sl_list (pv 0) po_none (po_some (pv 5)))
        (pe_lst (pa_cons (pe_op op_catT (pe_tup (pa_cons (pe_ix ix_list (pe_lst (pa_cons pe_str (pa_cons pe_str pa_nil))) (pe_op op_mod (pe_op op_fdiv (pv 4) pe_int) pe_int) (fun _ _ => rfl)) pa_nil))
          (pe_callTy call_tuple_of (by rfl) (g.no _ g.z_tuple) (by decide +kernel) (pa_cons (pe_slice sl_list (pv 0) (po_some (pv 5)) po_none) pa_nil))) pa_nil)))))) pss_nil)
    (pss_one (ps_ret (pe_op op_cat (pv 0) (pe_lst (pa_cons (pe_tup (pa_cons pe_str (pa_cons (pe_ix ix_list (pv 2) (pe_op op_mod (pv 4) (pe_callB call_len_seq (by rfl) (g.no _ g.z_len) PySem.boot_len (pa_cons (pv 2) pa_nil))) (fun _ _ => rfl)) pa_nil))) pa_nil))))))))), ?_⟩
  have hz : sizeLine ≥ 1001 := by decide
  have wl : ws.length = ts.length := T.len
  have tl := szs_len ts
  refine ⟨_, rfl, c, 1, rfl, fun m1 => ⟨_, _, rfl, rfl, ⟨by decide, by decide⟩, _, _, rfl, rfl, (show (0 : Int) < 12 by decide), ?_⟩⟩
  refine ⟨_, rfl, c, 2, rfl, fun m2 => ⟨_, _, rfl, rfl, ⟨by decide, by decide⟩, ?_⟩⟩
  obtain ⟨kind, ek⟩ : ∃ kind : Int, kind = (m1 : Int) / 5 % 12 := ⟨_, rfl⟩
  obtain ⟨more, em⟩ : ∃ more : Nat, (more : Int) = (m2 : Int) / 5 := ⟨m2 / 5, by omega⟩
  show gName 4 (V.int ((m2 : Int) / 5)) [some (.ref l), some (.int c), some (.ref l2), some (.int ((m1 : Int) / 5 % 12)), none, none] H _
  rw [← ek, ← em]
  refine ⟨_, rfl, rfl, _, rfl, ?_⟩
  refine ite2 (fun c0 => ?_) (fun c0 => ?_)
  · refine ⟨_, rfl, _, rfl, _, _, rfl, rfl, (show (0 : Int) < 2 by decide), rfl, (by show 2 ≤ sizeLine; decide), fun p1 hp1 => ⟨(by show 1 ≤ sizeLine; decide), fun p2 hp2 => ?_⟩⟩
    have s1 := Same.new (.tup [V.str "fixed", V.bl (decide (V.int ((more : Int) % 2) = V.int 1))]) hp1
    have s2 := Same.new (.lst [V.ref p1]) hp2
    refine ⟨l, p2, _, _, rfl, rfl, s2 _ _ (s1 _ _ el), upd_same, (by rw [List.length_singleton]; omega), fun p3 hp3 => ?_⟩
    have s3 := Same.new (.lst (ws ++ [V.ref p1])) hp3
    have s13 := s1.trans (s2.trans s3)
    exact q p3 _ (ts ++ [.fx _]) _ s13 upd_same ((T.mono (.of s13)).append (.cons (.fx (s3 _ _ (s2 _ _ upd_same))) .nil)) (oks_append okt (show oks nm.length [Tr.fx (decide (V.int ((more : Int) % 2) = V.int 1))] from ⟨trivial, trivial⟩)) (by rw [szs_append]; simp [szs, sz])
  refine ⟨fun σ' H' => σ' = [some (.ref l), some (.int c), some (.ref l2), some (.int kind), some (.int (more : Int)), none] ∧ Same H H', ?_, ?_⟩
  · refine ⟨_, rfl, rfl, _, rfl, ?_⟩
    refine ite2 (fun c1 => ?_) (fun c1 => ?_)
    · refine ⟨_, rfl, (by show 0 ≤ sizeLine; decide), fun e1 he1 => ⟨l, e1, _, rfl, rfl, Same.new _ he1 _ _ el, upd_same, _, rfl, ?_⟩⟩
      have s1 := Same.new (.lst []) he1
      refine ite2 (fun c2 => ?_) (fun c2 => ?_)
      · have ne : ws ≠ [] := fun z => by rw [z] at c2; cases c2
        have hp := List.length_pos_iff.mpr ne
        refine ⟨_, rfl, _, rfl, _, rfl, l, ws, rfl, SqL.of (s1 _ _ el), fun p1 hp1 => ?_⟩
        rw [show cutV ws none (some (-1)) = ws.take (ws.length - 1) from cutV_butlast ne]
        have t1 := Same.new (.lst (ws.take (ws.length - 1))) hp1
        have e1' := t1 _ _ (s1 _ _ el)
        obtain ⟨v, hv⟩ : ∃ v, ws[ws.length - 1]? = some v := ⟨_, List.getElem?_eq_getElem (by omega)⟩
        obtain ⟨u, hu, tu⟩ := T.get hv
        have ew : ws = ws.take (ws.length - 1) ++ [v] := by
          have := List.take_append_drop (ws.length - 1) ws
          rw [List.drop_eq_getElem_cons (by omega), List.drop_eq_nil_of_le (by omega)] at this
          rw [(List.getElem?_eq_some_iff.mp hv).2] at this
          exact this.symm
        have hlast : atI ws (-1) = some v := by
          rw [ew]; exact atI_last _ _
        refine ⟨_, rfl, _, rfl, l, _, _, _, rfl, rfl, SqL.of e1', hlast, (by show 2 ≤ sizeLine; decide), fun p2 hp2 => ⟨(by show 1 ≤ sizeLine; decide), fun p3 hp3 => ?_⟩⟩
        have t2 := Same.new (.tup [V.str "not", v]) hp2
        have t3 := Same.new (.lst [V.ref p2]) hp3
        refine ⟨p1, p3, _, _, rfl, rfl, t3 _ _ (t2 _ _ upd_same), upd_same, (by rw [List.length_singleton, List.length_take]; omega), fun p4 hp4 => ?_⟩
        have t4 := Same.new (.lst (ws.take (ws.length - 1) ++ [V.ref p2])) hp4
        have t24 := t2.trans (t3.trans t4)
        have t04 := s1.trans (t1.trans t24)
        have eu := szs_snoc hu
        have ets : ts.take (ws.length - 1 + 1) = ts := List.take_of_length_le (by omega)
        rw [ets] at eu
        exact q p4 _ (ts.take (ws.length - 1) ++ [.nt u]) _ t04 upd_same (((T.take (ws.length - 1)).mono (.of t04)).append (.cons (.nt (t4 _ _ (t3 _ _ upd_same)) (tu.mono (.of t04))) .nil))
          (oks_append (oks_take okt _) (show oks nm.length [Tr.nt u] from ⟨oks_mem okt u (List.mem_of_getElem? hu), trivial⟩)) (by rw [szs_append]; simp only [szs, sz]; omega)
      · exact ⟨rfl, s1⟩
    · exact ⟨rfl, Same.refl H⟩
  rintro σ' H1 ⟨rfl, s1⟩
  have el1 := s1 _ _ el
  refine ⟨fun σ' H' => σ' = [some (.ref l), some (.int c), some (.ref l2), some (.int kind), some (.int (more : Int)), none] ∧ H' = H1, ?_, ?_⟩
  · refine ⟨_, rfl, _, _, rfl, rfl, _, rfl, ?_⟩
    refine ite2 (fun c1 => ?_) (fun c1 => ⟨rfl, rfl⟩)
    refine ⟨_, rfl, l, _, rfl, .inl (SqL.of el1), _, _, rfl, rfl, _, rfl, ?_⟩
    refine ite2 (fun c2 => ?_) (fun c2 => ⟨rfl, rfl⟩)
    have w2 : 2 ≤ ws.length := by
      have := of_decide_eq_true c2
      omega
    refine ⟨_, rfl, l, _, rfl, .inl (SqL.of el1), _, _, rfl, rfl, _, rfl, _, _, rfl, rfl, (show (0 : Int) < 3 by decide), _, _, rfl, rfl, _, _, rfl, ?_⟩
    have r0 := Int.emod_nonneg (more : Int) (show (3 : Int) ≠ 0 by decide)
    obtain ⟨at_, hat, hat2⟩ : ∃ at_ : Nat, (at_ : Int) = (if ((ws.length : Nat) : Int) - 2 - (more : Int) % 3 > 0 then ((ws.length : Nat) : Int) - 2 - (more : Int) % 3 else 0) ∧ at_ + 2 ≤ ws.length := by
      refine ⟨(((ws.length : Nat) : Int) - 2 - (more : Int) % 3).toNat, ?_, by omega⟩
      split <;> omega
    show gName 5 (V.int (if ((ws.length : Nat) : Int) - 2 - (more : Int) % 3 > 0 then ((ws.length : Nat) : Int) - 2 - (more : Int) % 3 else 0)) _ _ _
    rw [← hat]
    refine ⟨_, rfl, _, rfl, _, rfl, l, ws, rfl, SqL.of el1, fun p1 hp1 => ?_⟩
    rw [cutV_to (show at_ ≤ ws.length by omega)]
    have t1 := Same.new (.lst (ws.take at_)) hp1
    refine ⟨(by show 2 ≤ sizeLine; decide), fun q1 hq1 => ?_⟩
    have t2 := Same.new (.lst [V.str "and", V.str "or"]) hq1
    have hix : atI [V.str "and", V.str "or"] ((more : Int) / 3 % 2) = some (.str (gw (more / 3 % 2 == 0))) := by
      rw [show (more : Int) / 3 % 2 = ((more / 3 % 2 : Nat) : Int) by omega]
      refine atI_nat ?_
      have : more / 3 % 2 = 0 ∨ more / 3 % 2 = 1 := by omega
      rcases this with h | h <;> rw [h] <;> rfl
    refine ⟨_, rfl, _, _, rfl, rfl, ⟨by decide, by decide⟩, _, _, rfl, rfl, (show (0 : Int) < 2 by decide), q1, _, _, _, rfl, rfl, SqL.of upd_same, hix, (by show 1 ≤ sizeLine; decide), fun q2 hq2 => ?_⟩
    obtain ⟨kk, hkk⟩ : ∃ kk : Bool, kk = (more / 3 % 2 == 0) := ⟨_, rfl⟩
    rw [← hkk]
    have t3 := Same.new (.tup [V.str (gw kk)]) hq2
    have t03 := t1.trans (t2.trans t3)
    refine ⟨_, rfl, _, rfl, _, rfl, l, ws, rfl, SqL.of (t03 _ _ el1), fun q3 hq3 => ?_⟩
    rw [cutV_from (show at_ ≤ ws.length by omega)]
    have t4 := Same.new (.lst (ws.drop at_)) hq3
    refine ⟨q3, _, rfl, .inl ⟨SqL.of upd_same, fun q4 hq4 => ?_⟩⟩
    have t5 := Same.new (.tup (ws.drop at_)) hq4
    have dl : (ws.drop at_).length = ws.length - at_ := List.length_drop ..
    refine ⟨q2, q4, _, _, rfl, rfl, SqT.of (t5 _ _ (t4 _ _ upd_same)), SqT.of upd_same, (by simp), (by rw [dl]; show 1 + _ ≤ _; omega), (fun z => by rw [z] at dl; simp at dl; omega), fun _ q5 hq5 => ?_⟩
    have t6 := Same.new (.tup ([V.str (gw kk)] ++ ws.drop at_)) hq5
    refine ⟨(by show 1 ≤ sizeLine; decide), fun q6 hq6 => ?_⟩
    have t7 := Same.new (.lst [V.ref q5]) hq6
    have t27 := t2.trans (t3.trans (t4.trans (t5.trans (t6.trans t7))))
    refine ⟨p1, q6, _, _, rfl, rfl, t27 _ _ upd_same, upd_same, (by rw [List.length_singleton, List.length_take]; omega), fun q7 hq7 => ?_⟩
    have t8 := Same.new (.lst (ws.take at_ ++ [V.ref q5])) hq7
    have tall := s1.trans (t1.trans (t27.trans t8))
    have ec := szs_cut ts at_
    exact q q7 _ (ts.take at_ ++ [.gr kk (ts.drop at_)]) _ tall upd_same (((T.take at_).mono (.of tall)).append (.cons (.gr (t8 _ _ (t7 _ _ upd_same)) ((T.drop at_).mono (.of tall))) .nil))
      (oks_append (oks_take okt _) (show oks nm.length [Tr.gr kk (ts.drop at_)] from ⟨⟨by rw [List.length_drop]; omega, oks_drop okt _⟩, trivial⟩)) (by rw [szs_append]; simp only [szs, sz]; omega)
  rintro σ' H' ⟨rfl, rfl⟩
  have nl : (nm.map V.str).length = nm.length := List.length_map ..
  have m0 := Int.emod_nonneg (more : Int) (show ((nm.length : Nat) : Int) ≠ 0 by omega)
  have m3 := Int.emod_lt_of_pos (more : Int) (show (0 : Int) < ((nm.length : Nat) : Int) by omega)
  obtain ⟨j, hj⟩ : ∃ j : Nat, (j : Int) = (more : Int) % ((nm.length : Nat) : Int) := ⟨_, Int.toNat_of_nonneg m0⟩
  have hx : nm[j]? = some nm[j] := List.getElem?_eq_getElem (by omega)
  have hix : atI (nm.map V.str) ((more : Int) % (((nm.map V.str).length : Nat) : Int)) = some (.str nm[j]) := by
    rw [nl, ← hj]
    exact atI_nat (by rw [List.getElem?_map, hx]; rfl)
  have hN1 := sqL_same hN s1
  refine ⟨_, rfl, _, rfl, _, rfl, _, rfl, l2, _, rfl, .inl hN1, _, _, rfl, rfl, (by rw [nl]; omega), l2, _, _, _, rfl, rfl, hN1, hix, (by show 2 ≤ sizeLine; decide), fun p1 hp1 => ⟨(by show 1 ≤ sizeLine; decide), fun p2 hp2 => ?_⟩⟩
  have t1 := Same.new (.tup [V.str "contact", V.str nm[j]]) hp1
  have t2 := Same.new (.lst [V.ref p1]) hp2
  refine ⟨l, p2, _, _, rfl, rfl, t2 _ _ (t1 _ _ el1), upd_same, (by rw [List.length_singleton]; omega), fun p3 hp3 => ?_⟩
  have t3 := Same.new (.lst (ws ++ [V.ref p1])) hp3
  have t04 := s1.trans (t1.trans (t2.trans t3))
  exact q p3 _ (ts ++ [.ct j]) _ t04 upd_same ((T.mono (.of t04)).append (.cons (.ct (t3 _ _ (t2 _ _ upd_same)) hx) .nil)) (oks_append okt (show oks nm.length [Tr.ct j] from ⟨(show j < nm.length by omega), trivial⟩)) (by rw [szs_append]; simp [szs, sz])
end
end K34
set_option Elab.async false
set_option linter.all false
set_option maxRecDepth 100000
set_option maxHeartbeats 4000000
/-! The law's own: told_by, holds, row, whole. -/
namespace K34
open PySem PySem.Spec PyProof.Rows L2 C8 SX
def spToldBy (K : PySem.W.Frag) (nm : List Str) : Sp := fun vs H Q _ => ∃ (p l2 : Addr) (ns : List Int) (first : Int) (many : Nat), vs = [.ref p, .int first, .int many, .ref l2] ∧ SqL K H p (ns.map V.int) ∧ ns.length ≤ 63 ∧ 0 ≤ first ∧ first ≤ 100 ∧ many ≤ 14 ∧ 0 < nm.length ∧ nm.length ≤ 6 ∧ SqL K H l2 (nm.map V.str) ∧
  ∀ (v : V) (t : Tr) (H' : Hp), Same H H' → ToldAt nm H' v t → ok nm.length t → sz t ≤ 15 → Q v H'
def spHolds (nm : List Str) (d : Nat) : Sp := fun vs H Q _ => ∃ (v : V) (t : Tr) (p : Addr) (acc : Nat → Bool), vs = [v, .ref p] ∧ ToldAt nm H v t ∧ nm.Nodup ∧ dp t ≤ d ∧ sz t ≤ 60 ∧ H p = some (.dK (rowK nm acc)) ∧ ∀ H', Same H H' → Q (.bl (ev acc t)) H'
def spLRow (K : PySem.W.Frag) (nm : List Str) : Sp := fun vs H Q _ => ∃ (l2 : Addr) (r : Nat), vs = [.ref l2, .int r] ∧ SqL K H l2 (nm.map V.str) ∧ nm.Nodup ∧ nm.length ≤ 6 ∧ ∀ (p : Addr) (H' : Hp), Same H H' → H p = none → H' p = some (.dK (rowK nm (bits r))) → Q (.ref p) H'
def spWhole : Sp := fun vs H Q _ => ∃ k : Int, vs = [.int k] ∧ Q (.bl true) H
theorem inV_false : ∀ bs : List Bool, inV (.bl false) (bs.map V.bl) = !bs.all id
  | [] => rfl
  | b :: r => by
    have := inV_false r
    unfold inV at this ⊢
    rw [List.map_cons, List.any_cons, this]
    cases b <;> rfl
theorem inV_true : ∀ bs : List Bool, inV (.bl true) (bs.map V.bl) = bs.any id
  | [] => rfl
  | b :: r => by
    have := inV_true r
    unfold inV at this ⊢
    rw [List.map_cons, List.any_cons, this]
    cases b <;> rfl
theorem flat_bls : ∀ bs : List Bool, (bs.map V.bl).all flatV = true
  | [] => rfl
  | b :: r => by rw [List.map_cons, List.all_cons, flat_bls r]; rfl
section
variable {P : Program} {w : World} {K : PySem.W.Frag} {mg : Str → Option Value} {base : Heap} {a : Ad} {fs : Fs} {nm : List Str}
theorem ok_toldBy (g : G K mg a fs) : CalAt P w K mg base 3 fs.fToldBy (spToldBy K nm) := by
  have CC : Cal P w K mg base 1 "_law_cell_at" (spCellAt K) [] := cal_of (ok_cellAt g) (g.gl _ _ g.gCellAt)
  have CG : Cal P w K mg base 2 "_law_grown" (spGrown K nm) [] := cal_of (ok_grown g) (g.gl _ _ g.gGrown)
  refine ok_of g.rToldBy scToldBy (fun _ _ _ _ _ _ us hl => match us, hl with | [_, _, _, _], _ => rfl) (fun vs H Q E h => ?_) (fun cdv A outer s H vs Q E hr h => ?_)
  · obtain ⟨p, l2, ns, first, many, rfl, _⟩ := h
    rfl
  obtain ⟨p, l2, ns, first, many, rfl, hS, h63, f0, f1, m14, n0, n6, hN, q⟩ := h
  refine ⟨_, pss_cons (ps_set (i := 4) scToldBy.nd rfl (.inl rfl) (pe_lst pa_nil))
    (pss_cons (ps_for PassesOwn.never rfl (pi_range1 (by rfl) (g.no _ g.z_range) (pa_cons (pv 2) pa_nil)) (pg_name (i := 5) scToldBy.nd rfl (.inl rfl))
      (pss_one (ps_set (i := 4) scToldBy.nd rfl (.inl rfl) (pe_c CG hr (by omega) rfl (pa_cons (pv 4) (pa_cons (pe_op op_add (pe_c CC hr (by omega) rfl (pa_cons (pv 0) (pa_cons (pe_op op_add (pv 1) (pv 5)) pa_nil))) (pe_op op_mul pe_int (pv 5))) (pa_cons (pv 3) pa_nil)))))))
    (pss_cons (ps_if (pt_cmpR op_gt (pe_callB call_len_seq (by rfl) (g.no _ g.z_len) PySem.boot_len (pa_cons (pv 4) pa_nil)) pe_int (nomark _))
      (pss_one (ps_ret (pe_op op_catT (pe_tup (pa_cons pe_str pa_nil)) (pe_callTy call_tuple_of (by rfl) (g.no _ g.z_tuple) (by decide +kernel) (pa_cons (pv 4) pa_nil))))) pss_nil)
    (pss_one (ps_ret (pe_ix ix_list (pe_op op_cat (pv 4) (pe_lst (pa_cons (pe_tup (pa_cons pe_str (pa_cons (pe_ix ix_list (pv 3) pe_int (fun _ _ => rfl)) pa_nil))) pa_nil))) pe_int (fun _ _ => rfl)))))), ?_⟩
  have hz : sizeLine ≥ 1001 := by decide
  refine ⟨(by show 0 ≤ sizeLine; decide), fun l0 hl0 => ?_⟩
  refine ⟨_, rfl, (many : Int), rfl, by omega, by omega, ?_⟩
  refine for_range (lo := 0) (n := (many : Int).toNat) (fun i σ H' => ∃ (l : Addr) (ws : List V) (ts : List Tr) (v : Option V), σ = [some (.ref p), some (.int first), some (.int many), some (.ref l2), some (.ref l), v] ∧ Same H H' ∧ H' l = some (.lst ws) ∧ ToldsAt nm H' ws ts ∧ oks nm.length ts ∧ szs ts ≤ i)
    ⟨l0, [], [], none, rfl, Same.new _ hl0, upd_same, .nil, trivial, Nat.le_refl _⟩ ?_ ?_
  · rintro i σ H' hi ⟨l, ws, ts, v, rfl, s1, el, T, okt, hs⟩
    refine ⟨_, rfl, _, rfl, _, rfl, _, rfl, _, _, rfl, rfl, p, ns, _, rfl, sqL_same hS s1, h63, by omega, by omega, fun c => ?_⟩
    refine ⟨_, rfl, _, _, rfl, rfl, .inl ⟨by decide, by decide⟩, _, _, rfl, rfl, _, rfl, l, l2, ws, ts, _, rfl, el, T, okt, by omega, n0, n6, sqL_same hN s1, fun l' ws' ts' H2 s2 el' T' okt' hs' => ?_⟩
    exact ⟨l', ws', ts', _, rfl, s1.trans s2, el', T', okt', by omega⟩
  · rintro σ H' ⟨l, ws, ts, v, rfl, s1, el, T, okt, hs⟩
    have wl := T.len
    have tl := szs_len ts
    refine ⟨_, rfl, l, _, rfl, .inl (SqL.of el), _, _, rfl, rfl, _, rfl, ?_⟩
    refine ite2 (fun c1 => ?_) (fun c1 => ?_)
    · have w2 : 2 ≤ ws.length := by
        have := of_decide_eq_true c1
        omega
      refine ⟨(by show 1 ≤ sizeLine; decide), fun q1 hq1 => ?_⟩
      have t1 := Same.new (.tup [V.str "and"]) hq1
      refine ⟨_, rfl, l, _, rfl, .inl ⟨SqL.of (t1 _ _ el), fun q2 hq2 => ?_⟩⟩
      have t2 := Same.new (.tup ws) hq2
      refine ⟨q1, q2, _, _, rfl, rfl, SqT.of (t2 _ _ upd_same), SqT.of upd_same, (by simp), (by show 1 + _ ≤ _; omega), (fun z => by rw [z] at w2; simp at w2), fun _ q3 hq3 => ?_⟩
      have t3 := Same.new (.tup ([V.str "and"] ++ ws)) hq3
      have t03 := t1.trans (t2.trans t3)
      exact q (.ref q3) (.gr true ts) _ (s1.trans t03) (.gr upd_same (T.mono (.of t03))) ⟨by omega, okt⟩ (by simp only [sz]; omega)
    · have w1 : ws.length ≤ 1 := by
        have : ¬ ((1 : Int) < ((ws.length : Nat) : Int)) := fun z => c1 (decide_eq_true z)
        omega
      have hx : nm[0]? = some nm[0] := List.getElem?_eq_getElem n0
      refine ⟨_, rfl, _, rfl, l2, _, _, _, rfl, rfl, sqL_same hN s1, atI_nat (j := 0) (by rw [List.getElem?_map, hx]; rfl), (by show 2 ≤ sizeLine; decide), fun p1 hp1 => ⟨(by show 1 ≤ sizeLine; decide), fun p2 hp2 => ?_⟩⟩
      have t1 := Same.new (.tup [V.str "contact", V.str nm[0]]) hp1
      have t2 := Same.new (.lst [V.ref p1]) hp2
      refine ⟨l, p2, _, _, rfl, rfl, t2 _ _ (t1 _ _ el), upd_same, (by rw [List.length_singleton]; omega), fun p3 hp3 => ?_⟩
      have t3 := Same.new (.lst (ws ++ [V.ref p1])) hp3
      have t03 := t1.trans (t2.trans t3)
      cases T with
      | nil =>
        exact ⟨p3, _, _, _, rfl, rfl, SqL.of upd_same, atI_nat (j := 0) rfl, q (.ref p1) (.ct 0) _ (s1.trans t03) (.ct (t3 _ _ (t2 _ _ upd_same)) hx) n0 (by simp [sz])⟩
      | @cons v' t vs' ts' h1 h2 =>
        exact ⟨p3, _, _, _, rfl, rfl, SqL.of upd_same, atI_nat (j := 0) rfl, q v' t _ (s1.trans t03) (h1.mono (.of t03)) okt.1 (by simp only [szs] at hs; omega)⟩
theorem ok_lRow (g : G K mg a fs) : CalAt P w K mg base 1 fs.fLRow (spLRow K nm) := by
  refine ok_of g.rLRow scLRow (fun _ _ _ _ _ _ us hl => match us, hl with | [_, _], _ => rfl) (fun vs H Q E h => ?_) (fun cdv A outer s H vs Q E hr h => ?_)
  · obtain ⟨l2, r, rfl, _⟩ := h
    rfl
  obtain ⟨l2, r, rfl, hN, nd, n6, q⟩ := h
  have hu := hu_of hr
  refine ⟨_, pss_cons (ps_set (i := 2) scLRow.nd rfl (.inl rfl) pe_dnewK)
    (pss_cons (ps_for PassesOwn.never rfl (pi_list (pv 0)) (pg_name (i := 3) scLRow.nd rfl (.inl rfl))
      (pss_cons (ps_dput hu (pv 2) (pv 3) (pe_cmpR op_eq (pe_op op_mod (pv 1) pe_int) pe_int (nomark _)) rfl)
      (pss_one (ps_set (i := 1) scLRow.nd rfl (.inl rfl) (pe_op op_fdiv (pv 1) pe_int)))))
    (pss_one (ps_ret (pv 2)))), ?_⟩
  intro p hp
  have s1 := Same.new (.dK []) hp
  refine ⟨_, rfl, l2, rfl, ⟨_, sqL_same hN s1⟩, ?_⟩
  refine for_list (K := K) (a := l2) (xs := nm.map V.str) (fun i σ H' => ∃ v : Option V, σ = [some (.ref l2), some (.int ((r / 2 ^ i : Nat) : Int)), some (.ref p), v] ∧ Same H H' ∧ H' p = some (.dK (rowK (nm.take i) (bits r))))
    ⟨none, (by rw [Nat.pow_zero, Nat.div_one]; rfl), s1, upd_same⟩ (fun i σ H' _ ⟨_, _, s2, _⟩ => sqL_same hN s2) ?_ ?_
  · rintro i x σ H' hx ⟨v, rfl, s2, ep⟩
    obtain ⟨y, hy, rfl⟩ := names_at hx
    have ly : (rowK (nm.take i) (bits r)).length < sizeLine := by rw [rowF_length, List.length_take, sizeLine_eq]; omega
    have e0 : decide (V.int (((r / 2 ^ i : Nat) : Int) % 2) = V.int 1) = bits r i := by
      unfold bits
      by_cases h : r / 2 ^ i % 2 = 1
      · rw [decide_eq_true (congrArg V.int (show ((r / 2 ^ i : Nat) : Int) % 2 = 1 by omega)), h]
        rfl
      · rw [decide_eq_false fun z => h (by have := V.int.inj z; omega), beq_eq_false_iff_ne.mpr h]
    have e := row_grow nd (bits r) hy
    rw [← e0] at e
    refine ⟨_, rfl, _, _, rfl, rfl, (show (0 : Int) < 2 by decide), rfl, _, rfl, _, rfl, p, _, rfl, DPut.k (k := Sum.inr y) ep ly, ?_⟩
    refine ⟨_, rfl, _, _, rfl, rfl, ⟨by decide, by decide⟩, ?_⟩
    refine ⟨some (.str y), ?_, fun b o z => ?_, ?_⟩
    · rw [Nat.pow_succ, ← Nat.div_div_eq_div_mul]
      show [some (V.ref l2), some (V.int (((r / 2 ^ i : Nat) : Int) / 2)), some (V.ref p), some (V.str y)] = _
      rw [show ((r / 2 ^ i : Nat) : Int) / 2 = ((r / 2 ^ i / 2 : Nat) : Int) by omega]
    · rw [upd_ne (ne_of_none z hp)]; exact s2 b o z
    · rw [upd_same]
      exact congrArg (fun z => some (HO.dK z)) e
  · rintro σ H' ⟨v, rfl, s2, ep⟩
    rw [List.length_map, List.take_length] at ep
    exact ⟨_, rfl, q p H' s2 hp ep⟩
theorem holds_step (g : G K mg a fs) {d : Nat} (C : CalAt P w K mg base (1 + d) fs.fHolds (spHolds nm d)) : CalAt P w K mg base (1 + d + 1) fs.fHolds (spHolds nm (d + 1)) := by
  have CH : Cal P w K mg base (1 + d) "_law_holds" (spHolds nm d) [] := cal_of C (g.gl _ _ g.gHolds)
  refine ok_of g.rHolds scHolds (fun _ _ _ _ _ _ us hl => match us, hl with | [_, _], _ => rfl) (fun vs H Q E h => ?_) (fun cdv A outer s H vs Q E hr h => ?_)
  · obtain ⟨v, t, p, acc, rfl, _⟩ := h
    rfl
  obtain ⟨v, t, p, acc, rfl, T, nd, hd, hs, ep, q⟩ := h
  have hu := hu_of hr
  refine ⟨_, pss_cons (ps_if (pt_cmpR op_eq (pe_ix ix_tup (pv 0) pe_int (fun _ _ => rfl)) pe_str (nomark _)) (pss_one (ps_ret (pe_ix ix_tup (pv 0) pe_int (fun _ _ => rfl)))) pss_nil)
    (pss_cons (ps_if (pt_cmpR op_eq (pe_ix ix_tup (pv 0) pe_int (fun _ _ => rfl)) pe_str (nomark _)) (pss_one (ps_ret (pe_dget hu (pv 1) (pe_ix ix_tup (pv 0) pe_int (fun _ _ => rfl)) (fun _ _ => rfl)))) pss_nil)
    (pss_cons (ps_setLc (i := 2) (own := [("_law_inner", 3)]) (g := gName 3) (by rfl) scHolds.nd rfl rfl (sw_true rfl rfl rfl (by decide +kernel)) (pi_tup (pe_slice sl_tup (pv 0) (po_some pe_int) po_none)) (blkOk_by (own := [("_law_inner", 3)]) (N := nHolds) (sc := defScope sHolds) (by decide +kernel))
      (fun _ _ _ _ _ => pg_name (i := 3) scHolds.nd rfl (Or.inl rfl)) (fun _ _ _ _ _ => pts_nil) (fun _ _ _ _ _ => pe_c CH hr (Nat.le_refl _) rfl (pa_cons (pv 3) (pa_cons (pv 1) pa_nil))))
    (pss_cons (ps_if (pt_cmpR op_eq (pe_ix ix_tup (pv 0) pe_int (fun _ _ => rfl)) pe_str (nomark _)) (pss_one (ps_ret (pe_not (pe_ix ix_list (pv 2) pe_int (fun _ _ => rfl))))) pss_nil)
    (pss_cons (ps_if (pt_cmpR op_eq (pe_ix ix_tup (pv 0) pe_int (fun _ _ => rfl)) pe_str (nomark _)) (pss_one (ps_ret (pe_cmpR op_notIn_seq pe_bl (pv 2) (by rfl)))) pss_nil)
    (pss_one (ps_ret (pe_cmpR op_in_seq pe_bl (pv 2) (by rfl)))))))), ?_⟩
  cases hsg : isSg t with
  | true =>
    cases T with
    | @fx b0 b e =>
      refine ⟨_, rfl, b0, _, _, _, rfl, rfl, SqT.of e, atI_nat (j := 0) rfl, rfl, _, rfl, ?_⟩
      rw [decide_eq_true rfl]
      exact iteT ⟨_, rfl, b0, _, _, _, rfl, rfl, SqT.of e, atI_nat (j := 1) rfl, q H (Same.refl H)⟩
    | @ct b0 i x e hi =>
      refine ⟨_, rfl, b0, _, _, _, rfl, rfl, SqT.of e, atI_nat (j := 0) rfl, rfl, _, rfl, ?_⟩
      rw [decide_eq_false (show ¬ (V.str "contact" = V.str "fixed") by decide)]
      refine iteF ⟨_, rfl, b0, _, _, _, rfl, rfl, SqT.of e, atI_nat (j := 0) rfl, rfl, _, rfl, ?_⟩
      rw [decide_eq_true rfl]
      have z := DGet.k (k := Sum.inr x) ep
      have hv := rowF_val acc 0 nm nd i x hi
      rw [Nat.zero_add] at hv
      rw [hv] at z
      exact iteT ⟨_, rfl, _, rfl, b0, _, _, _, rfl, rfl, SqT.of e, atI_nat (j := 1) rfl, p, _, rfl, z, q H (Same.refl H)⟩
    | nt e ht => cases hsg
    | gr e ht => cases hsg
  | false =>
    obtain ⟨b0, tl, rfl, e, tks⟩ := T.head
    have TK := tks hsg
    have len := TK.len
    have nf : ¬ (V.str (hdOf t) = V.str "fixed") := by
      cases t with
      | fx _ => cases hsg
      | ct _ => cases hsg
      | nt _ => show ¬ (V.str "not" = V.str "fixed"); decide
      | gr k _ => cases k
                  · show ¬ (V.str "or" = V.str "fixed"); decide
                  · show ¬ (V.str "and" = V.str "fixed"); decide
    have nc : ¬ (V.str (hdOf t) = V.str "contact") := by
      cases t with
      | fx _ => cases hsg
      | ct _ => cases hsg
      | nt _ => show ¬ (V.str "not" = V.str "contact"); decide
      | gr k _ => cases k
                  · show ¬ (V.str "or" = V.str "contact"); decide
                  · show ¬ (V.str "and" = V.str "contact"); decide
    refine ⟨_, rfl, b0, _, _, _, rfl, rfl, SqT.of e, atI_nat (j := 0) rfl, rfl, _, rfl, ?_⟩
    rw [decide_eq_false nf]
    refine iteF ⟨_, rfl, b0, _, _, _, rfl, rfl, SqT.of e, atI_nat (j := 0) rfl, rfl, _, rfl, ?_⟩
    rw [decide_eq_false nc]
    refine iteF ⟨_, rfl, _, rfl, b0, _, rfl, SqT.of e, fun z => absurd (show (1 : Nat) = 0 from ?_) (by decide), fun r hr2 => ?_⟩
    · have h1 : min 1 ((V.str (hdOf t) :: tl).length) = 0 := z.1
      rw [List.length_cons] at h1
      omega
    rw [show cutV (V.str (hdOf t) :: tl) (some 1) none = tl from cutV_from (k := 1) (by rw [List.length_cons]; omega)]
    have s1 := Same.new (.tup tl) hr2
    refine ⟨r, rfl, ⟨_, SqT.of upd_same⟩, fun D hD => ?_⟩
    have er : upd H r (.tup tl) r = some (.tup tl) := upd_same
    obtain ⟨H1, eH1⟩ : ∃ H1 : Hp, H1 = upd H r (.tup tl) := ⟨_, rfl⟩
    rw [← eH1] at s1 er hD ⊢
    refine lc_tup (K := K) (a := r) (xs := tl) (fun i H' => Same H1 H' ∧ H' D = some (.lst ((evs acc ((kids t).take i)).map V.bl))) ⟨Same.new _ hD, upd_same⟩ (fun i H' _ ⟨s2, _⟩ => SqT.of (s2 _ _ er)) ?_ ?_
    · rintro i v H' hv ⟨s2, eD⟩
      obtain ⟨u, hu2, tu⟩ := TK.get hv
      have s12 := s1.trans s2
      have dk := dp_kids t
      have zk := sz_kids t
      have dg := dp_get hu2
      have zg := sz_get hu2
      refine ⟨rfl, _, rfl, _, rfl, v, u, p, acc, rfl, tu.mono (.of s12), nd, by omega, by omega, s12 _ _ ep, fun H2 s3 => ?_⟩
      have hi : i < (kids t).length := (List.getElem?_eq_some_iff.mp hu2).1
      have kl := szs_len (kids t)
      refine ⟨_, s3 _ _ eD, ?_, ?_, ?_⟩
      · rw [sizeLine_eq, List.length_map, evs_length, List.length_take]; omega
      · intro b o z
        have nb : b ≠ D := by
          intro z2
          subst z2
          rw [hD] at z; cases z
        rw [upd_ne nb]
        exact s3 b o (s2 b o z)
      · rw [upd_same, evs_take_succ acc hu2, List.map_append]
        rfl
    · rintro H' ⟨s2, eD⟩
      rw [len, List.take_length] at eD
      have s12 := s1.trans s2
      have e' := s12 _ _ e
      refine ⟨_, rfl, b0, _, _, _, rfl, rfl, SqT.of e', atI_nat (j := 0) rfl, rfl, _, rfl, ?_⟩
      have bl := evs_length acc (kids t)
      cases t with
      | fx _ => cases hsg
      | ct _ => cases hsg
      | nt t =>
        rw [decide_eq_true (show V.str (hdOf (.nt t)) = V.str "not" from rfl)]
        exact iteT ⟨_, rfl, D, _, _, _, rfl, rfl, SqL.of eD, atI_nat (j := 0) rfl, _, rfl, q H' s12⟩
      | gr k ts =>
        have nn : ¬ (V.str (hdOf (.gr k ts)) = V.str "not") := by
          cases k
          · show ¬ (V.str "or" = V.str "not"); decide
          · show ¬ (V.str "and" = V.str "not"); decide
        rw [decide_eq_false nn]
        refine iteF ⟨_, rfl, b0, _, _, _, rfl, rfl, SqT.of e', atI_nat (j := 0) rfl, rfl, _, rfl, ?_⟩
        cases k with
        | true =>
          rw [decide_eq_true (show V.str (hdOf (.gr true ts)) = V.str "and" from rfl)]
          refine iteT ⟨_, rfl, D, _, rfl, .inl (SqL.of eD), rfl, flat_bls _, ?_⟩
          have e2 : (if true = true then !inV (.bl false) ((evs acc (kids (.gr true ts))).map V.bl) else inV (.bl false) ((evs acc (kids (.gr true ts))).map V.bl)) = ev acc (.gr true ts) := by
            rw [inV_false, if_pos rfl, Bool.not_not, ev_gr]
            rfl
          rw [e2]
          exact q H' s12
        | false =>
          rw [decide_eq_false (show ¬ (V.str (hdOf (.gr false ts)) = V.str "and") by show ¬ (V.str "or" = V.str "and"); decide)]
          refine iteF ⟨_, rfl, D, _, rfl, .inl (SqL.of eD), rfl, flat_bls _, ?_⟩
          have e2 : (if false = true then !inV (.bl true) ((evs acc (kids (.gr false ts))).map V.bl) else inV (.bl true) ((evs acc (kids (.gr false ts))).map V.bl)) = ev acc (.gr false ts) := by
            rw [inV_true, if_neg (by decide), ev_gr]
            rfl
          rw [e2]
          exact q H' s12
theorem ok_holds (g : G K mg a fs) : ∀ d : Nat, CalAt P w K mg base (1 + d) fs.fHolds (spHolds nm d)
  | 0 => ok_no (ps := pHolds) g.rHolds (fun _ _ _ _ _ _ us hl => match us, hl with | [_, _], _ => rfl) fun vs H Q E ⟨v, t, p, acc, _, _, _, hd, _⟩ => by have := dp_pos t; omega
  | d + 1 => holds_step g (ok_holds g d)
theorem ok_whole (g : G K mg a fs) : CalAt P w K mg base 1 fs.fWhole spWhole := by
  refine ok_of g.rWhole scWhole (fun _ _ _ _ _ _ us hl => match us, hl with | [_], _ => rfl) (fun vs H Q E h => ?_) (fun cdv A outer s H vs Q E hr h => ?_)
  · obtain ⟨k, rfl, _⟩ := h
    rfl
  obtain ⟨k, rfl, q⟩ := h
  refine ⟨_, pss_one (ps_ret (pe_and (pe_callB call_isi (by rfl) (g.no _ g.z_isinstance) (by decide +kernel) (pa_cons (pv 0) (pa_cons (pe_bltn (v := .ty "int") rfl (g.no _ g.z_int) (by decide +kernel) rfl) pa_nil)))
    (pe_one (pe_not (pe_callB call_isi (by rfl) (g.no _ g.z_isinstance) (by decide +kernel) (pa_cons (pv 0) (pa_cons (pe_bltn (v := .ty "bool") rfl (g.no _ g.z_bool) (by decide +kernel) rfl) pa_nil))))))), ?_⟩
  exact ⟨_, rfl, _, _, _, _, true, rfl, .ty "int", .base (.int _), kit_ty (by decide +kernel), _, rfl, iteT ⟨_, rfl, _, _, _, _, false, rfl, .ty "bool", .base (.int _), kit_ty (by decide +kernel), _, rfl, q⟩⟩
end
end K34
set_option Elab.async false
set_option linter.all false
set_option maxRecDepth 100000
set_option maxHeartbeats 4000000
/-! The law's own: found, alike. -/
namespace K34
open PySem PySem.Spec PyProof.Rows L2 C8 SX
def spFound (a : Ad) (nm : List Str) : Sp := fun vs H Q _ => ∃ (L : Sl) (ns : List Nd) (k : Nat) (t : DT), vs = [.ref L.p, .int k] ∧ SheetAt a nm L H ns ∧ Den ns k t ∧ k ≠ 0 ∧ nm.Nodup ∧ nm.length ≤ 6 ∧
  ∀ (p : Addr) (H' : Hp), Same H H' → H p = none → H' p = some (.dK (rowK nm (rw_ (fun _ => false) t))) → Q (.ref p) H'
def spAlike (nm : List Str) : Sp := fun vs H Q _ => ∃ (p d : Addr) (acc : Nat → Bool), vs = [.ref p, .ref d] ∧ H p = some (.dK (rowK nm acc)) ∧ H d = some (.dK (rowK nm acc)) ∧ p ≠ d ∧ nm.Nodup ∧ nm.length ≤ 6 ∧ (∀ x ∈ nm, Good x) ∧ ∀ H', Same H H' → Q (.bl true) H'
theorem st_id {acc : Nat → Bool} {p : Nat} (h : acc p = false) : st acc p false = acc := by
  funext i
  unfold st
  by_cases e : i = p
  · rw [if_pos e, e, h]
  · rw [if_neg e]
theorem rowF_at (acc : Nat → Bool) : ∀ (i0 : Nat) (nm : List Str) (i : Nat) (k : Key) (v : V), (rowF acc i0 nm)[i]? = some (k, v) → ∃ x, nm[i]? = some x ∧ k = Sum.inr x
  | _, [], i, k, v, h => by simp [rowF] at h
  | i0, x :: r, 0, k, v, h => by
    have e := Option.some.inj (show some ((Sum.inr x : Key), V.bl (acc i0)) = some (k, v) from h)
    exact ⟨x, rfl, (congrArg Prod.fst e).symm⟩
  | i0, x :: r, i + 1, k, v, h => by
    obtain ⟨y, h1, h2⟩ := rowF_at acc (i0 + 1) r i k v (by simpa [rowF] using h)
    exact ⟨y, by simpa using h1, h2⟩
/-- over a locked dict's keys -/
theorem for_keys {d : Addr} {o : Obj} {kvs : List (Key × V)} {g : TG} {tb : TS} {D : Ends} {σ : L2.St} {H : Hp} (Pv : Nat → L2.St → Hp → Prop) (h0 : Pv 0 σ H) (hl : ∀ i σ H, i ≤ kvs.length → Pv i σ H → H d = some (.frz o (.dK kvs)))
    (hs : ∀ i k v σ H, kvs[i]? = some (k, v) → Pv i σ H → g (kV k) σ H fun σ2 H2 => tb { D with nx := Pv (i + 1), ct := Pv (i + 1), bk := D.nx } σ2 H2) (hd : ∀ σ H, Pv kvs.length σ H → D.nx σ H) :
    ∃ W : Nat → Nat → L2.St → Hp → Prop, (∃ m, W 0 m σ H) ∧ ∀ i m σ H, W i m σ H →
      ((Itk d o kvs).stop i H ∧ D.nx σ H) ∨ ((Itk d o kvs).go i H ∧ ∃ N : L2.St → Hp → Prop, (∀ σ' H', N σ' H' → ∃ m', m' < m ∧ W (i + 1) m' σ' H') ∧ ∀ x H', (Itk d o kvs).yld i H x H' → g x σ H' fun σ2 H2 => tb { D with nx := N, ct := N, bk := D.nx } σ2 H2) := by
  refine ⟨fun i m σ H => m = kvs.length - i ∧ i ≤ kvs.length ∧ Pv i σ H, ⟨kvs.length, by simp, Nat.zero_le _, h0⟩, ?_⟩
  rintro i m σ H ⟨rfl, hi, p⟩
  by_cases hlt : i < kvs.length
  · refine .inr ⟨⟨hl i σ H hi p, hlt⟩, Pv (i + 1), fun σ' H' p' => ⟨kvs.length - (i + 1), by omega, rfl, hlt, p'⟩, fun x H' y => ?_⟩
    obtain ⟨e, k, v, hk, rfl⟩ := y
    subst e
    exact hs i k v σ _ hk p
  · have e : i = kvs.length := by omega
    subst e
    exact .inl ⟨⟨hl _ σ H hi p, Nat.le_refl _⟩, hd σ H p⟩
section
variable {P : Program} {w : World} {K : PySem.W.Frag} {mg : Str → Option Value} {base : Heap} {a : Ad} {fs : Fs} {nm : List Str}
theorem ok_found (g : G K mg a fs) : CalAt P w K mg base 3 fs.fFound (spFound a nm) := by
  have CS : Met P w K mg base 2 a.sh "shown" (spShown a nm) [] := met_of (ok_shown g) g.clS g.m_shown_sh g.iShown
  refine ok_of g.rFound scFound (fun _ _ _ _ _ _ us hl => match us, hl with | [_, _], _ => rfl) (fun vs H Q E h => ?_) (fun cdv A outer s H vs Q E hr h => ?_)
  · obtain ⟨L, ns, k, t, rfl, _⟩ := h
    rfl
  obtain ⟨L, ns, k, t, rfl, S, dk, k0, nd, h6, q1⟩ := h
  have hu := hu_of hr
  refine ⟨_, pss_cons (ps_set (i := 2) scFound.nd rfl (.inl rfl) pe_dnewK)
    (pss_cons (ps_for PassesOwn.never rfl (pi_tup (pe_fld (pv 0) rfl)) (pg_name (i := 3) scFound.nd rfl (.inl rfl)) (pss_one (ps_dput hu (pv 2) (pv 3) pe_bl rfl)))
    (pss_cons (ps_while PassesOwn.never (pt_cmpR op_gt (pv 1) pe_int (nomark _))
      (pss_cons (ps_asg (pe_mt CS hr (Nat.le_refl _) (pv 0) (pa_cons (pv 1) pa_nil)) (pg_tup rfl (pgs_cons (pg_name (i := 4) scFound.nd rfl (.inl rfl)) (pgs_cons (pg_name (i := 5) scFound.nd rfl (.inl rfl)) (pgs_cons (pg_name (i := 6) scFound.nd rfl (.inl rfl)) pgs_nil)))))
      (pss_cons (ps_set (i := 1) scFound.nd rfl (.inl rfl) (pv 5))
      (pss_one (ps_if (pt_cmpR op_eq (pv 5) pe_int (nomark _))
        (pss_cons (ps_dput hu (pv 2) (pe_ix ix_tup (pe_fld (pv 0) rfl) (pv 4) (fun _ _ => rfl)) pe_bl rfl)
        (pss_one (ps_set (i := 1) scFound.nd rfl (.inl rfl) (pv 6)))) pss_nil)))))
    (pss_one (ps_ret (pv 2))))), ?_⟩
  intro p hp
  have s1 := Same.new (.dK []) hp
  refine ⟨_, rfl, L.p, a.sh, L.dx, _, _, rfl, s1 _ _ S.ob, g.clS, g.n_names_sh, rfl, L.tn, rfl, ⟨_, (S.tn.mono (.of s1)).sq⟩, ?_⟩
  refine for_tup (K := K) (a := L.tn) (xs := nm.map V.str) (fun i σ H' => ∃ x : Option V, σ = [some (.ref L.p), some (.int k), some (.ref p), x, none, none, none] ∧ Same H H' ∧ H' p = some (.dK (rowK (nm.take i) (fun _ => false))))
    ⟨none, rfl, s1, upd_same⟩ (fun i σ H' _ ⟨_, _, s2, _⟩ => (S.tn.mono (.of s2)).sq) ?_ ?_
  · rintro i x σ H' hx ⟨x0, rfl, s2, ep⟩
    obtain ⟨y, hy, rfl⟩ := names_at hx
    have ly : (rowK (nm.take i) (fun _ => false)).length < sizeLine := by rw [rowF_length, List.length_take, sizeLine_eq]; omega
    refine ⟨_, rfl, _, rfl, p, _, rfl, DPut.k (k := Sum.inr y) ep ly, ?_⟩
    have e := row_grow nd (fun _ => false) hy
    refine ⟨some (.str y), rfl, fun b o z => ?_, ?_⟩
    · rw [upd_ne (ne_of_none z hp)]; exact s2 b o z
    · rw [upd_same]
      exact congrArg (fun z => some (HO.dK z)) e
  · rintro σ H' ⟨x0, rfl, s2, ep⟩
    rw [List.length_map, List.take_length] at ep
    refine ⟨fun m σ H2 => ∃ (k2 : Nat) (t2 : DT) (acc : Nat → Bool) (v4 v5 v6 : Option V), σ = [some (.ref L.p), some (.int k2), some (.ref p), x0, v4, v5, v6] ∧ Same H H2 ∧ H2 p = some (.dK (rowK nm acc)) ∧ Den ns k2 t2 ∧ k2 ≠ 0 ∧ rw_ acc t2 = rw_ (fun _ => false) t ∧ (∀ q, plc nm.length t2 ≤ q → acc q = false) ∧ m + plc nm.length t2 = nm.length,
      ⟨nm.length - plc nm.length t, k, t, _, none, none, none, rfl, s2, ep, dk, k0, rfl, fun _ _ => rfl, by have := (S.wf.den dk).plc_le; omega⟩, ?_⟩
    rintro m σ H2 ⟨k2, t2, acc, v4, v5, v6, rfl, s3, ep2, dk2, k20, erw, hacc, hm⟩
    refine ⟨_, rfl, _, _, rfl, rfl, _, rfl, ?_⟩
    refine ite2 (fun c2 => ?_) (fun c2 => ?_)
    · have k22 : 2 ≤ k2 := by
        have := of_decide_eq_true c2
        omega
      have S3 : SheetAt a nm L H2 ns := S.same s3
      have ot := S.wf.den dk2
      obtain ⟨pp, l, h, tl, th, en, rfl, d1, d2⟩ := dk2.big k22
      obtain ⟨hpp, h1, h2, h3, ol, oh⟩ := id ot
      have hx : nm[pp]? = some nm[pp] := List.getElem?_eq_getElem hpp
      have le1 := ol.plc_le
      have le2 := oh.plc_le
      have hm' : m + pp = nm.length := hm
      refine ⟨fun σ' H' => ∃ m', m' < m ∧ ∃ (k2 : Nat) (t2 : DT) (acc : Nat → Bool) (v4 v5 v6 : Option V), σ' = [some (.ref L.p), some (.int k2), some (.ref p), x0, v4, v5, v6] ∧ Same H H' ∧ H' p = some (.dK (rowK nm acc)) ∧ Den ns k2 t2 ∧ k2 ≠ 0 ∧ rw_ acc t2 = rw_ (fun _ => false) t ∧ (∀ q, plc nm.length t2 ≤ q → acc q = false) ∧ m' + plc nm.length t2 = nm.length,
        fun _ _ z => z, ?_⟩
      refine ⟨_, rfl, L.p, L.dx, _, rfl, S3.ob, rfl, _, rfl, L, ns, k2, pp, l, h, rfl, S3, k22, en, fun aT e3 => ?_⟩
      refine ⟨aT, _, rfl, SqT.of e3, rfl, _, _, rfl, _, _, rfl, _, _, rfl, rfl, ?_⟩
      refine ⟨_, rfl, ?_⟩
      refine ⟨_, rfl, rfl, _, rfl, ?_⟩
      have lr : (rowK nm acc).length < sizeLine := by rw [rowF_length, sizeLine_eq]; omega
      refine ite2 (fun c3 => ?_) (fun c3 => ?_)
      · have l0 : l = 0 := by have z : (l : Int) = 0 := V.int.inj (of_decide_eq_true c3); omega
        subst l0
        have etl : tl = DF := d1.uniq .z
        have hne : h ≠ 0 := fun z => by
          subst z
          exact h3 ⟨etl, d2.uniq .z⟩
        have lt1 : nm.length - plc nm.length th < m := by omega
        refine ⟨_, rfl, _, rfl, L.p, a.sh, L.dx, _, _, rfl, S3.ob, g.clS, g.n_names_sh, rfl, _, rfl, L.tn, _, _, _, rfl, rfl, S3.tn.sq, atI_nat (j := pp) (by rw [List.getElem?_map, hx]; rfl), p, _, rfl, DPut.k (k := Sum.inr nm[pp]) ep2 lr, ?_⟩
        have eput := rowF_put acc true 0 nm nd pp nm[pp] hx
        rw [Nat.zero_add] at eput
        refine ⟨_, rfl, nm.length - plc nm.length th, lt1, h, th, st acc pp true, _, _, _, rfl, fun b o z => ?_, ?_, d2, hne, ?_, fun q hq => ?_, by omega⟩
        · rw [upd_ne (ne_of_none z hp)]; exact s3 b o z
        · rw [upd_same]
          exact congrArg (fun z => some (HO.dK z)) eput
        · rw [← erw]
          show _ = if tl = DF then rw_ (st acc pp true) th else rw_ (st acc pp false) tl
          rw [if_pos etl]
        · rw [st_ne _ _ (by omega)]
          exact hacc q (show pp ≤ q by omega)
      · have l0 : l ≠ 0 := fun z => c3 (decide_eq_true (by rw [z]; rfl))
        have etl : tl ≠ DF := fun z => by
          subst z
          exact l0 d1.lf_inv
        have lt1 : nm.length - plc nm.length tl < m := by omega
        refine ⟨nm.length - plc nm.length tl, lt1, l, tl, acc, _, _, _, rfl, s3, ep2, d1, l0, ?_, fun q hq => ?_, by omega⟩
        · rw [← erw]
          show _ = if tl = DF then rw_ (st acc pp true) th else rw_ (st acc pp false) tl
          rw [if_neg etl, st_id (hacc pp (Nat.le_refl _))]
        · exact hacc q (show pp ≤ q by omega)
    · have k21 : k2 = 1 := by
        have : ¬ ((1 : Int) < (k2 : Int)) := fun z => c2 (decide_eq_true z)
        omega
      subst k21
      have e := dk2.small (by decide)
      subst e
      have e2 : acc = rw_ (fun _ => false) t := erw
      rw [e2] at ep2
      exact ⟨_, rfl, q1 p H2 s3 hp ep2⟩
theorem dp_names {H : Hp} : ∀ nm : List Str, DpAll K H (nm.map V.str) (nm.map PyData.str)
  | [] => .nil
  | x :: r => .cons (.str x) (dp_names r)
theorem lay_names : ∀ nm : List Str, (∀ x ∈ nm, Good x) → PyData.canLayAll0 (nm.map PyData.str) = true
  | [], _ => rfl
  | x :: r, h => by
    have hx : PyData.canLay0 (.str x) = true := by
      show x.cps.all (· < 0x110000) = true
      rw [← Array.all_toList, List.all_eq_true]
      intro c hc
      have := (h x List.mem_cons_self).small c hc
      exact decide_eq_true (by omega)
    rw [List.map_cons]
    show (PyData.canLay0 (.str x) && PyData.canLayAll0 (r.map PyData.str)) = true
    rw [hx, lay_names r fun y hy => h y (List.mem_cons_of_mem _ hy)]
    rfl
theorem depth_names : ∀ nm : List Str, PyData.depthAll (nm.map PyData.str) = 0
  | [] => rfl
  | x :: r => by
    show max 0 (PyData.depthAll (r.map PyData.str)) = 0
    rw [depth_names r]
    rfl
theorem shaped_names (nm : List Str) (h : ∀ x ∈ nm, Good x) : SeqAt.shaped (.list (nm.map PyData.str)) = true := by
  unfold SeqAt.shaped
  have e1 : PyData.canLay0 (.list (nm.map PyData.str)) = true := lay_names nm h
  have e2 : PyData.depth (.list (nm.map PyData.str)) = 1 := by
    show PyData.depthAll (nm.map PyData.str) + 1 = 1
    rw [depth_names]
  rw [e1, e2]
  rfl
theorem ok_alike (g : G K mg a fs) : CalAt P w K mg base 1 fs.fAlike (spAlike nm) := by
  refine ok_of g.rAlike scAlike (fun _ _ _ _ _ _ us hl => match us, hl with | [_, _], _ => rfl) (fun vs H Q E h => ?_) (fun cdv A outer s H vs Q E hr h => ?_)
  · obtain ⟨p, d, acc, rfl, _⟩ := h
    rfl
  obtain ⟨p, d, acc, rfl, ep, ed, npd, nd, n6, gd, q⟩ := h
  have hu := hu_of hr
  have hu64 := hr.units
  refine ⟨_, pss_cons (ps_if (PW.pt (pw_or (pt_not (pt_val (pe_callB call_isi (by rfl) (g.no _ g.z_isinstance) (by decide +kernel) (pa_cons (pv 0) (pa_cons (pe_bltn (v := .ty "dict") rfl (g.no _ g.z_dict) (by decide +kernel) rfl) pa_nil)))))
      (pw_or1 (pt_cmpR (op_neD hu64) (pe_callTy (call_list_dK rfl) (by rfl) (g.no _ g.z_list) (by decide +kernel) (pa_cons (pv 0) pa_nil)) (pe_callTy (call_list_dK rfl) (by rfl) (g.no _ g.z_list) (by decide +kernel) (pa_cons (pv 1) pa_nil)) (nomark _)))))
      (pss_one (ps_ret pe_bl)) pss_nil)
    (pss_cons (ps_lock (ps_for PassesOwn.never rfl (pi_keys (pv 1)) (pg_name (i := 2) scAlike.nd rfl (.inl rfl))
      (pss_one (ps_if (PW.pt (pw_or (pt_not (pt_val (pe_callB call_isi (by rfl) (g.no _ g.z_isinstance) (by decide +kernel) (pa_cons (pe_dget hu (pv 0) (pv 2) (fun _ _ => rfl)) (pa_cons (pe_bltn (v := .ty "bool") rfl (g.no _ g.z_bool) (by decide +kernel) rfl) pa_nil)))))
        (pw_or1 (pt_cmpR op_ne (pe_dget hu (pv 0) (pv 2) (fun _ _ => rfl)) (pe_dget hu (pv 1) (pv 2) (fun _ _ => rfl)) (nomark _)))))
        (pss_one (ps_ret pe_bl)) pss_nil))))
    (pss_one (ps_ret pe_bl))), ?_⟩
  refine ⟨_, rfl, _, _, _, _, true, rfl, .ty "dict", .base (.dK ep), kit_ty (by decide +kernel), _, rfl, iteF ?_⟩
  refine ⟨_, rfl, p, _, rfl, ep, fun l1 hl1 => ?_⟩
  have s1 := Same.new (.lst ((rowK nm acc).map fun kv => kV kv.1)) hl1
  refine ⟨_, rfl, d, _, rfl, s1 _ _ ed, fun l2 hl2 => ?_⟩
  have s2 := Same.new (.lst ((rowK nm acc).map fun kv => kV kv.1)) hl2
  have s12 := s1.trans s2
  refine ⟨_, _, .lst (SqL.of (s2 _ _ upd_same)) (by rw [rowF_keys]; exact dp_names nm), .lst (SqL.of upd_same) (by rw [rowF_keys]; exact dp_names nm), shaped_names nm gd, shaped_names nm gd, _, rfl, ?_⟩
  rw [show PyData.eqv (.list (nm.map PyData.str)) (.list (nm.map PyData.str)) = true from SeqAt.eqv_refl _ (lay_names nm gd)]
  refine iteF ?_
  obtain ⟨H2, eH2⟩ : ∃ H2 : Hp, H2 = upd (upd H l1 (.lst ((rowK nm acc).map fun kv => kV kv.1))) l2 (.lst ((rowK nm acc).map fun kv => kV kv.1)) := ⟨_, rfl⟩
  rw [← eH2] at s12 ⊢
  have ep2 := s12 _ _ ep
  have ed2 := s12 _ _ ed
  refine ⟨d, _, ed2, trivial, fun od => ?_⟩
  refine ⟨_, rfl, d, od, rfl, .inl ⟨_, upd_same, ?_⟩⟩
  refine for_keys (d := d) (o := od) (kvs := rowK nm acc) (fun i σ H' => ∃ v : Option V, σ = [some (.ref p), some (.ref d), v] ∧ H' = upd H2 d (.frz od (.dK (rowK nm acc)))) ⟨none, rfl, rfl⟩ (fun i σ H' _ ⟨_, _, e⟩ => by rw [e]; exact upd_same) ?_ ?_
  · rintro i k v σ H' hk ⟨v0, rfl, rfl⟩
    obtain ⟨x, hx, rfl⟩ := rowF_at acc 0 nm i k v hk
    have hv := rowF_val acc 0 nm nd i x hx
    rw [Nat.zero_add] at hv
    have z1 : DGet (upd H2 d (.frz od (.dK (rowK nm acc)))) p (.str x) (some (.bl (acc i))) := by
      have z := DGet.k (k := Sum.inr x) (H := upd H2 d (.frz od (.dK (rowK nm acc)))) ((upd_ne npd).trans ep2)
      rw [hv] at z
      exact z
    have z2 : DGet (upd H2 d (.frz od (.dK (rowK nm acc)))) d (.str x) (some (.bl (acc i))) := .inl ⟨rowK nm acc, Sum.inr x, .inr ⟨od, upd_same⟩, rfl, hv.symm⟩
    refine ⟨_, rfl, _, rfl, p, _, rfl, z1, _, _, _, _, true, rfl, .ty "bool", .base (.bl _), kit_ty (by decide +kernel), _, rfl, iteF ?_⟩
    refine ⟨_, rfl, _, rfl, p, _, rfl, z1, _, rfl, _, rfl, d, _, rfl, z2, rfl, _, rfl, ?_⟩
    rw [decide_eq_true rfl]
    exact iteF ⟨_, rfl, rfl⟩
  · rintro σ H' ⟨v0, rfl, rfl⟩
    refine ⟨upd_same, q _ fun b o z => ?_⟩
    rw [upd_upd]
    by_cases e : b = d
    · subst e
      rw [upd_same]
      rw [ed] at z
      exact z
    · rw [upd_ne e]
      exact s12 _ _ z
end
end K34
set_option Elab.async false
set_option linter.all false
set_option maxRecDepth 100000
set_option maxHeartbeats 8000000
/-! The law. -/
namespace K34
open PySem PySem.Spec PyProof.Rows L2 C8 SX
def spLaw (K : PySem.W.Frag) : Sp := fun vs H Q _ => ∃ (a : Addr) (ns : List Int), vs = [.ref a] ∧ SqL K H a (ns.map V.int) ∧ ns.length ≤ 63 ∧ ∀ H', Q (.bl true) H'
theorem rowF_at2 (acc : Nat → Bool) : ∀ (i0 : Nat) (nm : List Str) (i : Nat) (p : Key × V), (rowF acc i0 nm)[i]? = some p → ∃ x, nm[i]? = some x ∧ p = (Sum.inr x, V.bl (acc (i0 + i)))
  | _, [], i, p, h => by simp [rowF] at h
  | i0, x :: r, 0, p, h => by
    have e := Option.some.inj (show some ((Sum.inr x : Key), V.bl (acc i0)) = some p from h)
    exact ⟨x, rfl, e.symm⟩
  | i0, x :: r, i + 1, p, h => by
    obtain ⟨y, h1, h2⟩ := rowF_at2 acc (i0 + 1) r i p (by simpa [rowF] using h)
    exact ⟨y, by simpa using h1, by rw [h2, show i0 + 1 + i = i0 + (i + 1) by omega]⟩
theorem rowK_all {nm : List Str} (acc : Nat → Bool) (nd : nm.Nodup) : ∀ p ∈ rowK nm acc, valV (rowK nm acc) p.1 = some p.2 ∧ flatB p.2 = true := fun p hp => by
  obtain ⟨i, hi⟩ := List.mem_iff_getElem?.mp hp
  obtain ⟨x, hx, rfl⟩ := rowF_at2 acc 0 nm i p hi
  exact ⟨rowF_val acc 0 nm nd i x hx, rfl⟩
section
variable {P : Program} {w : World} {K : PySem.W.Frag} {mg : Str → Option Value} {base : Heap} {a : Ad} {fs : Fs}
theorem law_body (g : G K mg a fs) (cdv : Value) (A : Around) (outer : List Env) (s : Shared) (H : Hp) (vs : List V) (Q : VK) (E : XK) (hr : Room 40 (A.deeper (envOfC "law" (defScope sLaw) s.heap.objs.size fs.fLaw cdv))) (h : spLaw K vs H Q E) :
    ∃ t, PSs (cxOf L2.CX0 P w K mg base nLaw "law" (defScope sLaw) fs.fLaw cdv A outer s H E).nox (defBody sLaw) t ∧ t { nx := fun _ H' => Q .non H', rt := Q } (start nLaw vs) H := by
  have CC : Cal P w K mg base 1 "_law_cell_at" (spCellAt K) [] := cal_of (ok_cellAt g) (g.gl _ _ g.gCellAt)
  have CN : Cal P w K mg base 3 "_law_names" spNames [] := cal_of (ok_names g) (g.gl _ _ g.gNames)
  have CT : ∀ nm, Cal P w K mg base 3 "_law_told_by" (spToldBy K nm) [] := fun nm => cal_of (ok_toldBy g) (g.gl _ _ g.gToldBy)
  have MS : ∀ nm, Mak P w K mg base 4 "Sheet" a.sh (spInit a nm) [] := fun nm => mak_of (ok_sInit g) g.mk_sh g.m_init_sh g.iSInit g.kc_sh (g.gl _ _ g.c_sh)
  have CP : ∀ nm, Cal P w K mg base 26 "part_of" (spPartOf a nm) [] := fun nm => cal_of (ok_partOf g) (g.gl _ _ g.gPartOf)
  have MN : ∀ nm, Met P w K mg base 33 a.sh "node" (spDr a nm 20) [] := fun nm => met_of (ok_node g) g.clS g.m_node_sh g.iNode
  have CH : ∀ nm, Cal P w K mg base 21 "_law_holds" (spHolds nm 20) [] := fun nm => cal_of (ok_holds g 20) (g.gl _ _ g.gHolds)
  have CR : ∀ nm, Cal P w K mg base 1 "_law_row" (spLRow K nm) [] := fun nm => cal_of (ok_lRow g) (g.gl _ _ g.gLRow)
  have CW : Cal P w K mg base 1 "_law_whole" spWhole [] := cal_of (ok_whole g) (g.gl _ _ g.gWhole)
  have MW : ∀ nm, Met P w K mg base 9 a.sh "ways" (spWays a nm) [] := fun nm => met_of (ok_ways g) g.clS g.m_ways_sh g.iWays
  have MR : ∀ nm, Met P w K mg base 2 a.sh "row" (spRow a nm) [] := fun nm => met_of (ok_row g) g.clS g.m_row_sh g.iRow
  have CF : ∀ nm, Cal P w K mg base 3 "_law_found" (spFound a nm) [] := fun nm => cal_of (ok_found g) (g.gl _ _ g.gFound)
  have CA : ∀ nm, Cal P w K mg base 1 "_law_alike" (spAlike nm) [] := fun nm => cal_of (ok_alike g) (g.gl _ _ g.gAlike)
  have MT : ∀ nm, Met P w K mg base 11 a.sh "turned" (spTurned a nm) [] := fun nm => met_of (ok_turned g) g.clS g.m_turned_sh g.iSTurned
  obtain ⟨p, ns, rfl, hS, h63, q⟩ := h
  have hu := hu_of hr
  have hu0 := hr.units0
  refine ⟨_, pss_cons (ps_set (i := 1) scLaw.nd rfl (.inl rfl) (pe_op op_mod (pe_c CC hr (by omega) rfl (pa_cons (pv 0) (pa_cons pe_int pa_nil))) pe_int))
    (pss_cons (ps_set (i := 2) scLaw.nd rfl (.inl rfl) (pe_c CN hr (by omega) rfl (pa_cons (pe_c CC hr (by omega) rfl (pa_cons (pv 0) (pa_cons pe_int pa_nil))) (pa_cons (pv 1) pa_nil))))
    (pss_cons (ps_set (i := 3) scLaw.nd rfl (.inl rfl) (pe_tup (pa_cons pe_str (pa_cons (pe_cmpR op_eq (pe_op op_mod (pe_c CC hr (by omega) rfl (pa_cons (pv 0) (pa_cons pe_int pa_nil))) pe_int) pe_int (nomark _)) pa_nil))))
    (C8.pss_cut (ps_if (pt_cmpR op_gt (pv 1) pe_int (nomark _)) (pss_one (ps_set (i := 3) scLaw.nd rfl (.inl rfl) (PE.any fun nm => pe_c (CT nm) hr (by omega) rfl (pa_cons (pv 0) (pa_cons pe_int (pa_cons (pe_op op_mod (pe_c CC hr (by omega) rfl (pa_cons (pv 0) (pa_cons pe_int pa_nil))) pe_int) (pa_cons (pv 2) pa_nil))))))) pss_nil)
    (pss_cons (ps_set (i := 4) scLaw.nd rfl (.inl rfl) (PE.any fun nm => pe_mk (MS nm) hr (by omega) rfl (pa_cons (pv 2) pa_nil)))
    (pss_cons (ps_set (i := 5) scLaw.nd rfl (.inl rfl) (PE.any fun nm => pe_mt (MN nm) hr (by omega) (pv 4) (pa_cons (PE.any fun nm => pe_c (CP nm) hr (by omega) rfl (pa_cons (pv 3) pa_nil)) pa_nil)))
    (pss_cons (ps_set (i := 6) scLaw.nd rfl (.inl rfl) pe_int)
    (C8.pss_cut (ps_for PassesOwn.never rfl (pi_range1 (by rfl) (g.no _ g.z_range) (pa_cons (pe_ix ix_list (pe_lst (pa_cons pe_int (pa_cons pe_int (pa_cons pe_int (pa_cons pe_int (pa_cons pe_int (pa_cons pe_int (pa_cons pe_int pa_nil)))))))) (pv 1) (fun _ _ => rfl)) pa_nil)) (pg_name (i := 7) scLaw.nd rfl (.inl rfl))
      (pss_one (ps_set (i := 6) scLaw.nd rfl (.inl rfl) (pe_op op_add (pv 6) (pe_callTy call_int1 (by rfl) (g.no _ g.z_int) (by decide +kernel) (pa_cons (PE.any fun nm => pe_c (CH nm) hr (by omega) rfl (pa_cons (pv 3) (pa_cons (PE.any fun nm => pe_c (CR nm) hr (by omega) rfl (pa_cons (pv 2) (pa_cons (pv 7) pa_nil))) pa_nil))) pa_nil))))))
    (pss_cons (ps_if (PW.pt (pw_or (pt_not (pt_val (pe_c CW hr (by omega) rfl (pa_cons (PE.any fun nm => pe_mt (MW nm) hr (by omega) (pv 4) (pa_cons (pv 5) pa_nil)) pa_nil)))) (pw_or1 (pt_cmpR op_ne (PE.any fun nm => pe_mt (MW nm) hr (by omega) (pv 4) (pa_cons (pv 5) pa_nil)) (pv 6) (nomark _))))) (pss_one (ps_ret pe_bl)) pss_nil)
    (pss_cons (ps_set (i := 8) scLaw.nd rfl (.inl rfl) (PE.any fun nm => pe_mt (MR nm) hr (by omega) (pv 4) (pa_cons (pv 5) pa_nil)))
    (pss_cons (ps_if (pt_cmpR op_eq (pv 6) pe_int (nomark _)) (pss_one (ps_ret (pe_and (pe_cmpR op_eq (pv 5) pe_int (nomark _)) (pe_and (pe_cmpR op_isN (pv 8) pe_non (nomark _)) (pe_one (pe_cmpR (op_eq_dictA hu0) (PE.any fun nm => pe_mt (MR nm) hr (by omega) (pv 4) (pa_cons pe_int pa_nil)) (PE.any fun nm => pe_c (CF nm) hr (by omega) rfl (pa_cons (pv 4) (pa_cons pe_int pa_nil))) (nomark _))))))) pss_nil)
    (pss_cons (ps_set (i := 9) scLaw.nd rfl (.inl rfl) (PE.any fun nm => pe_c (CF nm) hr (by omega) rfl (pa_cons (pv 4) (pa_cons (pv 5) pa_nil))))
    (pss_cons (ps_if (PW.pt (pw_or (pt_not (pt_val (PE.any fun nm => pe_c (CA nm) hr (by omega) rfl (pa_cons (pv 8) (pa_cons (pv 9) pa_nil))))) (pw_or1 (pt_not (pt_val (PE.any fun nm => pe_c (CH nm) hr (by omega) rfl (pa_cons (pv 3) (pa_cons (pv 8) pa_nil)))))))) (pss_one (ps_ret pe_bl)) pss_nil)
    (pss_cons (ps_expr (pe_dclear (pv 8)))
    (pss_cons (ps_set (i := 10) scLaw.nd rfl (.inl rfl) (PE.any fun nm => pe_mt (MT nm) hr (by omega) (pv 4) (pa_cons (pv 5) pa_nil)))
    (C8.pss_cut (ps_if (PW.pt (pw_and (pt_cmpR op_eq (pv 10) pe_int (nomark _)) (pw_and1 (pt_cmpR op_notN (PE.any fun nm => pe_mt (MR nm) hr (by omega) (pv 4) (pa_cons (pv 10) pa_nil)) pe_non (nomark _))))) (pss_one (ps_ret pe_bl)) pss_nil)
    (C8.pss_cut (ps_if (PW.pt (pw_and (pt_cmpR op_ne (pv 10) pe_int (nomark _)) (pw_and1 (pt_not (pt_val (PE.any fun nm => pe_c (CA nm) hr (by omega) rfl (pa_cons (PE.any fun nm => pe_mt (MR nm) hr (by omega) (pv 4) (pa_cons (pv 10) pa_nil)) (pa_cons (PE.any fun nm => pe_c (CF nm) hr (by omega) rfl (pa_cons (pv 4) (pa_cons (pv 10) pa_nil))) pa_nil)))))))) (pss_one (ps_ret pe_bl)) pss_nil)
    (pss_cons (ps_if (pt_not (pt_val (PE.any fun nm => pe_c (CA nm) hr (by omega) rfl (pa_cons (PE.any fun nm => pe_mt (MR nm) hr (by omega) (pv 4) (pa_cons pe_int pa_nil)) (pa_cons (PE.any fun nm => pe_c (CF nm) hr (by omega) rfl (pa_cons (pv 4) (pa_cons pe_int pa_nil))) pa_nil))))) (pss_one (ps_ret pe_bl)) pss_nil)
    (pss_one (ps_ret (pe_and (PE.any fun nm => pe_c (CA nm) hr (by omega) rfl (pa_cons (PE.any fun nm => pe_mt (MR nm) hr (by omega) (pv 4) (pa_cons (pv 5) pa_nil)) (pa_cons (pv 9) pa_nil))) (pe_one (pe_cmpR op_isN (PE.any fun nm => pe_mt (MR nm) hr (by omega) (pv 4) (pa_cons pe_int pa_nil)) pe_non (nomark _))))))))))))))))))))))), ?_⟩
  refine ⟨_, rfl, p, ns, 1, rfl, hS, h63, (by decide), (by decide), fun c1 => ⟨_, _, rfl, rfl, (show (0 : Int) < 7 by decide), ?_⟩⟩
  have m0 := Int.emod_nonneg c1 (show (7 : Int) ≠ 0 by decide)
  have m1 := Int.emod_lt_of_pos c1 (show (0 : Int) < 7 by decide)
  obtain ⟨n, hn⟩ : ∃ n : Nat, (n : Int) = c1 % 7 := ⟨_, Int.toNat_of_nonneg m0⟩
  show gName 1 (V.int (c1 % 7)) _ _ _
  rw [← hn]
  refine ⟨_, rfl, p, ns, 0, rfl, hS, h63, (by decide), (by decide), fun c0 => ⟨_, rfl, c0, n, rfl, (by omega), fun l nm H1 ln nd gd s1 hl0 el => ?_⟩⟩
  have n6 : nm.length ≤ 6 := by omega
  clear hn m0 m1
  subst ln
  refine ⟨_, rfl, p, ns, 2, rfl, sqL_same hS s1, h63, (by decide), (by decide), fun c2 => ⟨_, _, rfl, rfl, (show (0 : Int) < 2 by decide), rfl, (by show 2 ≤ sizeLine; decide), fun q0 hq0 => ?_⟩⟩
  have s2 := Same.new (.tup [V.str "fixed", V.bl (decide (V.int (c2 % 2) = V.int 1))]) hq0
  refine ⟨fun σ H' => ∃ (v : V) (t : Tr), σ = [some (.ref p), some (.int (nm.length : Nat)), some (.ref l), some v, none, none, none, none, none, none, none] ∧ Same H1 H' ∧ ToldAt nm H' v t ∧ ok nm.length t ∧ sz t ≤ 15, ?_, ?_⟩
  · refine ⟨_, rfl, _, _, rfl, rfl, _, rfl, ?_⟩
    refine ite2 (fun c => ?_) (fun c => ?_)
    · have n0 : 0 < nm.length := by
        have := of_decide_eq_true c
        omega
      refine ⟨nm, _, rfl, _, rfl, p, ns, 2, rfl, sqL_same hS (s1.trans s2), h63, (by decide), (by decide), fun c3 => ⟨_, _, rfl, rfl, (show (0 : Int) < 15 by decide), ?_⟩⟩
      have m0 := Int.emod_nonneg c3 (show (15 : Int) ≠ 0 by decide)
      have m1 := Int.emod_lt_of_pos c3 (show (0 : Int) < 15 by decide)
      refine ⟨_, rfl, p, l, ns, 4, (c3 % 15).toNat, ?_, sqL_same hS (s1.trans s2), h63, (by decide), (by decide), (by omega), n0, n6, SqL.of (s2 _ _ el), fun v t H3 s3 tv okt hs => ?_⟩
      · show [V.ref p, V.int 4, V.int (c3 % 15), V.ref l] = _
        rw [Int.toNat_of_nonneg m0]
      · exact ⟨v, t, rfl, s2.trans s3, tv, okt, hs⟩
    · exact ⟨_, .fx _, rfl, s2, .fx upd_same, trivial, by simp [sz]⟩
  rintro σ H3 ⟨v, t, rfl, s3, tv, okt, hs⟩
  have el3 := s3 _ _ el
  have hd := dp_le t
  -- Sheet(names)
  refine ⟨nm, _, rfl, fun x dx hx hdx ne => ?_⟩
  refine ⟨x, dx, l, rfl, upd_same, same_start hx hdx _ _ el3, n6, nd, gd, fun L H5 eL S5 b5 fl fd => ⟨rfl, ?_⟩⟩
  subst eL
  have s5 : Same H3 H5 := same_made hx hdx b5
  have fl3 : H3 L.ln = none := (same_start hx hdx).free fl
  have fd3 : H3 L.dn = none := (same_start hx hdx).free fd
  -- node
  refine ⟨nm, _, rfl, L.p, L.dx, _, rfl, S5.ob, rfl, nm, _, rfl, v, t, rfl, tv.mono (.of s5), okt, (by omega), (by omega), gd, fun q6 H6 s6 pt6 => ?_⟩
  have S6 := S5.same s6
  refine ⟨L, [], _, t, rfl, S6, pt6, okt, n6, nd, (by omega), (by rw [List.length_nil]; omega), fun ns' k t' H7 S7 pre7 len7 d7 ev7 b7 => ?_⟩
  rw [List.length_nil] at len7
  have fx7 := b7.fix2 S6.mLn S6.mDn
  have tv7 : ToldAt nm H7 v t := (tv.mono (.of (s5.trans s6))).mono fx7
  have el7 : H7 l = some (.lst (nm.map V.str)) := b7 _ _ (s6 _ _ (s5 _ _ el3)) fun z => by
    simp only [List.mem_cons, List.not_mem_nil, or_false] at z
    rcases z with z | z
    · rw [z, fl3] at el3; cases el3
    · rw [z, fd3] at el3; cases el3
  have ot := S7.wf.den d7
  have hcount : sumN (fun r => (ev (bits r) t).toNat) (2 ^ nm.length) = cnt nm.length t' * 2 ^ plc nm.length t' := by
    rw [← count_rows ot]
    exact sumN_congr fun r _ => by rw [ev7]
  clear pre7 b7 fx7 tv s6 S6 pt6 S5 b5 fl fd
  -- the count
  refine ⟨fun σ H' => ∃ v7 : Option V, σ = [some (.ref p), some (.int (nm.length : Nat)), some (.ref l), some v, some (.ref L.p), some (.int k), some (.int (sumN (fun r => (ev (bits r) t).toNat) (2 ^ nm.length) : Nat)), v7, none, none, none] ∧ Same H7 H', ?_, ?_⟩
  · refine ⟨(by show 7 ≤ sizeLine; decide), fun r hr2 => ?_⟩
    have hix : atI [V.int 1, V.int 2, V.int 4, V.int 8, V.int 16, V.int 32, V.int 64] ((nm.length : Nat) : Int) = some (.int ((2 ^ nm.length : Nat) : Int)) := by
      refine atI_nat ?_
      have : nm.length = 0 ∨ nm.length = 1 ∨ nm.length = 2 ∨ nm.length = 3 ∨ nm.length = 4 ∨ nm.length = 5 ∨ nm.length = 6 := by omega
      rcases this with h | h | h | h | h | h | h <;> rw [h] <;> rfl
    have p64 : 2 ^ nm.length ≤ 64 := by
      have := Nat.pow_le_pow_right (show 0 < 2 by decide) n6
      exact this
    have b1 : ∀ N : Nat, -(2 ^ 62 : Int) ≤ (N : Int) := fun N => by omega
    have b2 : ∀ N : Nat, N ≤ 64 → (N : Int) < 2 ^ 62 := fun N h => by omega
    have s8 := Same.new (.lst [V.int 1, V.int 2, V.int 4, V.int 8, V.int 16, V.int 32, V.int 64]) hr2
    refine ⟨_, rfl, r, _, _, _, rfl, rfl, SqL.of upd_same, hix, ((2 ^ nm.length : Nat) : Int), rfl, b1 _, b2 _ p64, ?_⟩
    refine for_range (lo := 0) (n := ((2 ^ nm.length : Nat) : Int).toNat) (fun i σ H' => ∃ v7 : Option V, σ = [some (.ref p), some (.int (nm.length : Nat)), some (.ref l), some v, some (.ref L.p), some (.int k), some (.int (sumN (fun r => (ev (bits r) t).toNat) i : Nat)), v7, none, none, none] ∧ Same H7 H')
      ⟨none, rfl, s8⟩ ?_ ?_
    · rintro i σ H' hi ⟨v7, rfl, s9⟩
      refine ⟨_, rfl, nm, _, rfl, nm, _, rfl, _, rfl, l, i, (by show [V.ref l, V.int (0 + (i : Int))] = _; rw [Int.zero_add]), SqL.of (s9 _ _ el7), nd, n6, fun pr H10 s10 hpr epr => ?_⟩
      refine ⟨v, t, pr, bits i, rfl, tv7.mono (.of (s9.trans s10)), nd, (by omega), (by omega), epr, fun H11 s11 => .inr ⟨_, rfl, ?_⟩⟩
      rw [bl01]
      have e : ((sumN (fun r => (ev (bits r) t).toNat) i : Nat) : Int) + (((ev (bits i) t).toNat : Nat) : Int) = ((sumN (fun r => (ev (bits r) t).toNat) (i + 1) : Nat) : Int) := (Int.natCast_add _ _).symm
      refine ⟨_, _, rfl, rfl, some (.int (0 + (i : Int))), ?_, s9.trans (s10.trans s11)⟩
      rw [← e]
      rfl
    · rintro σ H' ⟨v7, rfl, s9⟩
      exact ⟨v7, by rw [Int.toNat_natCast], s9⟩
  rintro σ H8 ⟨v7, rfl, s8⟩
  rw [hcount]
  have S8 := S7.same s8
  -- ways
  refine ⟨nm, _, rfl, L.p, L.dx, _, rfl, S8.ob, rfl, _, rfl, L, ns', k, t', rfl, S8, d7, n6, fun H9 s9 => ⟨_, rfl, _, rfl, iteF ?_⟩⟩
  have S9 := S8.same s9
  refine ⟨nm, _, rfl, L.p, L.dx, _, rfl, S9.ob, rfl, _, rfl, L, ns', k, t', rfl, S9, d7, n6, fun H10 s10 => ⟨_, rfl, rfl, _, rfl, ?_⟩⟩
  rw [decide_eq_true rfl]
  refine iteF ?_
  have S10 := S9.same s10
  have s78 := s8.trans (s9.trans s10)
  obtain ⟨as10, eln10, _⟩ := id S10.ln
  have tv10 : ToldAt nm H10 v t := tv7.mono (.of s78)
  clear s8 s9 s10 S8 S9 S7 s5 fl3 fd3
  -- row
  refine ⟨nm, _, rfl, L.p, L.dx, _, rfl, S10.ob, rfl, _, rfl, L, ns', k, t', rfl, S10, d7, nd, n6, fun k0 => ?_, fun k0 pf H11 s11 hpf epf => ?_⟩
  · subst k0
    have et : t' = .lf false := d7.uniq .z
    subst et
    refine ⟨_, rfl, rfl, _, rfl, ?_⟩
    rw [show cnt nm.length (.lf false) * 2 ^ plc nm.length (.lf false) = 0 from Nat.zero_mul _, decide_eq_true (show V.int ((0 : Nat) : Int) = V.int 0 from rfl)]
    refine iteT ⟨_, rfl, rfl, _, rfl, ?_⟩
    rw [decide_eq_true (show V.int ((0 : Nat) : Int) = V.int 0 from rfl)]
    refine iteT ⟨_, rfl, rfl, _, rfl, ?_⟩
    rw [decide_eq_true rfl]
    refine iteT ⟨nm, _, rfl, L.p, L.dx, _, rfl, S10.ob, rfl, L, ns', 1, .lf true, rfl, S10, .o, nd, n6, (fun z => absurd z (by decide)), fun _ p1 Ha sa hp1 ep1 => ?_⟩
    refine ⟨nm, _, rfl, L, ns', 1, .lf true, rfl, S10.same sa, .o, (by decide), nd, n6, fun p2 Hb sb hp2 ep2 => ?_⟩
    exact ⟨p1, p2, _, _, rfl, rfl, sb _ _ ep1, ep2, rfl, rowK_all _ nd, q _⟩
  have ht : t' ≠ DF := fun z => by
    subst z
    exact k0 d7.lf_inv
  have cpos : cnt nm.length t' * 2 ^ plc nm.length t' ≠ 0 := Nat.ne_of_gt (Nat.mul_pos (cnt_pos ot ht) (Nat.pow_pos (by decide)))
  refine ⟨_, rfl, rfl, _, rfl, ?_⟩
  rw [decide_eq_false (fun z => cpos (by have := V.int.inj z; exact Int.ofNat.inj this))]
  refine iteF ?_
  have S11 := S10.same s11
  refine ⟨nm, _, rfl, _, rfl, L, ns', k, t', rfl, S11, d7, k0, nd, n6, fun pd H12 s12 hpd epd => ?_⟩
  have npd : pf ≠ pd := ne_of_none epf hpd
  refine ⟨nm, _, rfl, _, rfl, pf, pd, _, rfl, s12 _ _ epf, epd, npd, nd, n6, gd, fun H13 s13 => ⟨_, rfl, iteF ?_⟩⟩
  have s03 := s11.trans (s12.trans s13)
  refine ⟨nm, _, rfl, _, rfl, v, t, pf, _, rfl, tv10.mono (.of s03), nd, (by omega), (by omega), s13 _ _ (s12 _ _ epf), fun H14 s14 => ⟨_, rfl, ?_⟩⟩
  rw [show ev (rw_ (fun _ => false) t') t = true by rw [← ev7, rw_dev ot ht]]
  refine iteF ?_
  have s04 := s03.trans s14
  have epf4 := s14 _ _ (s13 _ _ (s12 _ _ epf))
  have epd4 := s14 _ _ (s13 _ _ epd)
  have S14 := S10.same s04
  -- clear
  refine ⟨_, rfl, .inr (.inr (.inl ⟨rfl, .inl ⟨_, epf4⟩⟩)), pf, _, rfl, rfl, epf4, ?_⟩
  have nln : L.ln ≠ pf := ne_of_none eln10 hpf
  have ndn : L.dn ≠ pf := ne_of_none S10.dn hpf
  have bC : But [pf] H14 (upd H14 pf (.dK [])) := But.upd _ (by simp)
  have SC : SheetAt a nm L (upd H14 pf (.dK [])) ns' := S14.but bC (bC.fix1 (.dK epf4)) (by simp [nln]) (by simp [ndn])
  have epdC : (upd H14 pf (.dK [])) pd = some (.dK (rowK nm (rw_ (fun _ => false) t'))) := (upd_ne npd.symm).trans epd4
  -- turned
  refine ⟨nm, _, rfl, L.p, L.dx, _, rfl, SC.ob, rfl, _, rfl, L, ns', k, t', rfl, SC, d7, n6, (by omega), fun ns2 k2 t2 H15 S15 pre2 d2 b15 => ?_⟩
  have epd5 : H15 pd = some (.dK (rowK nm (rw_ (fun _ => false) t'))) := b15 _ _ epdC fun z => by
    obtain ⟨as, e, _⟩ := SC.ln
    simp only [List.mem_cons, List.not_mem_nil, or_false] at z
    rcases z with z | z
    · rw [z, e] at epdC; cases epdC
    · rw [z, SC.dn] at epdC; cases epdC
  have dk2 := d7.mono pre2
  obtain ⟨σ5, hσ5⟩ : ∃ σ5 : L2.St, σ5 = [some (.ref p), some (.int (nm.length : Nat)), some (.ref l), some v, some (.ref L.p), some (.int k), some (.int ((cnt nm.length t' * 2 ^ plc nm.length t' : Nat) : Int)), v7, some (.ref pf), some (.ref pd), some (.int k2)] := ⟨_, rfl⟩
  refine ⟨fun σ H' => σ = σ5 ∧ Same H15 H', ?_, ?_⟩
  · refine ⟨_, rfl, rfl, _, rfl, ?_⟩
    refine ite2 (fun c => ?_) (fun c => ⟨hσ5.symm, Same.refl _⟩)
    have e2 : k2 = 0 := by have := V.int.inj (of_decide_eq_true c); omega
    refine ⟨nm, _, rfl, L.p, L.dx, _, rfl, S15.ob, rfl, _, rfl, L, ns2, k2, t2, rfl, S15, d2, nd, n6, fun _ => ?_, fun z => absurd e2 z⟩
    refine ⟨rfl, _, rfl, ?_⟩
    rw [decide_eq_true rfl]
    exact iteF ⟨hσ5.symm, Same.refl _⟩
  rintro σ H16 ⟨e16, s16⟩
  rw [e16]
  clear e16 σ
  have S16 := S15.same s16
  refine ⟨fun σ H' => σ = σ5 ∧ Same H15 H', ?_, ?_⟩
  · subst hσ5
    refine ⟨_, rfl, rfl, _, rfl, ?_⟩
    refine ite2 (fun c => ?_) (fun c => ⟨rfl, s16⟩)
    have k20 : k2 ≠ 0 := fun z => by
      subst z
      exact absurd c (by decide)
    refine ⟨nm, nm, _, rfl, L.p, L.dx, _, rfl, S16.ob, rfl, _, rfl, L, ns2, k2, t2, rfl, S16, d2, nd, n6, (fun z => absurd z k20), fun _ p1 Ha sa hp1 ep1 => ?_⟩
    refine ⟨nm, _, rfl, _, rfl, L, ns2, k2, t2, rfl, S16.same sa, d2, k20, nd, n6, fun p2 Hb sb hp2 ep2 => ?_⟩
    exact ⟨p1, p2, _, rfl, sb _ _ ep1, ep2, ne_of_none ep1 hp2, nd, n6, gd, fun Hc sc => ⟨_, rfl, iteF ⟨rfl, s16.trans (sa.trans (sb.trans sc))⟩⟩⟩
  rintro σ H17 ⟨e17, s17⟩
  have S17 := S15.same s17
  rw [e17]
  clear e17 σ
  subst hσ5
  refine ⟨nm, nm, _, rfl, L.p, L.dx, _, rfl, S17.ob, rfl, L, ns2, 1, .lf true, rfl, S17, .o, nd, n6, (fun z => absurd z (by decide)), fun _ p1 Ha sa hp1 ep1 => ?_⟩
  refine ⟨nm, _, rfl, L, ns2, 1, .lf true, rfl, S17.same sa, .o, (by decide), nd, n6, fun p2 Hb sb hp2 ep2 => ?_⟩
  refine ⟨p1, p2, _, rfl, sb _ _ ep1, ep2, ne_of_none ep1 hp2, nd, n6, gd, fun Hc sc => ⟨_, rfl, iteF ?_⟩⟩
  have s18 := s17.trans (sa.trans (sb.trans sc))
  have S18 := S15.same s18
  have epd8 := s18 _ _ epd5
  refine ⟨nm, nm, _, rfl, L.p, L.dx, _, rfl, S18.ob, rfl, _, rfl, L, ns2, k, t', rfl, S18, dk2, nd, n6, (fun z => absurd z k0), fun _ p3 Hd sd hp3 ep3 => ?_⟩
  refine ⟨_, rfl, p3, pd, _, rfl, ep3, sd _ _ epd8, (ne_of_none epd8 hp3).symm, nd, n6, gd, fun He se => ⟨_, rfl, iteT ?_⟩⟩
  have S19 := S18.same (sd.trans se)
  refine ⟨nm, _, rfl, L.p, L.dx, _, rfl, S19.ob, rfl, L, ns2, 0, .lf false, rfl, S19, .z, nd, n6, fun _ => ⟨rfl, ?_⟩, fun z => absurd rfl z⟩
  rw [decide_eq_true rfl]
  exact q _
end
theorem all_mk {P : Program} {w : World} {K : PySem.W.Frag} {h : Heap} {mg : Str → Option Value} {fa : Addr} (X : K.In h) (N : h.Ns mainGlobals mg) (hfa : mg "law" = some (.ref fa)) {a : Ad} {fs : Fs} (L : Left K a fs) :
    ∃ fd : FuncData, (∀ (s : Shared) (v : Value), BindsTo s fd ⟨[v], []⟩ [("_law_script", v)]) ∧ ∀ base : Heap, K.In base → base.Ns mainGlobals mg → FnOk P w K mg base L2.CX0 200 fa fd ["_law_script"] (spLaw K) := by
  have g : G K mg a fs := { L with gl := fun x v e => PySem.W.mg_of X N e, no := fun x e => PySem.W.mg_none_of X N e }
  have ef : fa = fs.fLaw := by
    have e := g.gl _ _ g.gLaw
    rw [hfa] at e
    exact Value.ref.inj (Option.some.inj e)
  subst ef
  obtain ⟨oc, od, kV, doc, pm, an, cdv, ct, osl, lk, hcd⟩ := g.rLaw.ex
  have F := fun_mk (st := sLaw) lk hcd g.rLaw.kp
  refine ⟨_, fun s v => .of_eq rfl, fun base _ _ => (F.ok (k := 40) (sp := spLaw K) scLaw (fun vs H Q E h => ?_) (fun cdv A outer s H vs Q E hr h => law_body g cdv A outer s H vs Q E hr h)).mono (by decide)⟩
  obtain ⟨p, ns, rfl, _⟩ := h
  rfl
end K34
namespace K34
open PySem L2
theorem walk {l : PySem.W.OpenLaw} {q : Program} {loose : List Str} {XP : (Str → Option Value) → Heap → Prop} {YP : World → Heap → Prop} {d : DefRec} {K : Params → PySem.W.Frag} (hn : l.most = some 63) (hdf : d.params.defaults = [])
    (hY : ∀ (w : World) (h : Heap), YP w h → (K w.params).In h)
    (F : ∀ (w : World) (mg : Str → Option Value) (fa : Addr) (h : Heap), (K w.params).In h → h.Ns mainGlobals mg → mg d.name = some (.ref fa) →
      ∃ fd : FuncData, (∀ (s : Shared) (u : Value), BindsTo s fd ⟨[u], []⟩ [("_law_script", u)]) ∧ ∀ base : Heap, (K w.params).In base → base.Ns mainGlobals mg → FnOk l.prog w (K w.params) mg base CX0 200 fa fd ["_law_script"] (spLaw (K w.params))) :
    PySem.W.WalkO q loose XP YP l.row.toRowW d [] (fun f vs => PySem.call f vs) :=
  L2.walk_of (n := 63) (k := 200) (x := "_law_script") (CX := fun _ => CX0) (sp := fun w => spLaw (K w.params)) hn (by decide) hdf ⟨rfl, by decide, by decide⟩ hY F (fun _ _ a ns hl _ hS => ⟨a, ns, rfl, hS, hl, fun _ => rfl⟩) fun _ _ _ _ _ z => z
end K34
open PySem PySem.W PyProof.Rows
set_option maxRecDepth 100000 in
set_option maxHeartbeats 0 in
theorem PySem.Challenge.cw_rungworks_k34_rows_and_ways_holds : PySem.Challenge.rw_rungworks_k34_rows_and_ways.Holds := by
  w_on; o_law; k_head; (case hw => w_witness2)
  k_fill
  refine K34.walk (l := PySem.Challenge.rw_rungworks_k34_rows_and_ways) rfl rfl (fun w h Y => PySem.W.kIn_of Y) ?F
  case F =>
    intro w mg fa h KX G hmg
    refine' K34.all_mk KX G hmg (K34.left_mk ?rIsWord ?gIsWord ?rIsName ?gIsName ?rPInner ?iPInner ?rSize ?iSize ?rDepth ?iDepth ?rPGather ?iPGather ?rContacts ?iContacts ?rBounded ?iBounded ?rFInit ?iFInit ?rCInit ?iCInit ?rCGather ?iCGather ?rTInit ?iTInit ?rTInner ?iTInner ?rGInit ?iGInit ?rGInner ?iGInner ?rSingle ?gSingle ?rJoined ?gJoined ?rPartOf ?gPartOf ?rSInit ?iSInit ?rPlace ?iPlace ?rMade ?iMade ?rBelow ?iBelow ?rSJoined ?iSJoined ?rOpposite ?iOpposite ?rDrawn ?iDrawn ?rNeed ?iNeed ?rNode ?iNode ?rSTurned ?iSTurned ?rShown ?iShown ?rRow ?iRow ?rCounted ?iCounted ?rWays ?iWays ?rCellAt ?gCellAt ?rMixed ?gMixed ?rWord ?gWord ?rNames ?gNames ?rGrown ?gGrown ?rToldBy ?gToldBy ?rHolds ?gHolds ?rLRow ?gLRow ?rWhole ?gWhole ?rFound ?gFound ?rAlike ?gAlike ?rLaw ?gLaw ?m_size_fx ?m_size_ct ?m_size_nt ?m_size_se ?m_size_br ?m_depth_fx ?m_depth_ct ?m_depth_nt ?m_depth_se ?m_depth_br ?m_contacts_fx ?m_contacts_ct ?m_contacts_nt ?m_contacts_se ?m_contacts_br ?m_bounded_fx ?m_bounded_ct ?m_bounded_nt ?m_bounded_se ?m_bounded_br ?m_inner_fx ?m_inner_ct ?m_inner_nt ?m_inner_se ?m_inner_br ?m_gather_fx ?m_gather_ct ?m_gather_nt ?m_gather_se ?m_gather_br ?m_init_fx ?m_init_ct ?m_init_nt ?m_init_se ?m_init_br ?m_init_sh ?m_place_sh ?m_made_sh ?m_below_sh ?m_joined_sh ?m_opposite_sh ?m_drawn_sh ?m_need_sh ?m_node_sh ?m_turned_sh ?m_shown_sh ?m_row_sh ?m_counted_sh ?m_ways_sh ?c_fx ?pg_fx ?hd_fx ?po_fx ?sa_fx ?mk_fx ?kc_fx ?n_value_fx ?c_ct ?pg_ct ?hd_ct ?po_ct ?sa_ct ?mk_ct ?kc_ct ?n_name_ct ?c_nt ?pg_nt ?hd_nt ?po_nt ?sa_nt ?mk_nt ?kc_nt ?n_part_nt ?c_se ?pg_se ?hd_se ?po_se ?sa_se ?mk_se ?kc_se ?n_parts_se ?c_br ?pg_br ?hd_br ?po_br ?sa_br ?mk_br ?kc_br ?n_parts_br ?c_sh ?pg_sh ?hd_sh ?po_sh ?sa_sh ?mk_sh ?kc_sh ?n_names_sh ?n_nodes_sh ?n_numbers_sh ?xa_fx ?xm_fx ?xa_ct ?xm_ct ?xa_nt ?xm_nt ?xa_se ?xm_se ?xa_br ?xm_br ?xn ?xt ?s_ct_fx ?d_ct_fx ?s_nt_fx ?d_nt_fx ?s_nt_ct ?d_nt_ct ?s_se_fx ?d_se_fx ?s_se_ct ?d_se_ct ?s_se_nt ?d_se_nt ?s_br_fx ?d_br_fx ?s_br_ct ?d_br_ct ?s_br_nt ?d_br_nt ?s_br_se ?d_br_se ?t_fx ?y_fx ?t_ct ?y_ct ?t_nt ?y_nt ?t_se ?y_se ?z_len ?z_sum ?z_max ?z_min ?z_isinstance ?z_int ?z_set ?z_tuple ?z_list ?z_range ?z_bool ?z_dict ?vSIGNS ?vMOST_SIGNS ?vMOST_SIZE ?vMOST_DEEP ?vMOST_NAMES ?vMOST_NODES ?vTooMany ?vKEPT)
    case gIsWord => k_is
    case gIsName => k_is
    case gSingle => k_is
    case gJoined => k_is
    case gPartOf => k_is
    case gCellAt => k_is
    case gMixed => k_is
    case gWord => k_is
    case gNames => k_is
    case gGrown => k_is
    case gToldBy => k_is
    case gHolds => k_is
    case gLRow => k_is
    case gWhole => k_is
    case gFound => k_is
    case gAlike => k_is
    case gLaw => k_is
    case c_fx => k_is
    case c_ct => k_is
    case c_nt => k_is
    case c_se => k_is
    case c_br => k_is
    case c_sh => k_is
    case m_size_fx => k_is
    case m_size_ct => k_is
    case m_size_nt => k_is
    case m_size_se => k_is
    case m_size_br => k_is
    case m_depth_fx => k_is
    case m_depth_ct => k_is
    case m_depth_nt => k_is
    case m_depth_se => k_is
    case m_depth_br => k_is
    case m_contacts_fx => k_is
    case m_contacts_ct => k_is
    case m_contacts_nt => k_is
    case m_contacts_se => k_is
    case m_contacts_br => k_is
    case m_bounded_fx => k_is
    case m_bounded_ct => k_is
    case m_bounded_nt => k_is
    case m_bounded_se => k_is
    case m_bounded_br => k_is
    case m_inner_fx => k_is
    case m_inner_ct => k_is
    case m_inner_nt => k_is
    case m_inner_se => k_is
    case m_inner_br => k_is
    case m_gather_fx => k_is
    case m_gather_ct => k_is
    case m_gather_nt => k_is
    case m_gather_se => k_is
    case m_gather_br => k_is
    case m_init_fx => k_is
    case m_init_ct => k_is
    case m_init_nt => k_is
    case m_init_se => k_is
    case m_init_br => k_is
    case m_init_sh => k_is
    case m_place_sh => k_is
    case m_made_sh => k_is
    case m_below_sh => k_is
    case m_joined_sh => k_is
    case m_opposite_sh => k_is
    case m_drawn_sh => k_is
    case m_need_sh => k_is
    case m_node_sh => k_is
    case m_turned_sh => k_is
    case m_shown_sh => k_is
    case m_row_sh => k_is
    case m_counted_sh => k_is
    case m_ways_sh => k_is
    case rIsWord => exact ⟨⟨_, _, _, _, _, _, _, _, _, by k_is, by k_is⟩, by k_is⟩
    case rIsName => exact ⟨⟨_, _, _, _, _, _, _, _, _, by k_is, by k_is⟩, by k_is⟩
    case rPInner => exact ⟨⟨_, _, _, _, _, _, _, _, _, by k_is, by k_is⟩, by k_is⟩
    case iPInner => k_is
    case rSize => exact ⟨⟨_, _, _, _, _, _, _, _, _, by k_is, by k_is⟩, by k_is⟩
    case iSize => k_is
    case rDepth => exact ⟨⟨_, _, _, _, _, _, _, _, _, by k_is, by k_is⟩, by k_is⟩
    case iDepth => k_is
    case rPGather => exact ⟨⟨_, _, _, _, _, _, _, _, _, by k_is, by k_is⟩, by k_is⟩
    case iPGather => k_is
    case rContacts => exact ⟨⟨_, _, _, _, _, _, _, _, _, by k_is, by k_is⟩, by k_is⟩
    case iContacts => k_is
    case rBounded => exact ⟨⟨_, _, _, _, _, _, _, _, _, by k_is, by k_is⟩, by k_is⟩
    case iBounded => k_is
    case rFInit => exact ⟨⟨_, _, _, _, _, _, _, _, _, by k_is, by k_is⟩, by k_is⟩
    case iFInit => k_is
    case rCInit => exact ⟨⟨_, _, _, _, _, _, _, _, _, by k_is, by k_is⟩, by k_is⟩
    case iCInit => k_is
    case rCGather => exact ⟨⟨_, _, _, _, _, _, _, _, _, by k_is, by k_is⟩, by k_is⟩
    case iCGather => k_is
    case rTInit => exact ⟨⟨_, _, _, _, _, _, _, _, _, by k_is, by k_is⟩, by k_is⟩
    case iTInit => k_is
    case rTInner => exact ⟨⟨_, _, _, _, _, _, _, _, _, by k_is, by k_is⟩, by k_is⟩
    case iTInner => k_is
    case rGInit => exact ⟨⟨_, _, _, _, _, _, _, _, _, by k_is, by k_is⟩, by k_is⟩
    case iGInit => k_is
    case rGInner => exact ⟨⟨_, _, _, _, _, _, _, _, _, by k_is, by k_is⟩, by k_is⟩
    case iGInner => k_is
    case rSingle => exact ⟨⟨_, _, _, _, _, _, _, _, _, by k_is, by k_is⟩, by k_is⟩
    case rJoined => exact ⟨⟨_, _, _, _, _, _, _, _, _, by k_is, by k_is⟩, by k_is⟩
    case rPartOf => exact ⟨⟨_, _, _, _, _, _, _, _, _, by k_is, by k_is⟩, by k_is⟩
    case rSInit => exact ⟨⟨_, _, _, _, _, _, _, _, _, by k_is, by k_is⟩, by k_is⟩
    case iSInit => k_is
    case rPlace => exact ⟨⟨_, _, _, _, _, _, _, _, _, by k_is, by k_is⟩, by k_is⟩
    case iPlace => k_is
    case rMade => exact ⟨⟨_, _, _, _, _, _, _, _, _, by k_is, by k_is⟩, by k_is⟩
    case iMade => k_is
    case rBelow => exact ⟨⟨_, _, _, _, _, _, _, _, _, by k_is, by k_is⟩, by k_is⟩
    case iBelow => k_is
    case rSJoined => exact ⟨⟨_, _, _, _, _, _, _, _, _, by k_is, by k_is⟩, by k_is⟩
    case iSJoined => k_is
    case rOpposite => exact ⟨⟨_, _, _, _, _, _, _, _, _, by k_is, by k_is⟩, by k_is⟩
    case iOpposite => k_is
    case rDrawn => exact ⟨⟨_, _, _, _, _, _, _, _, _, by k_is, by k_is⟩, by k_is⟩
    case iDrawn => k_is
    case rNeed => exact ⟨⟨_, _, _, _, _, _, _, _, _, by k_is, by k_is⟩, by k_is⟩
    case iNeed => k_is
    case rNode => exact ⟨⟨_, _, _, _, _, _, _, _, _, by k_is, by k_is⟩, by k_is⟩
    case iNode => k_is
    case rSTurned => exact ⟨⟨_, _, _, _, _, _, _, _, _, by k_is, by k_is⟩, by k_is⟩
    case iSTurned => k_is
    case rShown => exact ⟨⟨_, _, _, _, _, _, _, _, _, by k_is, by k_is⟩, by k_is⟩
    case iShown => k_is
    case rRow => exact ⟨⟨_, _, _, _, _, _, _, _, _, by k_is, by k_is⟩, by k_is⟩
    case iRow => k_is
    case rCounted => exact ⟨⟨_, _, _, _, _, _, _, _, _, by k_is, by k_is⟩, by k_is⟩
    case iCounted => k_is
    case rWays => exact ⟨⟨_, _, _, _, _, _, _, _, _, by k_is, by k_is⟩, by k_is⟩
    case iWays => k_is
    case rCellAt => exact ⟨⟨_, _, _, _, _, _, _, _, _, by k_is, by k_is⟩, by k_is⟩
    case rMixed => exact ⟨⟨_, _, _, _, _, _, _, _, _, by k_is, by k_is⟩, by k_is⟩
    case rWord => exact ⟨⟨_, _, _, _, _, _, _, _, _, by k_is, by k_is⟩, by k_is⟩
    case rNames => exact ⟨⟨_, _, _, _, _, _, _, _, _, by k_is, by k_is⟩, by k_is⟩
    case rGrown => exact ⟨⟨_, _, _, _, _, _, _, _, _, by k_is, by k_is⟩, by k_is⟩
    case rToldBy => exact ⟨⟨_, _, _, _, _, _, _, _, _, by k_is, by k_is⟩, by k_is⟩
    case rHolds => exact ⟨⟨_, _, _, _, _, _, _, _, _, by k_is, by k_is⟩, by k_is⟩
    case rLRow => exact ⟨⟨_, _, _, _, _, _, _, _, _, by k_is, by k_is⟩, by k_is⟩
    case rWhole => exact ⟨⟨_, _, _, _, _, _, _, _, _, by k_is, by k_is⟩, by k_is⟩
    case rFound => exact ⟨⟨_, _, _, _, _, _, _, _, _, by k_is, by k_is⟩, by k_is⟩
    case rAlike => exact ⟨⟨_, _, _, _, _, _, _, _, _, by k_is, by k_is⟩, by k_is⟩
    case rLaw => exact ⟨⟨_, _, _, _, _, _, _, _, _, by k_is, by k_is⟩, by k_is⟩
    case pg_fx => k_is
    case hd_fx => k_is
    case po_fx => k_is
    case sa_fx => k_is
    case mk_fx => k_is
    case kc_fx => k_is
    case n_value_fx => k_is
    case pg_ct => k_is
    case hd_ct => k_is
    case po_ct => k_is
    case sa_ct => k_is
    case mk_ct => k_is
    case kc_ct => k_is
    case n_name_ct => k_is
    case pg_nt => k_is
    case hd_nt => k_is
    case po_nt => k_is
    case sa_nt => k_is
    case mk_nt => k_is
    case kc_nt => k_is
    case n_part_nt => k_is
    case pg_se => k_is
    case hd_se => k_is
    case po_se => k_is
    case sa_se => k_is
    case mk_se => k_is
    case kc_se => k_is
    case n_parts_se => k_is
    case pg_br => k_is
    case hd_br => k_is
    case po_br => k_is
    case sa_br => k_is
    case mk_br => k_is
    case kc_br => k_is
    case n_parts_br => k_is
    case pg_sh => k_is
    case hd_sh => k_is
    case po_sh => k_is
    case sa_sh => k_is
    case mk_sh => k_is
    case kc_sh => k_is
    case n_names_sh => k_is
    case n_nodes_sh => k_is
    case n_numbers_sh => k_is
    case xa_fx => k_is
    case xm_fx => k_is
    case xa_ct => k_is
    case xm_ct => k_is
    case xa_nt => k_is
    case xm_nt => k_is
    case xa_se => k_is
    case xm_se => k_is
    case xa_br => k_is
    case xm_br => k_is
    case xn => k_is
    case xt => k_is
    case s_ct_fx => k_is
    case d_ct_fx => decide
    case s_nt_fx => k_is
    case d_nt_fx => decide
    case s_nt_ct => k_is
    case d_nt_ct => decide
    case s_se_fx => k_is
    case d_se_fx => decide
    case s_se_ct => k_is
    case d_se_ct => decide
    case s_se_nt => k_is
    case d_se_nt => decide
    case s_br_fx => k_is
    case d_br_fx => decide
    case s_br_ct => k_is
    case d_br_ct => decide
    case s_br_nt => k_is
    case d_br_nt => decide
    case s_br_se => k_is
    case d_br_se => decide
    case t_fx => k_is
    case y_fx => exact K34.some_of (by k_is)
    case t_ct => k_is
    case y_ct => exact K34.some_of (by k_is)
    case t_nt => k_is
    case y_nt => exact K34.some_of (by k_is)
    case t_se => k_is
    case y_se => exact K34.some_of (by k_is)
    case z_len => k_is
    case z_sum => k_is
    case z_max => k_is
    case z_min => k_is
    case z_isinstance => k_is
    case z_int => k_is
    case z_set => k_is
    case z_tuple => k_is
    case z_list => k_is
    case z_range => k_is
    case z_bool => k_is
    case z_dict => k_is
    case vSIGNS => exact ⟨_, by k_is⟩
    case vMOST_SIGNS => exact ⟨_, by k_is⟩
    case vMOST_SIZE => exact ⟨_, by k_is⟩
    case vMOST_DEEP => exact ⟨_, by k_is⟩
    case vMOST_NAMES => exact ⟨_, by k_is⟩
    case vMOST_NODES => exact ⟨_, by k_is⟩
    case vTooMany => exact ⟨_, by k_is⟩
    case vKEPT => exact ⟨_, by k_is, _, _, _, _, _, _, _, _, _, _, _, _, _, _, by k_is⟩
