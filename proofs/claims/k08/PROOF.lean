import PyProof.Rows.All
import Wide.All
import OpenK.AllK
import Wide.FinOn
import HandS.ForMost
import HandS.SortInts
import HandS.Conv
import HandS.Zip
import HandS.Style
import HandS.More
import HandS.Defaults
import HandS.Head0
import HandS.Head1
import HandS.Head2
import HandS.HeadEnd
import HandS.HeadHook1
import HandS.HeadHook2
import HandS.HeadHook3
import HandS.HeadHook4
import HandS.Text
import HandS.Codes
import PySem.Challenge.RW_steadywires_k08_whole_cores_drawn
set_option Elab.async false
set_option linter.all false
set_option maxRecDepth 100000
set_option maxHeartbeats 4000000
namespace Z
open PySem PySem.Spec PyProof.Rows L2

/-! ## heaps, masks, data -/
abbrev D := PyData
abbrev MS := List (Option D)
def Ex (H H' : Hp) : Prop := ∀ a o, H a = some o → H' a = some o
theorem Ex.refl (H : Hp) : Ex H H := fun _ _ h => h
theorem Ex.trans {H H1 H2 : Hp} (a : Ex H H1) (b : Ex H1 H2) : Ex H H2 := fun x o h => b x o (a x o h)
theorem ex_upd {H : Hp} {p : Addr} {o : HO} (h : H p = none) : Ex H (upd H p o) := fun a u e => by
  rw [upd_ne (ne_of_none e h)]; exact e
theorem rd_ex {H H' : Hp} {a : Addr} {u : HO} (e : Ex H H') (h : Rd H a u) : Rd H' a u := by
  rcases h with h | ⟨o, h⟩
  · exact .inl (e _ _ h)
  · exact .inr ⟨o, e _ _ h⟩
theorem sql_ex {K : PySem.W.Frag} {H H' : Hp} {a : Addr} {xs : List V} (e : Ex H H') (h : SqL K H a xs) : SqL K H' a xs := by
  rcases h with (h | ⟨o, h⟩) | h
  · exact .inl (.inl (e _ _ h))
  · exact .inl (.inr ⟨o, e _ _ h⟩)
  · exact .inr h
theorem sqt_ex {K : PySem.W.Frag} {H H' : Hp} {a : Addr} {xs : List V} (e : Ex H H') (h : SqT K H a xs) : SqT K H' a xs := by
  rcases h with (h | ⟨o, h⟩) | h
  · exact .inl (.inl (e _ _ h))
  · exact .inl (.inr ⟨o, e _ _ h⟩)
  · exact .inr h
mutual
/-- plain data as it lies: lists that are tracked (or locked), tuples that stand -/
inductive Rp (K : PySem.W.Frag) (H : Hp) : V → PyData → Prop
  | non : Rp K H .non .none
  | bl (b : Bool) : Rp K H (.bl b) (.bool b)
  | int (i : Int) : Rp K H (.int i) (.int i)
  | str (x : Str) : Rp K H (.str x) (.str x)
  | lst {a : Addr} {xs : List V} {ds : List PyData} : SqL K H a xs → RpAll K H xs ds → Rp K H (.ref a) (.list ds)
  | tup {a : Addr} {xs : List V} {ds : List PyData} : SqT K H a xs → RpAll K H xs ds → Rp K H (.ref a) (.tuple ds)
inductive RpAll (K : PySem.W.Frag) (H : Hp) : List V → List PyData → Prop
  | nil : RpAll K H [] []
  | cons {v : V} {vs : List V} {d : PyData} {ds : List PyData} : Rp K H v d → RpAll K H vs ds → RpAll K H (v :: vs) (d :: ds)
end
mutual
theorem Rp.dp {K : PySem.W.Frag} {H : Hp} : ∀ {v : V} {d : PyData}, Rp K H v d → L2.Dp K H v d
  | _, _, .non => .non
  | _, _, .bl b => .bl b
  | _, _, .int i => .int i
  | _, _, .str x => .str x
  | _, _, .lst h a => .lst h (RpAll.dp a)
  | _, _, .tup h a => .tup h (RpAll.dp a)
theorem RpAll.dp {K : PySem.W.Frag} {H : Hp} : ∀ {vs : List V} {ds : List PyData}, RpAll K H vs ds → L2.DpAll K H vs ds
  | _, _, .nil => .nil
  | _, _, .cons h a => .cons (Rp.dp h) (RpAll.dp a)
end
mutual
theorem dp_ex {K : PySem.W.Frag} {H H' : Hp} (e : Ex H H') : ∀ {v : V} {d : PyData}, Rp K H v d → Rp K H' v d
  | _, _, .non => .non
  | _, _, .bl b => .bl b
  | _, _, .int i => .int i
  | _, _, .str x => .str x
  | _, _, .lst h a => .lst (sql_ex e h) (dpa_ex e a)
  | _, _, .tup h a => .tup (sqt_ex e h) (dpa_ex e a)
theorem dpa_ex {K : PySem.W.Frag} {H H' : Hp} (e : Ex H H') : ∀ {vs : List V} {ds : List PyData}, RpAll K H vs ds → RpAll K H' vs ds
  | _, _, .nil => .nil
  | _, _, .cons h a => .cons (dp_ex e h) (dpa_ex e a)
end
section
variable {K : PySem.W.Frag} {H : Hp}
theorem dpa_len : ∀ {vs : List V} {ds : List PyData}, RpAll K H vs ds → vs.length = ds.length
  | _, _, .nil => rfl
  | _, _, .cons _ a => congrArg (· + 1) (dpa_len a)
theorem dpa_app : ∀ {vs ws : List V} {ds es : List PyData}, RpAll K H vs ds → RpAll K H ws es → RpAll K H (vs ++ ws) (ds ++ es)
  | _, _, _, _, .nil, b => b
  | _, _, _, _, .cons h a, b => .cons h (dpa_app a b)
theorem dpa_get : ∀ {vs : List V} {ds : List PyData} {i : Nat} {d : PyData}, RpAll K H vs ds → ds[i]? = some d → ∃ v, vs[i]? = some v ∧ Rp K H v d
  | _, _, _, _, .nil, e => by simp at e
  | _, _, 0, _, .cons h a, e => by
    simp at e; subst e; exact ⟨_, rfl, h⟩
  | _, _, i + 1, _, .cons h a, e => by
    obtain ⟨v, h1, h2⟩ := dpa_get (i := i) a (by simpa using e)
    exact ⟨v, by simpa using h1, h2⟩
theorem dpa_drop : ∀ {vs : List V} {ds : List PyData} (n : Nat), RpAll K H vs ds → RpAll K H (vs.drop n) (ds.drop n)
  | _, _, 0, a => a
  | _, _, _ + 1, .nil => .nil
  | _, _, n + 1, .cons h a => dpa_drop n a
theorem dpa_take : ∀ {vs : List V} {ds : List PyData} (n : Nat), RpAll K H vs ds → RpAll K H (vs.take n) (ds.take n)
  | _, _, 0, _ => .nil
  | _, _, _ + 1, .nil => .nil
  | _, _, n + 1, .cons h a => .cons h (dpa_take n a)
theorem dpa_set {v : V} {d : PyData} (h : Rp K H v d) : ∀ {vs : List V} {ds : List PyData} (n : Nat), RpAll K H vs ds → RpAll K H (vs.set n v) (ds.set n d)
  | _, _, _, .nil => .nil
  | _, _, 0, .cons _ a => .cons h a
  | _, _, n + 1, .cons h' a => .cons h' (dpa_set h n a)
theorem dpa_erase : ∀ {vs : List V} {ds : List PyData} (n : Nat), RpAll K H vs ds → RpAll K H (vs.eraseIdx n) (ds.eraseIdx n)
  | _, _, _, .nil => .nil
  | _, _, 0, .cons _ a => a
  | _, _, n + 1, .cons h' a => .cons h' (dpa_erase n a)
theorem dpa_rev : ∀ {vs : List V} {ds : List PyData}, RpAll K H vs ds → RpAll K H vs.reverse ds.reverse
  | _, _, .nil => .nil
  | _, _, .cons h a => by
    rw [List.reverse_cons, List.reverse_cons]
    exact dpa_app (dpa_rev a) (.cons h .nil)
theorem dpa_ints : ∀ ns : List Int, RpAll K H (ns.map V.int) (ns.map PyData.int)
  | [] => .nil
  | n :: ns => .cons (.int n) (dpa_ints ns)
theorem dpa_strs : ∀ ns : List Str, RpAll K H (ns.map V.str) (ns.map PyData.str)
  | [] => .nil
  | n :: ns => .cons (.str n) (dpa_strs ns)
theorem of_ints : ∀ {vs : List V} {ns : List Int}, RpAll K H vs (ns.map PyData.int) → vs = ns.map V.int
  | _, [], .nil => rfl
  | _, n :: ns, .cons h a => by cases h; rw [of_ints a]; rfl
theorem of_strs : ∀ {vs : List V} {ns : List Str}, RpAll K H vs (ns.map PyData.str) → vs = ns.map V.str
  | _, [], .nil => rfl
  | _, n :: ns, .cons h a => by cases h; rw [of_strs a]; rfl
end

/-- the heap without what A tells -/
noncomputable def hide (A : Addr → Prop) (H : Hp) : Hp := fun a => @ite _ (A a) (Classical.propDecidable _) none (H a)
section
variable {A B : Addr → Prop} {H H' : Hp} {a p : Addr} {o : HO}
theorem hide_of (n : ¬ A a) (h : H a = some o) : hide A H a = some o := by unfold hide; rw [if_neg n]; exact h
theorem hide_no (n : A a) : hide A H a = none := by unfold hide; rw [if_pos n]
theorem of_hide (h : hide A H a = some o) : ¬ A a ∧ H a = some o := by
  unfold hide at h
  split at h
  · cases h
  · rename_i n; exact ⟨n, h⟩
theorem ex_hide_sub (h : ∀ a, A a → B a) : Ex (hide B H) (hide A H) := fun a o e => by
  obtain ⟨n, q⟩ := of_hide e
  exact hide_of (fun z => n (h a z)) q
theorem ex_hide (e : Ex H H') : Ex (hide A H) (hide A H') := fun a o q => by
  obtain ⟨n, q⟩ := of_hide q
  exact hide_of n (e a o q)
theorem ex_hide0 : Ex (hide A H) H := fun a o q => (of_hide q).2
theorem ex_hide_up (h : A p) : Ex (hide A H) (hide A (upd H p o)) := fun a u q => by
  obtain ⟨n, q⟩ := of_hide q
  refine hide_of n ?_
  rw [upd_ne (by intro e; subst e; exact n h)]; exact q
theorem hide_upd (h : H p = none) : hide (· = p) (upd H p o) = H := by
  funext b
  by_cases e : b = p
  · unfold hide; rw [if_pos e, e, h]
  · unfold hide; rw [if_neg e, upd_ne e]
/-- more may be hidden than what changed -/
theorem ex_wide (hs : ∀ a, A a → B a) (e : Ex (hide A H) (hide A H')) : Ex (hide B H) (hide B H') := fun a o q => by
  obtain ⟨n, q⟩ := of_hide q
  exact hide_of n (of_hide (e a o (hide_of (fun z => n (hs a z)) q))).2
end

/-! ## what is owned, and the relation of slots -/
def Own (O : List Nat) (σ : L2.St) : Addr → Prop := fun a => ∃ i, i ∈ O ∧ σ[i]? = some (some (.ref a))
theorem own_sub {L O : List Nat} {σ : L2.St} (h : ∀ i ∈ L, i ∈ O) : ∀ a, Own L σ a → Own O σ a := fun a ⟨i, hi, e⟩ => ⟨i, h i hi, e⟩
/-- the caller's: what it hides (C), the slots that it lends (Th) as they stood at the entry (τ) -/
structure Cn where
  C : Addr → Prop
  Th : List Nat
  τ : L2.St
def Cn.msk (c : Cn) (L : List Nat) (σ : L2.St) : Addr → Prop := fun a => c.C a ∨ Own L σ a
theorem msk_sub {c : Cn} {L O : List Nat} {σ : L2.St} (h : ∀ i ∈ L, i ∈ O) : ∀ a, c.msk L σ a → c.msk O σ a := fun a q => q.imp id (own_sub h a)

structure R (K : PySem.W.Frag) (c : Cn) (O : List Nat) (s : MS) (σ : L2.St) (H : Hp) : Prop where
  len : s.length = σ.length
  sh : ∀ (i : Nat) (d : D), i ∉ O → s[i]? = some (some d) → ∃ v, σ[i]? = some (some v) ∧ Rp K (hide (c.msk O σ) H) v d
  ow : ∀ i : Nat, i ∈ O → ∃ (p : Addr) (vs : List V) (ds : List D), σ[i]? = some (some (.ref p)) ∧ s[i]? = some (some (.list ds)) ∧ H p = some (.lst vs) ∧ RpAll K (hide (c.msk O σ) H) vs ds ∧ ¬ c.C p
  nd : ∀ (i j : Nat) (p : Addr), i ∈ O → j ∈ O → σ[i]? = some (some (.ref p)) → σ[j]? = some (some (.ref p)) → i = j
  cs : ∀ p, c.C p → ∃ o, H p = some o
  th : ∀ i : Nat, i ∈ c.Th → i ∈ O ∧ σ[i]? = c.τ[i]?
section
variable {K : PySem.W.Frag} {c : Cn} {O L W : List Nat} {s s' : MS} {σ : L2.St} {H H' : Hp}
theorem R.ex (r : R K c O s σ H) (e : Ex H H') : R K c O s σ H' where
  len := r.len
  sh := fun i d hi h => let ⟨v, h1, h2⟩ := r.sh i d hi h; ⟨v, h1, dp_ex (ex_hide e) h2⟩
  ow := fun i hi => let ⟨p, vs, ds, h1, h2, h3, h4, h5⟩ := r.ow i hi; ⟨p, vs, ds, h1, h2, e _ _ h3, dpa_ex (ex_hide e) h4, h5⟩
  nd := r.nd
  cs := fun p h => let ⟨o, q⟩ := r.cs p h; ⟨o, e _ _ q⟩
  th := r.th
/-- a value in the i-th slot, read while L is hidden -/
theorem R.get (r : R K c O s σ H) (hL : ∀ j ∈ L, j ∈ O) {i : Nat} {d : D} (hi : i ∉ L) (h : s[i]? = some (some d)) : ∃ v, σ[i]? = some (some v) ∧ Rp K (hide (c.msk L σ) H) v d := by
  by_cases ho : i ∈ O
  · obtain ⟨p, vs, ds, h1, h2, h3, h4, h5⟩ := r.ow i ho
    rw [h2] at h
    cases h
    refine ⟨_, h1, .lst (.inl (.inl (hide_of (fun z => ?_) h3))) (dpa_ex (ex_hide_sub (msk_sub hL)) h4)⟩
    rcases z with z | ⟨j, hj, z⟩
    · exact h5 z
    · exact hi (r.nd i j p ho (hL j hj) h1 z ▸ hj)
  · obtain ⟨v, h1, h2⟩ := r.sh i d ho h
    exact ⟨v, h1, dp_ex (ex_hide_sub (msk_sub hL)) h2⟩
/-- a slot takes a value that leans on nothing owned -/
theorem R.set (r : R K c O s σ H) {i : Nat} {v : V} {d : D} (hd : Rp K (hide (c.msk O σ) H) v d) (ht : i ∉ c.Th) (hi : i < σ.length) : R K c (O.filter (· ≠ i)) (s.set i (some d)) (σ.set i (some v)) H ∧ Ex (hide (Own O σ) H) (hide (Own (O.filter (· ≠ i)) (σ.set i (some v))) H) := by
  have own : ∀ a, Own (O.filter (· ≠ i)) (σ.set i (some v)) a → Own O σ a := fun a ⟨j, hj, e⟩ => by
    have hj' := List.mem_filter.mp hj
    have hne : j ≠ i := by simpa using hj'.2
    rw [List.getElem?_set_ne (Ne.symm hne)] at e
    exact ⟨j, hj'.1, e⟩
  have msk : ∀ a, c.msk (O.filter (· ≠ i)) (σ.set i (some v)) a → c.msk O σ a := fun a q => q.imp id (own a)
  refine ⟨⟨by simpa using r.len, fun j e hj h => ?_, fun j hj => ?_, fun j k p hj hk h1 h2 => ?_, r.cs, fun j hj => ?_⟩, ex_hide_sub own⟩
  · by_cases e1 : j = i
    · subst e1
      rw [List.getElem?_set_self (by rw [r.len]; exact hi)] at h
      cases h
      exact ⟨v, List.getElem?_set_self hi, dp_ex (ex_hide_sub msk) hd⟩
    · rw [List.getElem?_set_ne (Ne.symm e1)] at h
      have hj' : j ∉ O := fun z => hj (List.mem_filter.mpr ⟨z, by simpa using e1⟩)
      obtain ⟨v', h1, h2⟩ := r.sh j e hj' h
      exact ⟨v', by rw [List.getElem?_set_ne (Ne.symm e1)]; exact h1, dp_ex (ex_hide_sub msk) h2⟩
  · have hj' := List.mem_filter.mp hj
    have hne : j ≠ i := by simpa using hj'.2
    obtain ⟨p, vs, ds, h1, h2, h3, h4, h5⟩ := r.ow j hj'.1
    exact ⟨p, vs, ds, by rw [List.getElem?_set_ne (Ne.symm hne)]; exact h1, by rw [List.getElem?_set_ne (Ne.symm hne)]; exact h2, h3, dpa_ex (ex_hide_sub msk) h4, h5⟩
  · have hj' := List.mem_filter.mp hj
    have hk' := List.mem_filter.mp hk
    have hne : j ≠ i := by simpa using hj'.2
    have hne' : k ≠ i := by simpa using hk'.2
    rw [List.getElem?_set_ne (Ne.symm hne)] at h1
    rw [List.getElem?_set_ne (Ne.symm hne')] at h2
    exact r.nd j k p hj'.1 hk'.1 h1 h2
  · have hne : j ≠ i := fun e => ht (e ▸ hj)
    obtain ⟨h1, h2⟩ := r.th j hj
    exact ⟨List.mem_filter.mpr ⟨h1, by simpa using hne⟩, by rw [List.getElem?_set_ne (Ne.symm hne)]; exact h2⟩
/-- a slot takes a new list: H hides it at p, H' shows it -/
theorem R.setOwn {p : Addr} {vs : List V} {ds : List D} (r : R K c O s σ (hide (· = p) H')) {i : Nat} (hp : H' p = some (.lst vs)) (hd : RpAll K (hide (c.msk O σ) (hide (· = p) H')) vs ds) (ht : i ∉ c.Th) (hi : i < σ.length) :
    R K c (i :: O.filter (· ≠ i)) (s.set i (some (.list ds))) (σ.set i (some (.ref p))) H' ∧ Ex (hide (Own O σ) (hide (· = p) H')) (hide (Own (i :: O.filter (· ≠ i)) (σ.set i (some (.ref p)))) H') := by
  have hn : ¬ c.C p := fun z => by
    obtain ⟨o, q⟩ := r.cs p z
    exact (of_hide q).1 rfl
  have own : ∀ a, Own (i :: O.filter (· ≠ i)) (σ.set i (some (.ref p))) a → a = p ∨ Own O σ a := fun a ⟨j, hj, e⟩ => by
    rcases List.mem_cons.mp hj with rfl | hj
    · rw [List.getElem?_set_self hi] at e
      cases e; exact .inl rfl
    · have hj' := List.mem_filter.mp hj
      have hne : j ≠ i := by simpa using hj'.2
      rw [List.getElem?_set_ne (Ne.symm hne)] at e
      exact .inr ⟨j, hj'.1, e⟩
  have big : Ex (hide (c.msk O σ) (hide (· = p) H')) (hide (c.msk (i :: O.filter (· ≠ i)) (σ.set i (some (.ref p)))) H') := fun a o q => by
    obtain ⟨n1, q⟩ := of_hide q
    obtain ⟨n2, q⟩ := of_hide q
    refine hide_of (fun z => ?_) q
    rcases z with z | z
    · exact n1 (.inl z)
    · rcases own a z with z | z
      · exact n2 z
      · exact n1 (.inr z)
  have pn : ∀ j ∈ O, σ[j]? ≠ some (some (.ref p)) := fun j hj e => by
    obtain ⟨p', _, _, h1, _, h3, _⟩ := r.ow j hj
    rw [e] at h1
    cases h1
    exact (of_hide h3).1 rfl
  refine ⟨⟨by simpa using r.len, fun j e hj h => ?_, fun j hj => ?_, fun j k q hj hk h1 h2 => ?_, fun q h => ?_, fun j hj => ?_⟩, fun a o q => ?_⟩
  · have e1 : j ≠ i := fun z => hj (by rw [z]; exact List.mem_cons_self)
    rw [List.getElem?_set_ne (Ne.symm e1)] at h
    have hj' : j ∉ O := fun z => hj (List.mem_cons_of_mem _ (List.mem_filter.mpr ⟨z, by simpa using e1⟩))
    obtain ⟨v', h1, h2⟩ := r.sh j e hj' h
    exact ⟨v', by rw [List.getElem?_set_ne (Ne.symm e1)]; exact h1, dp_ex big h2⟩
  · rcases List.mem_cons.mp hj with rfl | hj
    · exact ⟨p, vs, ds, List.getElem?_set_self hi, List.getElem?_set_self (by rw [r.len]; exact hi), hp, dpa_ex big hd, hn⟩
    · have hj' := List.mem_filter.mp hj
      have hne : j ≠ i := by simpa using hj'.2
      obtain ⟨p', vs', ds', h1, h2, h3, h4, h5⟩ := r.ow j hj'.1
      exact ⟨p', vs', ds', by rw [List.getElem?_set_ne (Ne.symm hne)]; exact h1, by rw [List.getElem?_set_ne (Ne.symm hne)]; exact h2, (of_hide h3).2, dpa_ex big h4, h5⟩
  · have two : ∀ j, j ∈ i :: O.filter (· ≠ i) → (σ.set i (some (.ref p)))[j]? = some (some (.ref q)) → (j = i ∧ q = p) ∨ (j ∈ O ∧ σ[j]? = some (some (.ref q)) ∧ q ≠ p) := fun j hj e => by
      rcases List.mem_cons.mp hj with rfl | hj
      · rw [List.getElem?_set_self hi] at e
        cases e; exact .inl ⟨rfl, rfl⟩
      · have hj' := List.mem_filter.mp hj
        have hne : j ≠ i := by simpa using hj'.2
        rw [List.getElem?_set_ne (Ne.symm hne)] at e
        exact .inr ⟨hj'.1, e, fun z => pn j hj'.1 (z ▸ e)⟩
    rcases two j hj h1 with ⟨a1, a2⟩ | ⟨a1, a2, a3⟩
    · rcases two k hk h2 with ⟨b1, b2⟩ | ⟨b1, b2, b3⟩
      · rw [a1, b1]
      · exact absurd a2 b3
    · rcases two k hk h2 with ⟨b1, b2⟩ | ⟨b1, b2, b3⟩
      · exact absurd b2 a3
      · exact r.nd j k q a1 b1 a2 b2
  · obtain ⟨o, q'⟩ := r.cs q h
    exact ⟨o, (of_hide q').2⟩
  · have hne : j ≠ i := fun e => ht (e ▸ hj)
    obtain ⟨h1, h2⟩ := r.th j hj
    exact ⟨List.mem_cons_of_mem _ (List.mem_filter.mpr ⟨h1, by simpa using hne⟩), by rw [List.getElem?_set_ne (Ne.symm hne)]; exact h2⟩
  · obtain ⟨n1, q⟩ := of_hide q
    obtain ⟨n2, q⟩ := of_hide q
    exact hide_of (fun z => (own a z).elim n2 n1) q
/-- an owned slot is let go -/
theorem R.free (r : R K c O s σ H) (hL : ∀ j ∈ L, j ∈ O) (ht : ∀ j ∈ c.Th, j ∈ L) : R K c L s σ H ∧ Ex (hide (Own O σ) H) (hide (Own L σ) H) := by
  refine ⟨⟨r.len, fun j e hj h => r.get hL hj h, fun j hj => ?_, fun j k p hj hk => r.nd j k p (hL j hj) (hL k hk), r.cs, fun j hj => ⟨ht j hj, (r.th j hj).2⟩⟩, ex_hide_sub (own_sub hL)⟩
  obtain ⟨p, vs, ds, h1, h2, h3, h4, h5⟩ := r.ow j (hL j hj)
  exact ⟨p, vs, ds, h1, h2, h3, dpa_ex (ex_hide_sub (msk_sub hL)) h4, h5⟩
/-- slots are forgotten -/
theorem R.forget (r : R K c O s σ H) {i : Nat} (hi : i ∉ O) : R K c O (s.set i none) σ H where
  len := by simpa using r.len
  sh := fun j d hj h => by
    by_cases e : j = i
    · subst e
      by_cases hl : j < s.length
      · rw [List.getElem?_set_self hl] at h; cases h
      · rw [List.getElem?_eq_none (by simp; omega)] at h; cases h
    · rw [List.getElem?_set_ne (Ne.symm e)] at h
      exact r.sh j d hj h
  ow := fun j hj => by
    have e : j ≠ i := fun z => hi (z ▸ hj)
    obtain ⟨p, vs, ds, h1, h2, h3⟩ := r.ow j hj
    exact ⟨p, vs, ds, h1, by rw [List.getElem?_set_ne (Ne.symm e)]; exact h2, h3⟩
  nd := r.nd
  cs := r.cs
  th := r.th
/-- an owned list is changed -/
theorem R.chg (r : R K c O s σ H) {i : Nat} {p : Addr} {vs : List V} {ds : List D} (hi : i ∈ O) (hp : σ[i]? = some (some (.ref p))) (hd : RpAll K (hide (c.msk O σ) H) vs ds) : R K c O (s.set i (some (.list ds))) σ (upd H p (.lst vs)) ∧ Ex (hide (Own [i] σ) H) (hide (Own [i] σ) (upd H p (.lst vs))) := by
  have hm : c.msk O σ p := .inr ⟨i, hi, hp⟩
  have e0 : Ex (hide (c.msk O σ) H) (hide (c.msk O σ) (upd H p (.lst vs))) := ex_hide_up hm
  have hl : i < s.length := by
    rw [r.len]
    exact (List.getElem?_eq_some_iff.mp hp).1
  refine ⟨⟨by simpa using r.len, fun j e hj h => ?_, fun j hj => ?_, r.nd, fun q h => ?_, r.th⟩, ex_hide_up ⟨i, by simp, hp⟩⟩
  · have hne : j ≠ i := fun z => hj (z ▸ hi)
    rw [List.getElem?_set_ne (Ne.symm hne)] at h
    obtain ⟨v, h1, h2⟩ := r.sh j e hj h
    exact ⟨v, h1, dp_ex e0 h2⟩
  · obtain ⟨p', vs', ds', h1, h2, h3, h4, h5⟩ := r.ow j hj
    by_cases hne : j = i
    · subst hne
      rw [hp] at h1
      cases h1
      exact ⟨p, vs, ds, hp, List.getElem?_set_self hl, upd_same, dpa_ex e0 hd, h5⟩
    · have hpp : p' ≠ p := fun z => hne (r.nd j i p hj hi (z ▸ h1) hp)
      exact ⟨p', vs', ds', h1, by rw [List.getElem?_set_ne (Ne.symm hne)]; exact h2, by rw [upd_ne hpp]; exact h3, dpa_ex e0 h4, h5⟩
  · by_cases e : q = p
    · exact ⟨_, by rw [e]; exact upd_same⟩
    · obtain ⟨o, z⟩ := r.cs q h
      exact ⟨o, by rw [upd_ne e]; exact z⟩
end
end Z


namespace Z
open PySem PySem.Spec PyProof.Rows L2

/-! ## mirrors: combinators over plain data -/
abbrev ME := MS → Option (D × MS)
abbrev MF := MS → Option (List D × MS)
abbrev MT := MS → Option (Bool × MS)
inductive Out where
  | nx (s : MS) | rt (d : D) (s : MS) | bk (s : MS) | ct (s : MS)
abbrev MM := MS → Option Out

def xVar (i : Nat) : ME := fun s => (s.getD i none).map fun d => (d, s)
def xC (d : D) : ME := fun s => some (d, s)
def xOp (f : D → D → Option D) (a b : ME) : ME := fun s => (a s).bind fun p => (b p.2).bind fun q => (f p.1 q.1).map fun z => (z, q.2)
def xUn (f : D → Option D) (a : ME) : ME := fun s => (a s).bind fun p => (f p.1).map fun z => (z, p.2)
def xaNil : MF := fun s => some ([], s)
def xaCons (a : ME) (r : MF) : MF := fun s => (a s).bind fun p => (r p.2).map fun q => (p.1 :: q.1, q.2)
def xFn (f : List D → Option D) (as : MF) : ME := fun s => (as s).bind fun p => (f p.1).map fun z => (z, p.2)
def xfFn (f : List D → Option (List D)) (as : MF) : MF := fun s => (as s).bind fun p => (f p.1).map fun z => (z, p.2)
def xLst (m : MF) : ME := fun s => (m s).map fun p => (.list p.1, p.2)
def xTup (m : MF) : ME := fun s => (m s).bind fun p => if p.1.length ≤ 1000 then some (.tuple p.1, p.2) else none
def xT (a : ME) : MT := fun s => (a s).bind fun p => match p.1 with
  | .bool b => some (b, p.2)
  | _ => none
def xB (t : MT) : ME := fun s => (t s).map fun p => (.bool p.1, p.2)
def xAnd (a b : MT) : MT := fun s => (a s).bind fun p => if p.1 = true then b p.2 else some (false, p.2)
def xOr (a b : MT) : MT := fun s => (a s).bind fun p => if p.1 = true then some (true, p.2) else b p.2
def xNot (a : MT) : MT := fun s => (a s).map fun p => (!p.1, p.2)
def xIf (c : MT) (a b : ME) : ME := fun s => (c s).bind fun p => if p.1 = true then a p.2 else b p.2

/-! ## contexts by what is fixed -/
structure G where
  P : Program
  w : World
  K : PySem.W.Frag
  mg : Str → Option Value
  base : Heap
  A : Around
  N : List Str
  sc : Scope
  fnc : Str → Bool
structure InG (Γ : G) (X : Cx) : Prop where
  prog : X.prog = Γ.P
  w : X.w = Γ.w
  K : X.K = Γ.K
  mg : X.mg = Γ.mg
  base : X.base = Γ.base
  A : X.A = Γ.A
  N : X.N = Γ.N
  sc : X.env.scope = Γ.sc
  fnc : X.fn = Γ.fnc
  nd : Γ.N.Nodup
  calm : X.calm = true
  xe : X.xe = fun _ _ => False
theorem InG.mgn {Γ : G} {X : Cx} {x : Str} {o : Option Value} (h : InG Γ X) (e : Γ.mg x = o) : X.mg x = o := by rw [h.mg]; exact e
theorem InG.nx {Γ : G} {X : Cx} {i : Nat} {x : Str} (h : InG Γ X) (e : Γ.N[i]? = some x) : X.N[i]? = some x := by rw [h.N]; exact e
theorem InG.ndX {Γ : G} {X : Cx} (h : InG Γ X) : X.N.Nodup := by rw [h.N]; exact h.nd
def visB (sc : Scope) (x : Str) : Bool := match sc.names.lookup x with
  | some .local => true
  | some .cell => true
  | some .free => true
  | _ => false
theorem InG.vis {Γ : G} {X : Cx} {x : Str} (h : InG Γ X) (e : visB Γ.sc x = true) : Vis X.env.scope x := by
  rw [h.sc]
  unfold visB at e
  unfold Vis
  split at e
  · exact .inl ‹_›
  · exact .inr (.inl ‹_›)
  · exact .inr (.inr ‹_›)
  · cases e
theorem InG.gl {Γ : G} {X : Cx} {x : Str} (h : InG Γ X) (e : Γ.sc.names.lookup x = some .globalImplicit) : Gl X x := by
  show X.env.scope.names.lookup x = _
  rw [h.sc]; exact e

/-! ## judgements -/
def Sq (K : PySem.W.Frag) (H : Hp) (p : Addr) (vs : List V) : Prop := SqL K H p vs ∨ SqT K H p vs
theorem Sq.sq {K : PySem.W.Frag} {H : Hp} {p : Addr} {vs : List V} (h : Sq K H p vs) : SqL K H p vs ∨ SqT K H p vs := h
theorem sq_ex {K : PySem.W.Frag} {H H' : Hp} {a : Addr} {xs : List V} (e : Ex H H') (h : Sq K H a xs) : Sq K H' a xs := h.imp (sql_ex e) (sqt_ex e)
section
variable (K : PySem.W.Frag) (O L W : List Nat)
def SimE (t : TE) (m : ME) : Prop := ∀ (c : Cn) (σ : L2.St) (H : Hp) (s : MS), R K c O s σ H → ∀ d s', m s = some (d, s') → ∀ Q : VK,
  (∀ v H', R K c O s' σ H' → Ex (hide (Own W σ) H) (hide (Own W σ) H') → Rp K (hide (c.msk L σ) H') v d → Q v H') → t σ H Q
def SimF (t : TE) (m : MF) : Prop := ∀ (c : Cn) (σ : L2.St) (H : Hp) (s : MS), R K c O s σ H → ∀ ds s', m s = some (ds, s') → ∀ Q : VK,
  (∀ p vs H', H p = none → R K c O s' σ (hide (· = p) H') → Ex (hide (Own W σ) H) (hide (Own W σ) (hide (· = p) H')) → H' p = some (.lst vs) → RpAll K (hide (c.msk L σ) (hide (· = p) H')) vs ds → Q (.ref p) H') → t σ H Q
/-- a list or tuple that is read: what stands in it -/
def SimL (t : TE) (m : MF) : Prop := ∀ (c : Cn) (σ : L2.St) (H : Hp) (s : MS), R K c O s σ H → ∀ ds s', m s = some (ds, s') → ∀ Q : VK,
  (∀ p vs H', R K c O s' σ H' → Ex (hide (Own W σ) H) (hide (Own W σ) H') → Sq K H' p vs → RpAll K (hide (c.msk L σ) H') vs ds → Q (.ref p) H') → t σ H Q
def SimA (t : TA) (m : MF) : Prop := ∀ (c : Cn) (σ : L2.St) (H : Hp) (s : MS), R K c O s σ H → ∀ ds s', m s = some (ds, s') → ∀ Q : List V → Hp → Prop,
  (∀ vs H', R K c O s' σ H' → Ex (hide (Own W σ) H) (hide (Own W σ) H') → RpAll K (hide (c.msk L σ) H') vs ds → Q vs H') → t σ H Q
def SimT (t : TT) (m : MT) : Prop := ∀ (c : Cn) (σ : L2.St) (H : Hp) (s : MS), R K c O s σ H → ∀ b s', m s = some (b, s') → ∀ Q : Bool → Hp → Prop,
  (∀ H', R K c O s' σ H' → Ex (hide (Own W σ) H) (hide (Own W σ) H') → Q b H') → t σ H Q
end
section
variable (Γ : G) (O L W : List Nat)
def TrE (e : Expr) (m : ME) : Prop := ∃ t, (∀ X, InG Γ X → PE X e t) ∧ SimE Γ.K O L W t m
def TrF (e : Expr) (m : MF) : Prop := ∃ t, (∀ X, InG Γ X → PE X e t) ∧ SimF Γ.K O L W t m
def TrL (e : Expr) (m : MF) : Prop := ∃ t, (∀ X, InG Γ X → PE X e t) ∧ SimL Γ.K O L W t m
def TrA (es : List Expr) (m : MF) : Prop := ∃ t, (∀ X, InG Γ X → PA X es t) ∧ SimA Γ.K O L W t m
def TrT (e : Expr) (m : MT) : Prop := ∃ t, (∀ X, InG Γ X → PT X e t) ∧ SimT Γ.K O W t m
def TrW (e : Expr) (m : MT) : Prop := ∃ t, (∀ X, InG Γ X → PW X e t) ∧ SimT Γ.K O W t m
end

/-- between two steps nothing hidden by L is leaned on -/
theorem keep {c : Cn} {σ : L2.St} {L W : List Nat} {H H' : Hp} (hW : ∀ j ∈ W, j ∈ L) (e : Ex (hide (Own W σ) H) (hide (Own W σ) H')) : Ex (hide (c.msk L σ) H) (hide (c.msk L σ) H') :=
  ex_wide (fun a z => .inr (own_sub hW a z)) e
theorem msk_there {K : PySem.W.Frag} {c : Cn} {O L : List Nat} {s : MS} {σ : L2.St} {H : Hp} (r : R K c O s σ H) (hL : ∀ j ∈ L, j ∈ O) : ∀ a, c.msk L σ a → ∃ o, H a = some o := fun a z => by
  rcases z with z | ⟨i, hi, e⟩
  · exact r.cs a z
  · obtain ⟨p, vs, _, h1, _, h3, _⟩ := r.ow i (hL i hi)
    rw [e] at h1
    cases h1
    exact ⟨_, h3⟩

/-! ### weakenings -/
section
variable {Γ : G} {O L L' W W' : List Nat} {e : Expr} {m : ME}
theorem SimF.toE {K : PySem.W.Frag} {t : TE} {m : MF} (hL : ∀ j ∈ L, j ∈ O) (h : SimF K O L W t m) : SimE K O L W t (xLst m) := fun c σ H s r d s' e Q q => by
  unfold xLst at e
  cases e1 : m s with
  | none => rw [e1] at e; cases e
  | some p =>
    rw [e1] at e
    cases e
    refine h c σ H s r p.1 p.2 e1 Q fun a vs H' hp r' ex ha hd => q _ _ (r'.ex ex_hide0) (ex.trans (ex_hide ex_hide0)) (.lst (.inl (.inl (hide_of (fun z => ?_) ha))) (dpa_ex (ex_hide ex_hide0) hd))
    obtain ⟨o, z⟩ := msk_there r' hL a z
    exact (of_hide z).1 rfl
theorem tr_F {m : MF} (hL : ∀ j ∈ L, j ∈ O) (h : TrF Γ O L W e m) : TrE Γ O L W e (xLst m) := by
  obtain ⟨t, p, q⟩ := h
  exact ⟨t, p, q.toE hL⟩
/-- what stands in a list or tuple -/
def seqOf : D → Option (List D)
  | .list ds => some ds
  | .tuple ds => some ds
  | _ => none
def xSeq (m : ME) : MF := fun s => (m s).bind fun p => (seqOf p.1).map fun ds => (ds, p.2)
theorem xSeq_of {m : ME} {s s' : MS} {ds : List D} (h : xSeq m s = some (ds, s')) : ∃ d, m s = some (d, s') ∧ seqOf d = some ds := by
  unfold xSeq at h
  cases e : m s with
  | none => rw [e] at h; cases h
  | some p =>
    obtain ⟨d, s1⟩ := p
    rw [e] at h
    simp only [Option.bind_some] at h
    cases e2 : seqOf d with
    | none => rw [e2] at h; cases h
    | some es => rw [e2] at h; cases h; exact ⟨d, rfl, e2⟩
theorem seq_dp {K : PySem.W.Frag} {A : Addr → Prop} {H : Hp} {v : V} {d : D} {ds : List D} (h : Rp K (hide A H) v d) (e : seqOf d = some ds) : ∃ p vs, v = .ref p ∧ Sq K (hide A H) p vs ∧ RpAll K (hide A H) vs ds := by
  cases h <;> first | (cases e) | skip
  · exact ⟨_, _, rfl, .inl ‹_›, ‹_›⟩
  · exact ⟨_, _, rfl, .inr ‹_›, ‹_›⟩
theorem tl_E (h : TrE Γ O L W e m) : TrL Γ O L W e (xSeq m) := by
  obtain ⟨t, p, q⟩ := h
  refine ⟨t, p, fun c σ H s r ds s' e Q k => ?_⟩
  obtain ⟨d, e1, e2⟩ := xSeq_of e
  refine q c σ H s r _ _ e1 Q fun v H' r' ex hd => ?_
  obtain ⟨a, vs, rfl, h1, h2⟩ := seq_dp hd e2
  exact k _ _ H' r' ex (sq_ex ex_hide0 h1) h2
end

/-! ### names, constants -/
section
variable {Γ : G} {O L W : List Nat} {pos : Pos}
theorem refl_hide {A : Addr → Prop} {H : Hp} : Ex (hide A H) (hide A H) := Ex.refl _
theorem tr_var {i : Nat} {x : Str} (hN : Γ.N[i]? = some x) (hv : visB Γ.sc x = true) (hi : i ∉ L) (hL : ∀ j ∈ L, j ∈ O) (hd : (x == ("__debug__" : Str)) = false := by decide) (hcd : (x == ("__classdict__" : Str)) = false := by decide) : TrE Γ O L W (.Name x pos) (xVar i) := by
  refine ⟨tVar i, fun X h => pe_var (h.nx hN) (h.vis hv) hd hcd, fun c σ H s r d s' e Q q => ?_⟩
  unfold xVar at e
  cases e1 : s.getD i none with
  | none => rw [e1] at e; cases e
  | some d0 =>
    rw [e1] at e
    cases e
    have e2 : s[i]? = some (some d) := by
      rw [List.getD_eq_getElem?_getD] at e1
      cases e3 : s[i]? with
      | none => rw [e3] at e1; cases e1
      | some o => rw [e3] at e1; exact congrArg some e1
    obtain ⟨v, h1, h2⟩ := r.get hL hi e2
    exact ⟨v, h1, q v H r refl_hide h2⟩
/-- the list of an owned slot, its items -/
def xOwn (i : Nat) : MF := fun s => match s.getD i none with
  | some (.list ds) => some (ds, s)
  | _ => none
theorem xOwn_of {i : Nat} {s s' : MS} {ds : List D} (h : xOwn i s = some (ds, s')) : s[i]? = some (some (.list ds)) ∧ s' = s := by
  unfold xOwn at h
  split at h
  · rename_i e
    cases h
    rw [List.getD_eq_getElem?_getD] at e
    cases e3 : s[i]? with
    | none => rw [e3] at e; cases e
    | some o => rw [e3] at e; exact ⟨congrArg some e, rfl⟩
  · cases h
theorem tl_own {i : Nat} {x : Str} (hN : Γ.N[i]? = some x) (hv : visB Γ.sc x = true) (hi : i ∈ O) (hd : (x == ("__debug__" : Str)) = false := by decide) (hcd : (x == ("__classdict__" : Str)) = false := by decide) : TrL Γ O O W (.Name x pos) (xOwn i) := by
  refine ⟨tVar i, fun X h => pe_var (h.nx hN) (h.vis hv) hd hcd, fun c σ H s r ds s' e Q q => ?_⟩
  obtain ⟨e1, rfl⟩ := xOwn_of e
  obtain ⟨p, vs, ds', h1, h2, h3, h4, _⟩ := r.ow i hi
  rw [h2] at e1
  cases e1
  exact ⟨_, h1, q p vs H r refl_hide (.inl (.inl (.inl h3))) h4⟩
theorem tr_int {i : Int} {j : Nat} : TrE Γ O L W (.Constant (.int i) j pos) (xC (.int i)) := ⟨_, fun _ _ => pe_int, fun c σ H s r d s' e Q q => by cases e; exact q _ H r refl_hide (.int i)⟩
theorem tr_bl {i : Bool} {j : Nat} : TrE Γ O L W (.Constant (.bool i) j pos) (xC (.bool i)) := ⟨_, fun _ _ => pe_bl, fun c σ H s r d s' e Q q => by cases e; exact q _ H r refl_hide (.bl i)⟩
theorem tr_non {j : Nat} : TrE Γ O L W (.Constant .none j pos) (xC .none) := ⟨_, fun _ _ => pe_non, fun c σ H s r d s' e Q q => by cases e; exact q _ H r refl_hide .non⟩
theorem tr_str {i : Str} {j : Nat} : TrE Γ O L W (.Constant (.str i) j pos) (xC (.str i)) := ⟨_, fun _ _ => pe_str, fun c σ H s r d s' e Q q => by cases e; exact q _ H r refl_hide (.str i)⟩
end

/-! ### operations by values -/
/-- scalars out: they lean on nothing -/
def RS (K : PySem.W.Frag) (r : R2) (f : D → D → Option D) : Prop := ∀ (H : Hp) (x y : V) (dx dy dz : D), Rp K H x dx → Rp K H y dy → f dx dy = some dz → ∀ Q : VK, (∀ v, (∀ M, Rp K M v dz) → Q v H) → r x y H Q
/-- anything out, at the same mask -/
def RG (K : PySem.W.Frag) (r : R2) (f : D → D → Option D) : Prop := ∀ (H : Hp) (A : Addr → Prop) (x y : V) (dx dy dz : D), (∀ a, A a → ∃ o, H a = some o) → Rp K (hide A H) x dx → Rp K (hide A H) y dy → f dx dy = some dz → ∀ Q : VK,
  (∀ v H', Ex H H' → Rp K (hide A H') v dz → Q v H') → r x y H Q
theorem RS.g {K : PySem.W.Frag} {r : R2} {f : D → D → Option D} (h : RS K r f) : RG K r f := fun H A x y dx dy dz _ hx hy e Q q =>
  h H x y dx dy dz (dp_ex ex_hide0 hx) (dp_ex ex_hide0 hy) e Q fun v hv => q v H (Ex.refl H) (hv _)
theorem xOp_of {f : D → D → Option D} {a b : ME} {s s' : MS} {d : D} (h : xOp f a b s = some (d, s')) : ∃ x s1 y, a s = some (x, s1) ∧ b s1 = some (y, s') ∧ f x y = some d := by
  unfold xOp at h
  cases e1 : a s with
  | none => rw [e1] at h; cases h
  | some p =>
    rw [e1] at h
    simp only [Option.bind_some] at h
    cases e2 : b p.2 with
    | none => rw [e2] at h; cases h
    | some q =>
      rw [e2] at h
      simp only [Option.bind_some] at h
      cases e3 : f p.1 q.1 with
      | none => rw [e3] at h; cases h
      | some z =>
        rw [e3] at h
        cases h
        exact ⟨p.1, p.2, q.1, rfl, e2, e3⟩
theorem xUn_of {f : D → Option D} {a : ME} {s s' : MS} {d : D} (h : xUn f a s = some (d, s')) : ∃ x, a s = some (x, s') ∧ f x = some d := by
  unfold xUn at h
  cases e1 : a s with
  | none => rw [e1] at h; cases h
  | some p =>
    rw [e1] at h
    simp only [Option.bind_some] at h
    cases e3 : f p.1 with
    | none => rw [e3] at h; cases h
    | some z =>
      rw [e3] at h
      cases h
      exact ⟨p.1, rfl, e3⟩
section
variable {K : PySem.W.Frag} {O L L0 W : List Nat} {ta tb : TE} {ma mb : ME} {r : R2} {f : D → D → Option D}
theorem sim_opS (hr : RS K r f) (ha : SimE K O L0 W ta ma) (hb : SimE K O L0 W tb mb) (hW : ∀ j ∈ W, j ∈ L0) : SimE K O L W (tOp r ta tb) (xOp f ma mb) := fun c σ H s r0 d s' e Q q => by
  obtain ⟨x, s1, y, e1, e2, e3⟩ := xOp_of e
  refine ha c σ H s r0 x s1 e1 _ fun v H1 r1 x1 d1 => ?_
  refine hb c σ H1 s1 r1 y s' e2 _ fun u H2 r2 x2 d2 => ?_
  exact hr H2 v u x y d (dp_ex ex_hide0 (dp_ex (keep hW x2) d1)) (dp_ex ex_hide0 d2) e3 Q fun z hz => q z H2 r2 (x1.trans x2) (hz _)
theorem sim_opG (hr : RG K r f) (ha : SimE K O L W ta ma) (hb : SimE K O L W tb mb) (hW : ∀ j ∈ W, j ∈ L) (hL : ∀ j ∈ L, j ∈ O) : SimE K O L W (tOp r ta tb) (xOp f ma mb) := fun c σ H s r0 d s' e Q q => by
  obtain ⟨x, s1, y, e1, e2, e3⟩ := xOp_of e
  refine ha c σ H s r0 x s1 e1 _ fun v H1 r1 x1 d1 => ?_
  refine hb c σ H1 s1 r1 y s' e2 _ fun u H2 r2 x2 d2 => ?_
  exact hr H2 _ v u x y d (msk_there r2 hL) (dp_ex (keep hW x2) d1) d2 e3 Q fun z H3 x3 hz => q z H3 (r2.ex x3) ((x1.trans x2).trans (ex_hide x3)) hz
end
section
variable {Γ : G} {O L L0 W : List Nat} {a b : Expr} {ma mb : ME} {r : R2} {f : D → D → Option D} {pos : Pos}
theorem tr_opS {op : Operator} (ho : ∀ X, InG Γ X → OpR X (binaryOp op) r) (hr : RS Γ.K r f) (ha : TrE Γ O L0 W a ma) (hb : TrE Γ O L0 W b mb) (hW : ∀ j ∈ W, j ∈ L0) : TrE Γ O L W (.BinOp a op b pos) (xOp f ma mb) := by
  obtain ⟨ta, pa, sa⟩ := ha
  obtain ⟨tb, pb, sb⟩ := hb
  exact ⟨tOp r ta tb, fun X h => pe_op (ho X h) (pa X h) (pb X h), sim_opS hr sa sb hW⟩
theorem tr_opG {op : Operator} (ho : ∀ X, InG Γ X → OpR X (binaryOp op) r) (hr : RG Γ.K r f) (ha : TrE Γ O L W a ma) (hb : TrE Γ O L W b mb) (hW : ∀ j ∈ W, j ∈ L) (hL : ∀ j ∈ L, j ∈ O) : TrE Γ O L W (.BinOp a op b pos) (xOp f ma mb) := by
  obtain ⟨ta, pa, sa⟩ := ha
  obtain ⟨tb, pb, sb⟩ := hb
  exact ⟨tOp r ta tb, fun X h => pe_op (ho X h) (pa X h) (pb X h), sim_opG hr sa sb hW hL⟩
theorem tr_cmp {op : CmpOp} (ho : ∀ X, InG Γ X → OpR X (compareOp op) r) (hr : RS Γ.K r f) (ha : TrE Γ O L0 W a ma) (hb : TrE Γ O L0 W b mb) (hW : ∀ j ∈ W, j ∈ L0) (hm : behindInMarks op b = false) : TrE Γ O L W (.Compare a [op] [b] pos) (xOp f ma mb) := by
  obtain ⟨ta, pa, sa⟩ := ha
  obtain ⟨tb, pb, sb⟩ := hb
  exact ⟨tOp r ta tb, fun X h => pe_cmpR (ho X h) (pa X h) (pb X h) hm, sim_opS hr sa sb hW⟩
theorem xT_of {m : ME} {s s' : MS} {b : Bool} (h : xT m s = some (b, s')) : m s = some (.bool b, s') := by
  unfold xT at h
  cases e : m s with
  | none => rw [e] at h; cases h
  | some p =>
    obtain ⟨d, s1⟩ := p
    rw [e] at h
    cases d <;> first | (cases h; rfl) | (cases h)
theorem sim_test {K : PySem.W.Frag} {t : TE} {m : ME} (h : SimE K O L W t m) : SimT K O W (tTest t) (xT m) := fun c σ H s r b s' e Q q => by
  refine h c σ H s r _ _ (xT_of e) _ fun v H' r' x' d' => ?_
  cases d'
  exact ⟨b, rfl, q H' r' x'⟩
theorem tt_cmp {op : CmpOp} (ho : ∀ X, InG Γ X → OpR X (compareOp op) r) (hr : RS Γ.K r f) (ha : TrE Γ O L0 W a ma) (hb : TrE Γ O L0 W b mb) (hW : ∀ j ∈ W, j ∈ L0) (hm : behindInMarks op b = false) : TrT Γ O W (.Compare a [op] [b] pos) (xT (xOp f ma mb)) := by
  obtain ⟨ta, pa, sa⟩ := ha
  obtain ⟨tb, pb, sb⟩ := hb
  exact ⟨tTest (tOp r ta tb), fun X h => pt_cmpR (ho X h) (pa X h) (pb X h) hm, sim_test (L := []) (sim_opS hr sa sb hW)⟩
/-- an expression that gives a bool, as a test -/
theorem tt_val {e : Expr} {m : ME} (h : TrE Γ O L W e m) (he : ∀ (env : Env) whole, isTrue e env whole = (do let v ← whole; standAt e.pos; holding [v] (truthy v)) := by intro _ _; rfl) : TrT Γ O W e (xT m) := by
  obtain ⟨t, p, q⟩ := h
  exact ⟨tB t, fun X h => pt_val (p X h) (he X.env), sim_test q⟩
end
end Z


namespace Z
open PySem PySem.Spec PyProof.Rows L2

/-! ### plain operations -/
def dAdd : D → D → Option D
  | .int a, .int b => some (.int (a + b))
  | .str a, .str b => if a.length + b.length ≤ sizeLine then some (.str (a ++ b)) else none
  | .int a, .bool b => some (.int (a + b2i b))
  | _, _ => none
def dSub : D → D → Option D
  | .int a, .int b => some (.int (a - b))
  | _, _ => none
def dMul : D → D → Option D
  | .int a, .int b => if (-(2 ^ 64) < a ∧ a < 2 ^ 64) ∨ (-(2 ^ 64) < b ∧ b < 2 ^ 64) then some (.int (a * b)) else none
  | _, _ => none
def dMod : D → D → Option D
  | .int a, .int b => if 0 < b then some (.int (a % b)) else none
  | _, _ => none
def dDiv : D → D → Option D
  | .int a, .int b => if 0 < b ∧ b < 1073741824 then some (.int (a / b)) else none
  | _, _ => none
def dPow : D → D → Option D
  | .int a, .int b => if 0 ≤ b ∧ b ≤ 1000000 ∧ a.natAbs < 2 ^ 64 then some (.int (a ^ b.toNat)) else none
  | _, _ => none
def dEq (x y : D) : Option D := if SeqAt.shaped x = true ∧ SeqAt.shaped y = true then some (.bool (PyData.eqv x y)) else none
def dNe (x y : D) : Option D := if SeqAt.shaped x = true ∧ SeqAt.shaped y = true then some (.bool (!PyData.eqv x y)) else none
def dLt : D → D → Option D
  | .int a, .int b => some (.bool (decide (a < b)))
  | _, _ => none
def dLe : D → D → Option D
  | .int a, .int b => some (.bool (decide (a ≤ b)))
  | _, _ => none
def dGt : D → D → Option D
  | .int a, .int b => some (.bool (decide (a > b)))
  | _, _ => none
def dGe : D → D → Option D
  | .int a, .int b => some (.bool (decide (a ≥ b)))
  | _, _ => none
def flatD : D → Bool
  | .none => true
  | .bool _ => true
  | .int _ => true
  | .str _ => true
  | _ => false
def inD (x : D) (xs : List D) : Bool := xs.any fun y => PyData.eqv y x
def dIn (neg : Bool) (x y : D) : Option D := (seqOf y).bind fun ys => if flatD x = true ∧ ys.all flatD = true then some (.bool (if neg then !inD x ys else inD x ys)) else none
def dIx : D → D → Option D
  | .list xs, .int i => atI xs i
  | .tuple xs, .int i => atI xs i
  | .str z, .int i => if z.length ≤ sizeLine then (atI z.cps.toList i).map fun c => .str ⟨#[c]⟩ else none
  | _, _ => none

section
variable {K : PySem.W.Frag}
def rAddA : R2 := fun x y H Q => (rI0 (fun i j => .int (i + j)) x y H Q ∨ (∃ i j, x = .str i ∧ y = .str j ∧ i.length + j.length ≤ sizeLine ∧ Q (.str (i ++ j)) H)) ∨ (∃ i k, x = .int i ∧ y = .bl k ∧ Q (.int (i + b2i k)) H)
theorem op_addA {X : Cx} : OpR X (binaryOp .Add) rAddA := (op_add.or op_add_str).or op_add_ib
theorem rs_add : RS K rAddA dAdd := fun H x y dx dy dz hx hy e Q q => by
  cases hx <;> cases hy <;> first | (cases e; done) | skip
  · cases e; exact .inr ⟨_, _, rfl, rfl, q _ fun M => .int _⟩
  · cases e; exact .inl (.inl ⟨_, _, rfl, rfl, q _ fun M => .int _⟩)
  · simp only [dAdd] at e
    split at e
    · cases e
      exact .inl (.inr ⟨_, _, rfl, rfl, ‹_›, q _ fun M => .str _⟩)
    · cases e
theorem rs_int {C : Int → Int → Prop} {g : Int → Int → Int} {f : D → D → Option D} (hf : ∀ dx dy dz, f dx dy = some dz → ∃ i j, dx = .int i ∧ dy = .int j ∧ C i j ∧ dz = .int (g i j)) : RS K (rI C fun i j => .int (g i j)) f := fun H x y dx dy dz hx hy e Q q => by
  obtain ⟨i, j, rfl, rfl, hc, rfl⟩ := hf _ _ _ e
  cases hx; cases hy
  exact ⟨i, j, rfl, rfl, hc, q _ fun M => .int _⟩
theorem rs_cmp {g : Int → Int → Bool} {f : D → D → Option D} (hf : ∀ dx dy dz, f dx dy = some dz → ∃ i j, dx = .int i ∧ dy = .int j ∧ dz = .bool (g i j)) : RS K (rI0 fun i j => .bl (g i j)) f := fun H x y dx dy dz hx hy e Q q => by
  obtain ⟨i, j, rfl, rfl, rfl⟩ := hf _ _ _ e
  cases hx; cases hy
  exact ⟨i, j, rfl, rfl, q _ fun M => .bl _⟩
theorem rs_sub : RS K (rI0 fun i j => .int (i - j)) dSub := fun H x y dx dy dz hx hy e Q q => by
  cases hx <;> cases hy <;> cases e
  exact ⟨_, _, rfl, rfl, q _ fun M => .int _⟩
theorem rs_mul : RS K (rI CMul fun i j => .int (i * j)) dMul := rs_int fun dx dy dz e => by
  cases dx <;> cases dy <;> first | (cases e; done) | skip
  simp only [dMul] at e; split at e
  · cases e; exact ⟨_, _, rfl, rfl, ‹_›, rfl⟩
  · cases e
theorem rs_mod : RS K (rI (fun _ j => 0 < j) fun i j => .int (i % j)) dMod := rs_int fun dx dy dz e => by
  cases dx <;> cases dy <;> first | (cases e; done) | skip
  simp only [dMod] at e; split at e
  · cases e; exact ⟨_, _, rfl, rfl, ‹_›, rfl⟩
  · cases e
theorem rs_div : RS K (rI CDiv fun i j => .int (i / j)) dDiv := rs_int fun dx dy dz e => by
  cases dx <;> cases dy <;> first | (cases e; done) | skip
  simp only [dDiv] at e; split at e
  · cases e; exact ⟨_, _, rfl, rfl, ‹_›, rfl⟩
  · cases e
theorem rs_pow : RS K (rI CPow fun i j => .int (i ^ j.toNat)) dPow := rs_int fun dx dy dz e => by
  cases dx <;> cases dy <;> first | (cases e; done) | skip
  simp only [dPow] at e; split at e
  · cases e; exact ⟨_, _, rfl, rfl, ‹_›, rfl⟩
  · cases e
theorem rs_lt : RS K (rI0 fun i j => .bl (decide (i < j))) dLt := rs_cmp fun dx dy dz e => by cases dx <;> cases dy <;> cases e; exact ⟨_, _, rfl, rfl, rfl⟩
theorem rs_le : RS K (rI0 fun i j => .bl (decide (i ≤ j))) dLe := rs_cmp fun dx dy dz e => by cases dx <;> cases dy <;> cases e; exact ⟨_, _, rfl, rfl, rfl⟩
theorem rs_gt : RS K (rI0 fun i j => .bl (decide (i > j))) dGt := rs_cmp fun dx dy dz e => by cases dx <;> cases dy <;> cases e; exact ⟨_, _, rfl, rfl, rfl⟩
theorem rs_ge : RS K (rI0 fun i j => .bl (decide (i ≥ j))) dGe := rs_cmp fun dx dy dz e => by cases dx <;> cases dy <;> cases e; exact ⟨_, _, rfl, rfl, rfl⟩
theorem rs_eq : RS K (rEqD K) dEq := fun H x y dx dy dz hx hy e Q q => by
  unfold dEq at e; split at e
  · rename_i h; cases e; exact ⟨_, _, hx.dp, hy.dp, h.1, h.2, q _ fun M => .bl _⟩
  · cases e
theorem rs_ne : RS K (rNeD K) dNe := fun H x y dx dy dz hx hy e Q q => by
  unfold dNe at e; split at e
  · rename_i h; cases e; exact ⟨_, _, hx.dp, hy.dp, h.1, h.2, q _ fun M => .bl _⟩
  · cases e
theorem flat_dp {H : Hp} {v : V} {d : D} (h : Rp K H v d) (f : flatD d = true) : flatV v = true := by cases h <;> first | rfl | cases f
theorem flat_any {H H' : Hp} {v : V} {d : D} (h : Rp K H v d) (f : flatD d = true) : Rp K H' v d := by
  cases h <;> first | (cases f; done) | skip
  · exact .non
  · exact .bl _
  · exact .int _
  · exact .str _
theorem eqv_dp {H : Hp} {v u : V} {d e : D} (h : Rp K H v d) (g : Rp K H u e) (f1 : flatD d = true) (f2 : flatD e = true) : eqV v u = PyData.eqv d e := by
  cases h <;> cases g <;> first | (cases f1; done) | (cases f2; done) | skip
  all_goals (simp only [eqV, PyData.eqv])
theorem flat_all {H : Hp} : ∀ {vs : List V} {ds : List D}, RpAll K H vs ds → ds.all flatD = true → vs.all flatV = true
  | _, _, .nil, _ => rfl
  | _, _, .cons h a, f => by
    rw [List.all_cons, Bool.and_eq_true] at f ⊢
    exact ⟨flat_dp h f.1, flat_all a f.2⟩
theorem in_dp {H : Hp} {x : V} {dx : D} (hx : Rp K H x dx) (fx : flatD dx = true) : ∀ {vs : List V} {ds : List D}, RpAll K H vs ds → ds.all flatD = true → inV x vs = inD dx ds
  | _, _, .nil, _ => rfl
  | _, _, .cons h a, f => by
    rw [List.all_cons, Bool.and_eq_true] at f
    have ih := in_dp hx fx a f.2
    unfold inV inD at ih ⊢
    rw [List.any_cons, List.any_cons, ih, eqv_dp h hx f.1 fx]
theorem seq_dp' {H : Hp} {v : V} {d : D} {ds : List D} (h : Rp K H v d) (e : seqOf d = some ds) : ∃ p vs, v = .ref p ∧ Sq K H p vs ∧ RpAll K H vs ds := by
  cases h <;> first | (cases e) | skip
  · exact ⟨_, _, rfl, .inl ‹_›, ‹_›⟩
  · exact ⟨_, _, rfl, .inr ‹_›, ‹_›⟩
theorem rs_in (neg : Bool) : RS K (rIn K neg) (dIn neg) := fun H x y dx dy dz hx hy e Q q => by
  unfold dIn at e
  cases e1 : seqOf dy with
  | none => rw [e1] at e; cases e
  | some ys =>
    rw [e1] at e
    simp only [Option.bind_some] at e
    split at e
    · rename_i h
      cases e
      obtain ⟨p, vs, rfl, h1, h2⟩ := seq_dp' hy e1
      refine ⟨p, vs, rfl, h1.sq, flat_dp hx h.1, flat_all h2 h.2, ?_⟩
      rw [in_dp hx h.1 h2 h.2]
      exact q _ fun M => .bl _
    · cases e
theorem dpa_at {H : Hp} {vs : List V} {ds : List D} {i : Int} {d : D} (a : RpAll K H vs ds) (e : atI ds i = some d) : ∃ v, atI vs i = some v ∧ Rp K H v d := by
  unfold atI at e ⊢
  rw [dpa_len a]
  cases e1 : ixN ds.length i with
  | none => rw [e1] at e; cases e
  | some j =>
    rw [e1] at e
    obtain ⟨v, h1, h2⟩ := dpa_get (i := j) a e
    exact ⟨v, h1, h2⟩
theorem rg_ix : RG K (rIx K) dIx := fun H A x y dx dy dz hA hx hy e Q q => by
  unfold dIx at e
  split at e
  · rename_i xs i
    cases hy
    cases hx with
    | lst h a =>
      obtain ⟨v, h1, h2⟩ := dpa_at a e
      exact .inl ⟨_, _, i, v, rfl, rfl, sql_ex ex_hide0 h, h1, q v H (Ex.refl H) h2⟩
  · rename_i xs i
    cases hy
    cases hx with
    | tup h a =>
      obtain ⟨v, h1, h2⟩ := dpa_at a e
      exact .inr (.inl ⟨_, _, i, v, rfl, rfl, sqt_ex ex_hide0 h, h1, q v H (Ex.refl H) h2⟩)
  · rename_i z i
    cases hy
    cases hx
    split at e
    · cases e1 : atI z.cps.toList i with
      | none => rw [e1] at e; cases e
      | some c =>
        rw [e1] at e
        cases e
        exact .inr (.inr ⟨z, i, c, rfl, rfl, ‹_›, e1, q _ H (Ex.refl H) (.str _)⟩)
    · cases e
  · cases e
end

/-! ### subscripts -/
section
variable {Γ : G} {O L L0 W : List Nat} {a b e : Expr} {ma mb : ME} {pos : Pos}
theorem tr_ix (ha : TrE Γ O L W a ma) (hb : TrE Γ O L W b mb) (hW : ∀ j ∈ W, j ∈ L) (hL : ∀ j ∈ L, j ∈ O) (hs : PlainIx b := by exact fun _ _ => rfl) : TrE Γ O L W (.Subscript a b pos) (xOp dIx ma mb) := by
  obtain ⟨ta, pa, sa⟩ := ha
  obtain ⟨tb, pb, sb⟩ := hb
  exact ⟨tOp (rIx Γ.K) ta tb, fun X h => by rw [← h.K]; exact pe_ix ix_seq (pa X h) (pb X h) hs, sim_opG rg_ix sa sb hW hL⟩
/-- an item of an owned list -/
def xIxOwn (i : Nat) (b : ME) : ME := fun s => (b s).bind fun q => match q.1, q.2.getD i none with
  | .int k, some (.list ds) => (atI ds k).map fun z => (z, q.2)
  | _, _ => none
theorem xIxOwn_of {i : Nat} {b : ME} {s s' : MS} {d : D} (h : xIxOwn i b s = some (d, s')) : ∃ k ds, b s = some (.int k, s') ∧ s'[i]? = some (some (.list ds)) ∧ atI ds k = some d := by
  unfold xIxOwn at h
  cases e : b s with
  | none => rw [e] at h; cases h
  | some q =>
    rw [e] at h
    simp only [Option.bind_some] at h
    split at h
    · rename_i k ds e1 e2
      cases e3 : atI ds k with
      | none => rw [e3] at h; cases h
      | some z =>
        rw [e3] at h
        cases h
        refine ⟨k, ds, by rw [← e1], ?_, e3⟩
        rw [List.getD_eq_getElem?_getD] at e2
        cases e4 : q.2[i]? with
        | none => rw [e4] at e2; cases e2
        | some o => rw [e4] at e2; exact congrArg some e2
    · cases h
theorem tr_ixOwn {i : Nat} {x : Str} {px : Pos} (hN : Γ.N[i]? = some x) (hv : visB Γ.sc x = true) (hi : i ∈ O) (hL : ∀ j ∈ L, j ∈ O) (hb : TrE Γ O L0 W b mb) (hs : PlainIx b := by exact fun _ _ => rfl) (hd : (x == ("__debug__" : Str)) = false := by decide) (hcd : (x == ("__classdict__" : Str)) = false := by decide) :
    TrE Γ O L W (.Subscript (.Name x px) b pos) (xIxOwn i mb) := by
  obtain ⟨tb, pb, sb⟩ := hb
  refine ⟨tOp (rIx Γ.K) (tVar i) tb, fun X h => by rw [← h.K]; exact pe_ix ix_seq (pe_var (h.nx hN) (h.vis hv) hd hcd) (pb X h) hs, fun c σ H s r d s' e Q q => ?_⟩
  obtain ⟨k, ds, e1, e2, e3⟩ := xIxOwn_of e
  obtain ⟨p, vs, _, h1, _⟩ := r.ow i hi
  refine ⟨.ref p, h1, ?_⟩
  refine sb c σ H s r _ _ e1 _ fun u H1 r1 x1 d1 => ?_
  cases d1
  obtain ⟨p', vs', ds', k1, k2, k3, k4, _⟩ := r1.ow i hi
  rw [h1] at k1
  cases k1
  rw [e2] at k2
  cases k2
  obtain ⟨v, g1, g2⟩ := dpa_at k4 e3
  exact .inl ⟨p, vs', k, v, rfl, rfl, .inl (.inl k3), g1, q v H1 r1 x1 (dp_ex (ex_hide_sub (msk_sub hL)) g2)⟩
end
end Z


namespace Z
open PySem PySem.Spec PyProof.Rows L2

/-! ## lists that are read: L (list or tuple), B (a list); they stay while W is written -/
def SimQ (K : PySem.W.Frag) (O L W : List Nat) (t : TE) (m : MF) : Prop := ∀ (c : Cn) (σ : L2.St) (H : Hp) (s : MS), R K c O s σ H → ∀ ds s', m s = some (ds, s') → ∀ Q : VK,
  (∀ p vs H', R K c O s' σ H' → Ex (hide (Own W σ) H) (hide (Own W σ) H') → Sq K (hide (Own W σ) H') p vs → RpAll K (hide (c.msk L σ) H') vs ds → Q (.ref p) H') → t σ H Q
def SimB (K : PySem.W.Frag) (O L W : List Nat) (t : TE) (m : MF) : Prop := ∀ (c : Cn) (σ : L2.St) (H : Hp) (s : MS), R K c O s σ H → ∀ ds s', m s = some (ds, s') → ∀ Q : VK,
  (∀ p vs H', R K c O s' σ H' → Ex (hide (Own W σ) H) (hide (Own W σ) H') → SqL K (hide (Own W σ) H') p vs → RpAll K (hide (c.msk L σ) H') vs ds → Q (.ref p) H') → t σ H Q
section
variable (Γ : G) (O L W : List Nat)
def TrQ (e : Expr) (m : MF) : Prop := ∃ t, (∀ X, InG Γ X → PE X e t) ∧ SimQ Γ.K O L W t m
def TrB (e : Expr) (m : MF) : Prop := ∃ t, (∀ X, InG Γ X → PE X e t) ∧ SimB Γ.K O L W t m
end
def xList (m : ME) : MF := fun s => (m s).bind fun p => match p.1 with
  | .list ds => some (ds, p.2)
  | _ => none
theorem xList_of {m : ME} {s s' : MS} {ds : List D} (h : xList m s = some (ds, s')) : m s = some (.list ds, s') := by
  unfold xList at h
  cases e : m s with
  | none => rw [e] at h; cases h
  | some p =>
    obtain ⟨d, s1⟩ := p
    rw [e] at h
    cases d <;> first | (cases h; rfl) | (cases h)
section
variable {Γ : G} {O L W : List Nat} {e : Expr} {m : ME} {pos : Pos}
theorem own_msk {c : Cn} {σ : L2.St} (hW : ∀ j ∈ W, j ∈ L) : ∀ a, Own W σ a → c.msk L σ a := fun a z => .inr (own_sub hW a z)
theorem tq_E (hW : ∀ j ∈ W, j ∈ L) (h : TrE Γ O L W e m) : TrQ Γ O L W e (xSeq m) := by
  obtain ⟨t, p, q⟩ := h
  refine ⟨t, p, fun c σ H s r ds s' e Q k => ?_⟩
  obtain ⟨d, e1, e2⟩ := xSeq_of e
  refine q c σ H s r _ _ e1 Q fun v H' r' ex hd => ?_
  obtain ⟨a, vs, rfl, h1, h2⟩ := seq_dp hd e2
  exact k _ _ H' r' ex (sq_ex (ex_hide_sub (own_msk hW)) h1) h2
theorem tb_E (hW : ∀ j ∈ W, j ∈ L) (h : TrE Γ O L W e m) : TrB Γ O L W e (xList m) := by
  obtain ⟨t, p, q⟩ := h
  refine ⟨t, p, fun c σ H s r ds s' e Q k => q c σ H s r _ _ (xList_of e) Q fun v H' r' ex hd => ?_⟩
  cases hd with
  | lst h a => exact k _ _ H' r' ex (sql_ex (ex_hide_sub (own_msk hW)) h) a
theorem tq_B {m : MF} (h : TrB Γ O L W e m) : TrQ Γ O L W e m := by
  obtain ⟨t, p, q⟩ := h
  exact ⟨t, p, fun c σ H s r ds s' e Q k => q c σ H s r _ _ e Q fun v vs H' r' ex hd => k v vs H' r' ex (.inl hd)⟩
theorem tb_own {i : Nat} {x : Str} (hN : Γ.N[i]? = some x) (hv : visB Γ.sc x = true) (hi : i ∈ O) (hW : ∀ j ∈ W, j ∈ O) (hiW : i ∉ W) (hd : (x == ("__debug__" : Str)) = false := by decide) (hcd : (x == ("__classdict__" : Str)) = false := by decide) : TrB Γ O O W (.Name x pos) (xOwn i) := by
  refine ⟨tVar i, fun X h => pe_var (h.nx hN) (h.vis hv) hd hcd, fun c σ H s r ds s' e Q q => ?_⟩
  obtain ⟨e1, rfl⟩ := xOwn_of e
  obtain ⟨p, vs, ds', h1, h2, h3, h4, _⟩ := r.ow i hi
  rw [h2] at e1
  cases e1
  exact ⟨_, h1, q p vs H r refl_hide (.inl (.inl (hide_of (fun ⟨j, hj, e⟩ => hiW (r.nd i j p hi (hW j hj) h1 e ▸ hj)) h3))) h4⟩
theorem tb_F {m : MF} (hW : ∀ j ∈ W, j ∈ O) (h : TrF Γ O L W e m) : TrB Γ O L W e m := by
  obtain ⟨t, p, q⟩ := h
  refine ⟨t, p, fun c σ H s r ds s' e Q k => q c σ H s r _ _ e Q fun p vs H' hp r' ex ha hd => k p vs H' (r'.ex ex_hide0) (ex.trans (ex_hide ex_hide0)) (.inl (.inl (hide_of (fun ⟨j, hj, e⟩ => ?_) ha))) (dpa_ex (ex_hide ex_hide0) hd)⟩
  obtain ⟨p', vs', _, h1, _, h3, _⟩ := r'.ow j (hW j hj)
  rw [e] at h1
  cases h1
  exact (of_hide h3).1 rfl
end

/-! ## argument lists, displays -/
section
variable {Γ : G} {O L W : List Nat} {e : Expr} {es : List Expr} {m : ME} {ms : MF} {pos : Pos}
theorem ta_nil : TrA Γ O L W [] xaNil := ⟨tNil, fun _ _ => pa_nil, fun c σ H s r ds s' e Q q => by cases e; exact q [] H r refl_hide .nil⟩
theorem xaCons_of {s s' : MS} {ds : List D} (h : xaCons m ms s = some (ds, s')) : ∃ d s1 es, m s = some (d, s1) ∧ ms s1 = some (es, s') ∧ ds = d :: es := by
  unfold xaCons at h
  cases e1 : m s with
  | none => rw [e1] at h; cases h
  | some p =>
    rw [e1] at h
    simp only [Option.bind_some] at h
    cases e2 : ms p.2 with
    | none => rw [e2] at h; cases h
    | some q => rw [e2] at h; cases h; exact ⟨p.1, p.2, q.1, rfl, e2, rfl⟩
theorem ta_cons (h : TrE Γ O L W e m) (hs : TrA Γ O L W es ms) (hW : ∀ j ∈ W, j ∈ L) (hst : ∀ env : Env, starEach (e :: es) env = (false, eval e env) :: starEach es env := by intro _; rfl) : TrA Γ O L W (e :: es) (xaCons m ms) := by
  obtain ⟨t, p, q⟩ := h
  obtain ⟨ts, ps, qs⟩ := hs
  refine ⟨tCons t ts, fun X h => pa_cons (p X h) (ps X h) (hst X.env), fun c σ H s r ds s' e Q k => ?_⟩
  obtain ⟨d, s1, es, e1, e2, rfl⟩ := xaCons_of e
  refine q c σ H s r _ _ e1 _ fun v H1 r1 x1 d1 => ?_
  refine qs c σ H1 s1 r1 _ _ e2 _ fun vs H2 r2 x2 d2 => ?_
  exact k _ H2 r2 (x1.trans x2) (.cons (dp_ex (keep hW x2) d1) d2)
def xDisp (m : MF) : MF := fun s => (m s).bind fun p => if p.1.length ≤ 1000 then some p else none
theorem xDisp_of {s s' : MS} {ds : List D} (h : xDisp ms s = some (ds, s')) : ms s = some (ds, s') ∧ ds.length ≤ 1000 := by
  unfold xDisp at h
  cases e1 : ms s with
  | none => rw [e1] at h; cases h
  | some p =>
    rw [e1] at h
    simp only [Option.bind_some] at h
    split at h
    · cases h; exact ⟨rfl, ‹_›⟩
    · cases h
theorem sz1000 {n : Nat} (h : n ≤ 1000) : n ≤ sizeLine := Nat.le_trans h (by decide)
/-- a new list at p -/
theorem simF_new {K : PySem.W.Frag} {c : Cn} {σ : L2.St} {H H1 : Hp} {s' : MS} {ds : List D} {Q : VK} {vs : List V} (r1 : R K c O s' σ H1) (x1 : Ex (hide (Own W σ) H) (hide (Own W σ) H1)) (fr : ∀ p, H1 p = none → H p = none) (d1 : RpAll K (hide (c.msk L σ) H1) vs ds)
    (q : ∀ p vs H', H p = none → R K c O s' σ (hide (· = p) H') → Ex (hide (Own W σ) H) (hide (Own W σ) (hide (· = p) H')) → H' p = some (.lst vs) → RpAll K (hide (c.msk L σ) (hide (· = p) H')) vs ds → Q (.ref p) H') :
    ∀ p, H1 p = none → Q (.ref p) (upd H1 p (.lst vs)) := fun p hp => by
  refine q p vs _ (fr p hp) ?_ ?_ upd_same ?_
  · rw [hide_upd hp]; exact r1
  · rw [hide_upd hp]; exact x1
  · rw [hide_upd hp]; exact d1
/-- what is tracked stays tracked -/
theorem fresh_of {K : PySem.W.Frag} {c : Cn} {σ : L2.St} {H H1 : Hp} {s : MS} (r1 : R K c O s σ H1) (hW : ∀ j ∈ W, j ∈ O) (x1 : Ex (hide (Own W σ) H) (hide (Own W σ) H1)) : ∀ p, H1 p = none → H p = none := fun p hp => by
  cases e : H p with
  | none => rfl
  | some o =>
    by_cases z : Own W σ p
    · obtain ⟨j, hj, e1⟩ := z
      obtain ⟨p', vs, _, h1, _, h3, _⟩ := r1.ow j (hW j hj)
      rw [e1] at h1
      cases h1
      rw [hp] at h3
      cases h3
    · rw [(of_hide (x1 p o (hide_of z e))).2] at hp
      cases hp
theorem tf_disp (hs : TrA Γ O L W es ms) (hW : ∀ j ∈ W, j ∈ O) : TrF Γ O L W (.List es pos) (xDisp ms) := by
  obtain ⟨ts, ps, qs⟩ := hs
  refine ⟨tLst ts, fun X h => pe_lst (ps X h), fun c σ H s r ds s' e Q q => ?_⟩
  obtain ⟨e1, hl⟩ := xDisp_of e
  exact qs c σ H s r _ _ e1 _ fun vs H1 r1 x1 d1 => ⟨sz1000 (by rw [dpa_len d1]; exact hl), simF_new r1 x1 (fresh_of r1 hW x1) d1 q⟩
theorem xTup_of {s s' : MS} {d : D} (h : xTup ms s = some (d, s')) : ∃ ds, ms s = some (ds, s') ∧ ds.length ≤ 1000 ∧ d = .tuple ds := by
  unfold xTup at h
  cases e1 : ms s with
  | none => rw [e1] at h; cases h
  | some p =>
    rw [e1] at h
    simp only [Option.bind_some] at h
    split at h
    · cases h; exact ⟨p.1, rfl, ‹_›, rfl⟩
    · cases h
theorem tr_tup {k : Nat} (hs : TrA Γ O L W es ms) (hL : ∀ j ∈ L, j ∈ O) : TrE Γ O L W (.Tuple es k pos) (xTup ms) := by
  obtain ⟨ts, ps, qs⟩ := hs
  refine ⟨tTup ts, fun X h => pe_tup (ps X h), fun c σ H s r d s' e Q q => ?_⟩
  obtain ⟨ds, e1, hl, rfl⟩ := xTup_of e
  refine qs c σ H s r _ _ e1 _ fun vs H1 r1 x1 d1 => ⟨sz1000 (by rw [dpa_len d1]; exact hl), fun p hp => ?_⟩
  have x2 := ex_upd (o := HO.tup vs) hp
  refine q _ _ (r1.ex x2) (x1.trans (ex_hide x2)) (.tup (.inl (.inl (hide_of (fun z => ?_) upd_same))) (dpa_ex (ex_hide x2) d1))
  obtain ⟨o, z⟩ := msk_there r1 hL p z
  rw [hp] at z; cases z
end

/-! ## list + list, list(..), slices -/
theorem op_catR {X : Cx} : OpR X (binaryOp .Add) (fun x y H Q => ∃ l b xs zs, x = .ref l ∧ y = .ref b ∧ SqL X.K H l xs ∧ SqL X.K H b zs ∧ xs.length + zs.length ≤ sizeLine ∧ ∀ p, H p = none → Q (.ref p) (upd H p (.lst (xs ++ zs)))) := by
  intro pins s σ H x y v u Q I rx ry h
  obtain ⟨l, b, xs, zs, rfl, rfl, hH, hB, hz, q⟩ := h
  cases rx
  cases ry
  obtain ⟨its, r, ⟨⟨cls, dd, data, sl⟩, n, ho, hc, hdn, hd⟩, _⟩ := I.list hH
  obtain ⟨its2, r2, ⟨⟨cls2, dd2, data2, sl2⟩, n2, ho2, hc2, hdn2, hd2⟩, _⟩ := I.list hB
  simp only at hc hd hc2 hd2
  subst hc hd hc2 hd2
  have hl := r.length
  have hl2 := r2.length
  have ea : its.toArray ++ its2.toArray = (its ++ its2).toArray := by simp
  refine concat_meets ⟨_, ho, rfl⟩ ⟨_, ho2, rfl⟩ noFill_list_add seq_list_add PySem.F.slot_list_add PySem.F.entry_list_add (PySem.F.args_list_add_2 _ _) (list_addW l b its.toArray its2.toArray n n2 dd dd2 sl sl2 (by rw [List.size_toArray, List.size_toArray]; omega)) ⟨ho, ho2, ?_⟩
  rw [ea]
  exact ⟨.ref _, _, I.lnew (t' := s.toks) (r.append r2) (by rw [List.length_append]; omega), rfl, q _ I.fresh⟩
def rCatS (K : PySem.W.Frag) : R2 := fun x y H Q => ∃ l b xs zs, x = .ref l ∧ y = .ref b ∧ SqL K H l xs ∧ SqL K H b zs ∧ xs.length + zs.length ≤ sizeLine ∧ ∀ p, H p = none → Q (.ref p) (upd H p (.lst (xs ++ zs)))
def xCat (a b : MF) : MF := fun s => (a s).bind fun p => (b p.2).bind fun q => if p.1.length + q.1.length ≤ 1000000 then some (p.1 ++ q.1, q.2) else none
theorem sz1M {n : Nat} (h : n ≤ 1000000) : n ≤ sizeLine := Nat.le_trans h (by decide)
section
variable {Γ : G} {O L L0 W : List Nat} {a b e : Expr} {ma mb ms : MF} {m : ME} {pos : Pos}
theorem xCat_of {s s' : MS} {ds : List D} (h : xCat ma mb s = some (ds, s')) : ∃ xs s1 ys, ma s = some (xs, s1) ∧ mb s1 = some (ys, s') ∧ xs.length + ys.length ≤ 1000000 ∧ ds = xs ++ ys := by
  unfold xCat at h
  cases e1 : ma s with
  | none => rw [e1] at h; cases h
  | some p =>
    rw [e1] at h
    simp only [Option.bind_some] at h
    cases e2 : mb p.2 with
    | none => rw [e2] at h; cases h
    | some q =>
      rw [e2] at h
      simp only [Option.bind_some] at h
      split at h
      · cases h; exact ⟨p.1, p.2, q.1, rfl, e2, ‹_›, rfl⟩
      · cases h
theorem tf_cat (ha : TrB Γ O L W a ma) (hb : TrB Γ O L W b mb) (hW : ∀ j ∈ W, j ∈ L) (hL : ∀ j ∈ L, j ∈ O) : TrF Γ O L W (.BinOp a .Add b pos) (xCat ma mb) := by
  obtain ⟨ta, pa, sa⟩ := ha
  obtain ⟨tb, pb, sb⟩ := hb
  refine ⟨tOp (rCatS Γ.K) ta tb, fun X h => by rw [← h.K]; exact pe_op op_catR (pa X h) (pb X h), fun c σ H s r ds s' e Q q => ?_⟩
  obtain ⟨xs, s1, ys, e1, e2, hl, rfl⟩ := xCat_of e
  refine sa c σ H s r _ _ e1 _ fun p vs H1 r1 x1 rd1 d1 => ?_
  refine sb c σ H1 s1 r1 _ _ e2 _ fun p2 us H2 r2 x2 rd2 d2 => ?_
  refine ⟨p, p2, vs, us, rfl, rfl, sql_ex (x2.trans ex_hide0) rd1, sql_ex ex_hide0 rd2, sz1M (by rw [dpa_len d1, dpa_len d2]; exact hl), ?_⟩
  exact simF_new r2 (x1.trans x2) (fresh_of r2 (fun j hj => hL j (hW j hj)) (x1.trans x2)) (dpa_app (dpa_ex (keep hW x2) d1) d2) q
def rListOf (K : PySem.W.Frag) : List V → Hp → VK → Prop := fun xs H Q => ∃ p ys, xs = [.ref p] ∧ (SqL K H p ys ∨ SqT K H p ys) ∧ ∀ l, H l = none → Q (.ref l) (upd H l (.lst ys))
theorem tf_list {p : Pos} (hg : Γ.sc.names.lookup ("list" : Str) = some .globalImplicit) (hm : Γ.mg "list" = none) (ha : TrQ Γ O L W a ma) (hW : ∀ j ∈ W, j ∈ O) (hst : ∀ env : Env, starEach [a] env = (false, eval a env) :: starEach [] env := by intro _; rfl) : TrF Γ O L W (.Call (.Name "list" p) [a] [] pos) ma := by
  obtain ⟨ta, pa, sa⟩ := ha
  refine ⟨_, fun X h => pe_callTy (T := "list") (r := rListOf Γ.K) (by rw [← h.K]; exact call_list_of) (h.gl hg) (h.mgn hm) (by decide +kernel) (pa_cons (pa X h) pa_nil (hst X.env)) (he := hst X.env), fun c σ H s r ds s' e Q q => ?_⟩
  exact sa c σ H s r _ _ e _ fun p vs H1 r1 x1 rd1 d1 => ⟨p, vs, rfl, (sq_ex ex_hide0 rd1).sq, simF_new r1 x1 (fresh_of r1 hW x1) d1 q⟩
/-- list(range(b)), list(range(a, b)) -/
def dRg (a b : Int) : List D := (List.range (b - a).toNat).map fun i => PyData.int (a + (i : Nat))
theorem rg_dp {K : PySem.W.Frag} {H : Hp} (a b : Int) : RpAll K H (rgV a b) (dRg a b) := by
  unfold rgV dRg
  generalize List.range (b - a).toNat = l
  induction l with
  | nil => exact .nil
  | cons i l ih => exact .cons (.int _) ih
def xRg1 (m : ME) : MF := fun s => (m s).bind fun p => match p.1 with
  | .int n => if n ≤ 1000000 ∧ -1000000 ≤ n then some (dRg 0 n, p.2) else none
  | _ => none
theorem xRg1_of {s s' : MS} {ds : List D} (h : xRg1 m s = some (ds, s')) : ∃ n, m s = some (.int n, s') ∧ (n ≤ 1000000 ∧ -1000000 ≤ n) ∧ ds = dRg 0 n := by
  unfold xRg1 at h
  cases e1 : m s with
  | none => rw [e1] at h; cases h
  | some p =>
    obtain ⟨d, s1⟩ := p
    rw [e1] at h
    simp only [Option.bind_some] at h
    cases d <;> first | (cases h; done) | skip
    dsimp only at h
    split at h
    · cases h; exact ⟨_, rfl, ‹_›, rfl⟩
    · cases h
theorem tf_listRg1 {p p2 pos2 : Pos} (hg : Γ.sc.names.lookup ("list" : Str) = some .globalImplicit) (hm : Γ.mg "list" = none) (hg2 : Γ.sc.names.lookup ("range" : Str) = some .globalImplicit) (hm2 : Γ.mg "range" = none) (ha : TrE Γ O L0 W a m) (hW : ∀ j ∈ W, j ∈ O)
    (hst : ∀ env : Env, starEach [a] env = (false, eval a env) :: starEach [] env := by intro _; rfl) : TrF Γ O L W (.Call (.Name "list" p) [.Call (.Name "range" p2) [a] [] pos2] [] pos) (xRg1 m) := by
  obtain ⟨ta, pa, sa⟩ := ha
  refine ⟨_, fun X h => pe_listRg h.calm (h.gl hg) (h.mgn hm) (prg_1 (h.gl hg2) (h.mgn hm2) (pa X h) (hst X.env)), fun c σ H s r ds s' e Q q => ?_⟩
  obtain ⟨n, e1, hn, rfl⟩ := xRg1_of e
  refine sa c σ H s r _ _ e1 _ fun v H1 r1 x1 d1 => ?_
  cases d1
  exact ⟨n, rfl, ⟨by omega, by omega, by omega, by omega, by omega⟩, simF_new r1 x1 (fresh_of r1 hW x1) (rg_dp 0 n) q⟩
end

/-! ## slices -/
def SimO (K : PySem.W.Frag) (O W : List Nat) (t : TO) (m : MS → Option (Option Int × MS)) : Prop := ∀ (c : Cn) (σ : L2.St) (H : Hp) (s : MS), R K c O s σ H → ∀ o s', m s = some (o, s') → ∀ Q : Option Int → Hp → Prop,
  (∀ H', R K c O s' σ H' → Ex (hide (Own W σ) H) (hide (Own W σ) H') → Q o H') → t σ H Q
def TrO (Γ : G) (O W : List Nat) (e : Option Expr) (m : MS → Option (Option Int × MS)) : Prop := ∃ t, (∀ X, InG Γ X → PO X e t) ∧ SimO Γ.K O W t m
def xoNone : MS → Option (Option Int × MS) := fun s => some (none, s)
def xoSome (m : ME) : MS → Option (Option Int × MS) := fun s => (m s).bind fun p => match p.1 with
  | .int n => some (some n, p.2)
  | _ => none
def cutD (xs : List D) (lo hi : Option Int) : List D := (xs.drop (HT.sIx xs.length 0 lo)).take (HT.sIx xs.length xs.length hi - HT.sIx xs.length 0 lo)
theorem cut_dp {K : PySem.W.Frag} {H : Hp} {vs : List V} {ds : List D} (h : RpAll K H vs ds) (lo hi : Option Int) : RpAll K H (cutV vs lo hi) (cutD ds lo hi) := by
  unfold cutV cutD
  rw [dpa_len h]
  exact dpa_take _ (dpa_drop _ h)
section
variable {Γ : G} {O L L0 W : List Nat} {a b e : Expr} {ma mb ms : MF} {m : ME} {pos p2 : Pos} {lo hi : Option Expr} {ml mh : MS → Option (Option Int × MS)}
theorem to_none : TrO Γ O W none xoNone := ⟨tNoPart, fun _ _ => po_none, fun c σ H s r o s' e Q q => by cases e; exact q H r refl_hide⟩
theorem to_some (h : TrE Γ O L0 W e m) : TrO Γ O W (some e) (xoSome m) := by
  obtain ⟨t, p, q⟩ := h
  refine ⟨tPart t, fun X h => po_some (p X h), fun c σ H s r o s' e Q k => ?_⟩
  unfold xoSome at e
  cases e1 : m s with
  | none => rw [e1] at e; cases e
  | some pr =>
    obtain ⟨d, s1⟩ := pr
    rw [e1] at e
    simp only [Option.bind_some] at e
    cases d <;> first | (cases e; done) | skip
    cases e
    refine q c σ H s r _ _ e1 _ fun v H1 r1 x1 d1 => ?_
    cases d1
    exact ⟨_, rfl, k H1 r1 x1⟩
def xSl (f : List D → Option Int → Option Int → List D) (m : MF) (l h : MS → Option (Option Int × MS)) : MF := fun s => (m s).bind fun p => (l p.2).bind fun q => (h q.2).map fun w => (f p.1 q.1 w.1, w.2)
theorem tf_slice (ha : TrB Γ O L W a ma) (hl : TrO Γ O W lo ml) (hh : TrO Γ O W hi mh) (hW : ∀ j ∈ W, j ∈ L) (hL : ∀ j ∈ L, j ∈ O) : TrF Γ O L W (.Subscript a (.Slice lo hi none p2) pos) (xSl cutD ma ml mh) := by
  obtain ⟨ta, pa, sa⟩ := ha
  obtain ⟨tl, pl, sl⟩ := hl
  obtain ⟨th, ph, sh⟩ := hh
  refine ⟨tSl (rSlL Γ.K) ta tl th, fun X h => by rw [← h.K]; exact pe_slice sl_list (pa X h) (pl X h) (ph X h), fun c σ H s r ds s' e Q q => ?_⟩
  unfold xSl at e
  cases e1 : ma s with
  | none => rw [e1] at e; cases e
  | some p =>
    rw [e1] at e
    simp only [Option.bind_some] at e
    cases e2 : ml p.2 with
    | none => rw [e2] at e; cases e
    | some q2 =>
      rw [e2] at e
      simp only [Option.bind_some] at e
      cases e3 : mh q2.2 with
      | none => rw [e3] at e; cases e
      | some w =>
        rw [e3] at e
        cases e
        refine sa c σ H s r _ _ e1 _ fun v vs H1 r1 x1 rd1 d1 => ?_
        refine sl c σ H1 _ r1 _ _ e2 _ fun H2 r2 x2 => ?_
        refine sh c σ H2 _ r2 _ _ e3 _ fun H3 r3 x3 => ?_
        exact ⟨v, vs, rfl, sql_ex ((x2.trans x3).trans ex_hide0) rd1, simF_new r3 ((x1.trans x2).trans x3) (fresh_of r3 (fun j hj => hL j (hW j hj)) ((x1.trans x2).trans x3)) (cut_dp (dpa_ex (keep hW (x2.trans x3)) d1) q2.1 w.1) q⟩
/-- a slice of a text -/
def xSlS (m : ME) (l h : MS → Option (Option Int × MS)) : ME := fun s => (m s).bind fun p => (l p.2).bind fun q => (h q.2).bind fun w => match p.1 with
  | .str z => if z.length ≤ 1000000 then some (.str (cutS z q.1 w.1), w.2) else none
  | _ => none
theorem tr_sliceS (ha : TrE Γ O L0 W a m) (hl : TrO Γ O W lo ml) (hh : TrO Γ O W hi mh) : TrE Γ O L W (.Subscript a (.Slice lo hi none p2) pos) (xSlS m ml mh) := by
  obtain ⟨ta, pa, sa⟩ := ha
  obtain ⟨tl, pl, sl⟩ := hl
  obtain ⟨th, ph, sh⟩ := hh
  refine ⟨tSl rSlS ta tl th, fun X h => pe_slice sl_str (pa X h) (pl X h) (ph X h), fun c σ H s r ds s' e Q q => ?_⟩
  unfold xSlS at e
  cases e1 : m s with
  | none => rw [e1] at e; cases e
  | some p =>
    obtain ⟨d, s1⟩ := p
    rw [e1] at e
    simp only [Option.bind_some] at e
    cases e2 : ml s1 with
    | none => rw [e2] at e; cases e
    | some q2 =>
      rw [e2] at e
      simp only [Option.bind_some] at e
      cases e3 : mh q2.2 with
      | none => rw [e3] at e; cases e
      | some w =>
        rw [e3] at e
        simp only [Option.bind_some] at e
        cases d <;> first | (cases e; done) | skip
        dsimp only at e
        split at e
        · cases e
          refine sa c σ H s r _ _ e1 _ fun v H1 r1 x1 d1 => ?_
          refine sl c σ H1 _ r1 _ _ e2 _ fun H2 r2 x2 => ?_
          refine sh c σ H2 _ r2 _ _ e3 _ fun H3 r3 x3 => ?_
          cases d1
          exact ⟨_, rfl, sz1M ‹_›, q _ H3 r3 ((x1.trans x2).trans x3) (.str _)⟩
        · cases e
end
end Z


namespace Z
open PySem PySem.Spec PyProof.Rows L2

/-! ## lists of one kind -/
def asInts : List D → Option (List Int)
  | [] => some []
  | .int i :: r => (asInts r).map (i :: ·)
  | _ :: _ => none
def asStrs : List D → Option (List Str)
  | [] => some []
  | .str i :: r => (asStrs r).map (i :: ·)
  | _ :: _ => none
def asBls : List D → Option (List Bool)
  | [] => some []
  | .bool i :: r => (asBls r).map (i :: ·)
  | _ :: _ => none
theorem asInts_of : ∀ {ds : List D} {ns : List Int}, asInts ds = some ns → ds = ns.map PyData.int
  | [], ns, h => by cases h; rfl
  | d :: r, ns, h => by
    cases d <;> first | (cases h; done) | skip
    unfold asInts at h
    cases e : asInts r with
    | none => rw [e] at h; cases h
    | some l => rw [e] at h; cases h; rw [asInts_of e]; rfl
theorem asStrs_of : ∀ {ds : List D} {ns : List Str}, asStrs ds = some ns → ds = ns.map PyData.str
  | [], ns, h => by cases h; rfl
  | d :: r, ns, h => by
    cases d <;> first | (cases h; done) | skip
    unfold asStrs at h
    cases e : asStrs r with
    | none => rw [e] at h; cases h
    | some l => rw [e] at h; cases h; rw [asStrs_of e]; rfl
theorem asBls_of : ∀ {ds : List D} {ns : List Bool}, asBls ds = some ns → ds = ns.map PyData.bool
  | [], ns, h => by cases h; rfl
  | d :: r, ns, h => by
    cases d <;> first | (cases h; done) | skip
    unfold asBls at h
    cases e : asBls r with
    | none => rw [e] at h; cases h
    | some l => rw [e] at h; cases h; rw [asBls_of e]; rfl
theorem asInts_map : ∀ ns : List Int, asInts (ns.map PyData.int) = some ns
  | [] => rfl
  | n :: ns => by unfold List.map asInts; rw [asInts_map ns]; rfl
theorem asStrs_map : ∀ ns : List Str, asStrs (ns.map PyData.str) = some ns
  | [] => rfl
  | n :: ns => by unfold List.map asStrs; rw [asStrs_map ns]; rfl
theorem asBls_map : ∀ ns : List Bool, asBls (ns.map PyData.bool) = some ns
  | [] => rfl
  | n :: ns => by unfold List.map asBls; rw [asBls_map ns]; rfl
section
variable {K : PySem.W.Frag} {H : Hp}
theorem of_bls : ∀ {vs : List V} {ns : List Bool}, RpAll K H vs (ns.map PyData.bool) → vs = ns.map V.bl
  | _, [], .nil => rfl
  | _, n :: ns, .cons h a => by cases h; rw [of_bls a]; rfl
end

/-! ## calls of built-ins by values -/
def RCS (K : PySem.W.Frag) (r : List V → Hp → VK → Prop) (f : List D → Option D) : Prop := ∀ (H : Hp) (vs : List V) (ds : List D) (dz : D), RpAll K H vs ds → f ds = some dz → ∀ Q : VK, (∀ v, (∀ M, Rp K M v dz) → Q v H) → r vs H Q
theorem xFn_of {f : List D → Option D} {ms : MF} {s s' : MS} {d : D} (h : xFn f ms s = some (d, s')) : ∃ ds, ms s = some (ds, s') ∧ f ds = some d := by
  unfold xFn at h
  cases e1 : ms s with
  | none => rw [e1] at h; cases h
  | some p =>
    rw [e1] at h
    simp only [Option.bind_some] at h
    cases e2 : f p.1 with
    | none => rw [e2] at h; cases h
    | some z => rw [e2] at h; cases h; exact ⟨p.1, rfl, e2⟩
theorem sim_cb {K : PySem.W.Frag} {O L L0 W : List Nat} {t : TA} {ms : MF} {r : List V → Hp → VK → Prop} {f : List D → Option D} (hr : RCS K r f) (ha : SimA K O L0 W t ms) : SimE K O L W (tCB r t) (xFn f ms) := fun c σ H s r0 d s' e Q q => by
  obtain ⟨ds, e1, e2⟩ := xFn_of e
  exact ha c σ H s r0 _ _ e1 _ fun vs H1 r1 x1 d1 => hr H1 vs ds d (dpa_ex ex_hide0 d1) e2 Q fun v hv => q v H1 r1 x1 (hv _)
section
variable {Γ : G} {O L L0 W : List Nat} {e : Expr} {es : List Expr} {ms : MF} {r : List V → Hp → VK → Prop} {f : List D → Option D} {x : Str} {p pos : Pos}
theorem tr_cbB {id : String} (hc : ∀ X, InG Γ X → CallR X (.builtin id) r) (hr : RCS Γ.K r f) (hg : Γ.sc.names.lookup x = some .globalImplicit) (hm : Γ.mg x = none) (hv : bootBuiltins x = some (.builtin id)) (ha : TrA Γ O L0 W (e :: es) ms)
    (hn : x ≠ "__name__" := by decide) (hdb : (x == ("__debug__" : Str)) = false := by decide) (he : ∀ env : Env, starEach (e :: es) env = (false, eval e env) :: starEach es env := by intro _; rfl) (hpl : ∀ env : Env, (backTo pos (starEach es env)).any (·.1) = false := by intro _; rfl) :
    TrE Γ O L W (.Call (.Name x p) (e :: es) [] pos) (xFn f ms) := by
  obtain ⟨t, pa, sa⟩ := ha
  exact ⟨_, fun X h => pe_callB (hc X h) (h.gl hg) (h.mgn hm) hv (pa X h) hn hdb (he X.env) (hpl X.env), sim_cb hr sa⟩
theorem tr_cbT {T : String} (hc : ∀ X, InG Γ X → CallR X (.type T) r) (hr : RCS Γ.K r f) (hg : Γ.sc.names.lookup x = some .globalImplicit) (hm : Γ.mg x = none) (hv : bootBuiltins x = some (.type T)) (ha : TrA Γ O L0 W (e :: es) ms)
    (hn : x ≠ "__name__" := by decide) (hdb : (x == ("__debug__" : Str)) = false := by decide) (he : ∀ env : Env, starEach (e :: es) env = (false, eval e env) :: starEach es env := by intro _; rfl) (hpl : ∀ env : Env, (backTo pos (starEach es env)).any (·.1) = false := by intro _; rfl) :
    TrE Γ O L W (.Call (.Name x p) (e :: es) [] pos) (xFn f ms) := by
  obtain ⟨t, pa, sa⟩ := ha
  exact ⟨_, fun X h => pe_callTy (hc X h) (h.gl hg) (h.mgn hm) hv (pa X h) hn hdb (he X.env) (hpl X.env), sim_cb hr sa⟩
end
def rLenA (K : PySem.W.Frag) : List V → Hp → VK → Prop := fun xs H Q => ∃ x n, xs = [x] ∧ LenV K x H n ∧ Q (.int n) H
def dLen : List D → Option D
  | [.list xs] => some (.int xs.length)
  | [.tuple xs] => some (.int xs.length)
  | [.str z] => if z.length ≤ sizeLine then some (.int z.length) else none
  | _ => none
def dAbs : List D → Option D
  | [.int i] => some (.int (if i < 0 then -i else i))
  | _ => none
def dInt : List D → Option D
  | [.int i] => some (.int i)
  | [.bool k] => some (.int (if k then 1 else 0))
  | [.str a] => if a.length ≤ 640 then (PySem.intText? a).map .int else none
  | _ => none
def dStr : List D → Option D
  | [.int i] => if i.natAbs.log2 < 1920 then some (.str (toString i)) else none
  | _ => none
def dSum : List D → Option D
  | [.list xs] => (asInts xs).map fun ns => .int ns.sum
  | _ => none
def maxL : Int → List Int → Int
  | a, [] => a
  | a, b :: r => maxL (max a b) r
def minL : Int → List Int → Int
  | a, [] => a
  | a, b :: r => minL (min a b) r
theorem maxL_mem : ∀ (r : List Int) (a : Int), maxL a r ∈ a :: r ∧ ∀ y ∈ a :: r, y ≤ maxL a r
  | [], a => by simp [maxL]
  | b :: r, a => by
    obtain ⟨h1, h2⟩ := maxL_mem r (max a b)
    refine ⟨?_, fun y hy => ?_⟩
    · show maxL (max a b) r ∈ _
      rcases List.mem_cons.mp h1 with h | h
      · rw [h]
        rcases Int.le_total a b with q | q
        · rw [Int.max_eq_right q]; simp
        · rw [Int.max_eq_left q]; simp
      · exact List.mem_cons_of_mem _ (List.mem_cons_of_mem _ h)
    · show y ≤ maxL (max a b) r
      have h0 := h2 (max a b) List.mem_cons_self
      rcases List.mem_cons.mp hy with h | h
      · rw [h]; omega
      · rcases List.mem_cons.mp h with h | h
        · rw [h]; omega
        · exact h2 y (List.mem_cons_of_mem _ h)
theorem minL_mem : ∀ (r : List Int) (a : Int), minL a r ∈ a :: r ∧ ∀ y ∈ a :: r, minL a r ≤ y
  | [], a => by simp [minL]
  | b :: r, a => by
    obtain ⟨h1, h2⟩ := minL_mem r (min a b)
    refine ⟨?_, fun y hy => ?_⟩
    · show minL (min a b) r ∈ _
      rcases List.mem_cons.mp h1 with h | h
      · rw [h]
        rcases Int.le_total a b with q | q
        · rw [Int.min_eq_left q]; simp
        · rw [Int.min_eq_right q]; simp
      · exact List.mem_cons_of_mem _ (List.mem_cons_of_mem _ h)
    · show minL (min a b) r ≤ y
      have h0 := h2 (min a b) List.mem_cons_self
      rcases List.mem_cons.mp hy with h | h
      · rw [h]; omega
      · rcases List.mem_cons.mp h with h | h
        · rw [h]; omega
        · exact h2 y (List.mem_cons_of_mem _ h)
def dMax : List D → Option D
  | [.list xs] => match asInts xs with
    | some (a :: r) => some (.int (maxL a r))
    | _ => none
  | [.int a, .int b] => some (.int (if b > a then b else a))
  | _ => none
def dMin : List D → Option D
  | [.list xs] => match asInts xs with
    | some (a :: r) => some (.int (minL a r))
    | _ => none
  | [.int a, .int b] => some (.int (if b < a then b else a))
  | _ => none
def dAll : List D → Option D
  | [.list xs] => (asBls xs).map fun bs => .bool (bs.all id)
  | _ => none
def dAny : List D → Option D
  | [.list xs] => (asBls xs).map fun bs => .bool (bs.any id)
  | _ => none
section
variable {K : PySem.W.Frag}
theorem rc_len : RCS K (rLenA K) dLen := fun H vs ds dz h e Q q => by
  unfold dLen at e
  split at e
  · cases e; cases h with | cons h a => cases a; cases h with | lst h a => exact ⟨_, _, rfl, .inl ⟨_, h, (dpa_len a).symm⟩, q _ fun M => .int _⟩
  · cases e; cases h with | cons h a => cases a; cases h with | tup h a => exact ⟨_, _, rfl, .inr ⟨_, h, (dpa_len a).symm⟩, q _ fun M => .int _⟩
  · split at e
    · cases e; cases h with | cons h a => cases a; cases h; exact ⟨_, _, rfl, ⟨‹_›, rfl⟩, q _ fun M => .int _⟩
    · cases e
  · cases e
theorem rc_abs : RCS K (fun xs H Q => ∃ i, xs = [.int i] ∧ Q (.int (if i < 0 then -i else i)) H) dAbs := fun H vs ds dz h e Q q => by
  unfold dAbs at e
  split at e
  · cases e; cases h with | cons h a => cases a; cases h; exact ⟨_, rfl, q _ fun M => .int _⟩
  · cases e
def rIntA : List V → Hp → VK → Prop := fun xs H Q => ((∃ i, xs = [.int i] ∧ Q (.int i) H) ∨ ∃ k, xs = [.bl k] ∧ Q (.int (if k then 1 else 0)) H) ∨ (∃ a n, xs = [.str a] ∧ PySem.intText? a = some n ∧ a.length ≤ 640 ∧ Q (.int n) H)
theorem call_intA {X : Cx} : CallR X (.type "int") rIntA := call_int1.or call_int_str
theorem rc_int : RCS K rIntA dInt := fun H vs ds dz h e Q q => by
  unfold dInt at e
  split at e
  · cases e; cases h with | cons h a => cases a; cases h; exact .inl (.inl ⟨_, rfl, q _ fun M => .int _⟩)
  · cases e; cases h with | cons h a => cases a; cases h; exact .inl (.inr ⟨_, rfl, q _ fun M => .int _⟩)
  · split at e
    · rename_i z _
      cases h with
      | cons h a =>
        cases a; cases h
        cases e2 : PySem.intText? z with
        | none => rw [e2] at e; cases e
        | some n => rw [e2] at e; cases e; exact .inr ⟨_, _, rfl, e2, ‹_›, q _ fun M => .int _⟩
    · cases e
  · cases e
theorem rc_str : RCS K (fun xs H Q => ∃ i, xs = [.int i] ∧ i.natAbs.log2 < 1920 ∧ Q (.str (toString i)) H) dStr := fun H vs ds dz h e Q q => by
  unfold dStr at e
  split at e
  · split at e
    · cases e; cases h with | cons h a => cases a; cases h; exact ⟨_, rfl, ‹_›, q _ fun M => .str _⟩
    · cases e
  · cases e
theorem rc_sum : RCS K (rSum K) dSum := fun H vs ds dz h e Q q => by
  unfold dSum at e
  split at e
  · rename_i xs
    cases e2 : asInts xs with
    | none => rw [e2] at e; cases e
    | some ns =>
      rw [e2] at e; cases e
      cases asInts_of e2
      cases h with | cons h a => cases a; cases h with | lst h a => exact ⟨_, ns, rfl, of_ints a ▸ h, q _ fun M => .int _⟩
  · cases e
def rMaxA (K : PySem.W.Frag) : List V → Hp → VK → Prop := fun xs H Q => rMax K xs H Q ∨ (∃ i j, xs = [.int i, .int j] ∧ Q (.int (if j > i then j else i)) H)
def rMinA (K : PySem.W.Frag) : List V → Hp → VK → Prop := fun xs H Q => rMin K xs H Q ∨ (∃ i j, xs = [.int i, .int j] ∧ Q (.int (if j < i then j else i)) H)
theorem rc_max : RCS K (rMaxA K) dMax := fun H vs ds dz h e Q q => by
  unfold dMax at e
  split at e
  · rename_i xs
    split at e
    · rename_i a r e2
      cases e
      cases asInts_of e2
      cases h with
      | cons h a2 =>
        cases a2
        cases h with
        | lst h a2 =>
          refine .inl ⟨_, a :: r, rfl, of_ints a2 ▸ h, by simp, fun m hm hle => ?_⟩
          obtain ⟨h1, h2⟩ := maxL_mem r a
          have em : m = maxL a r := Int.le_antisymm (h2 m hm) (hle _ h1)
          rw [em]
          exact q _ fun M => .int _
    · cases e
  · cases e; cases h with | cons h a => cases a with | cons h2 a => cases a; cases h; cases h2; exact .inr ⟨_, _, rfl, q _ fun M => .int _⟩
  · cases e
theorem rc_min : RCS K (rMinA K) dMin := fun H vs ds dz h e Q q => by
  unfold dMin at e
  split at e
  · rename_i xs
    split at e
    · rename_i a r e2
      cases e
      cases asInts_of e2
      cases h with
      | cons h a2 =>
        cases a2
        cases h with
        | lst h a2 =>
          refine .inl ⟨_, a :: r, rfl, of_ints a2 ▸ h, by simp, fun m hm hle => ?_⟩
          obtain ⟨h1, h2⟩ := minL_mem r a
          have em : m = minL a r := Int.le_antisymm (hle _ h1) (h2 m hm)
          rw [em]
          exact q _ fun M => .int _
    · cases e
  · cases e; cases h with | cons h a => cases a with | cons h2 a => cases a; cases h; cases h2; exact .inr ⟨_, _, rfl, q _ fun M => .int _⟩
  · cases e
theorem rc_all : RCS K (rAll K) dAll := fun H vs ds dz h e Q q => by
  unfold dAll at e
  split at e
  · rename_i xs
    cases e2 : asBls xs with
    | none => rw [e2] at e; cases e
    | some ns =>
      rw [e2] at e; cases e
      cases asBls_of e2
      cases h with | cons h a => cases a; cases h with | lst h a => exact ⟨_, ns, rfl, of_bls a ▸ h, q _ fun M => .bl _⟩
  · cases e
theorem rc_any : RCS K (rAny K) dAny := fun H vs ds dz h e Q q => by
  unfold dAny at e
  split at e
  · rename_i xs
    cases e2 : asBls xs with
    | none => rw [e2] at e; cases e
    | some ns =>
      rw [e2] at e; cases e
      cases asBls_of e2
      cases h with | cons h a => cases a; cases h with | lst h a => exact ⟨_, ns, rfl, of_bls a ▸ h, q _ fun M => .bl _⟩
  · cases e
end
section
variable {Γ : G} {O L L0 W : List Nat} {e : Expr} {es : List Expr} {ms : MF} {p pos : Pos}
/-- the built-ins by name; hs, he: the two forms of the written arguments -/
theorem tr_len (hg : Γ.sc.names.lookup ("len" : Str) = some .globalImplicit) (hm : Γ.mg "len" = none) (ha : TrA Γ O L0 W [e] ms) (he : ∀ env : Env, starEach [e] env = (false, eval e env) :: starEach [] env := by intro _; rfl) : TrE Γ O L W (.Call (.Name "len" p) [e] [] pos) (xFn dLen ms) :=
  tr_cbB (r := rLenA Γ.K) (fun X h => by rw [← h.K]; exact call_len) rc_len hg hm PySem.boot_len ha (by decide) (by decide) he
theorem tr_abs (hg : Γ.sc.names.lookup ("abs" : Str) = some .globalImplicit) (hm : Γ.mg "abs" = none) (ha : TrA Γ O L0 W [e] ms) (he : ∀ env : Env, starEach [e] env = (false, eval e env) :: starEach [] env := by intro _; rfl) : TrE Γ O L W (.Call (.Name "abs" p) [e] [] pos) (xFn dAbs ms) :=
  tr_cbB (fun X h => call_abs) rc_abs hg hm (by decide +kernel) ha (by decide) (by decide) he
theorem tr_intC (hg : Γ.sc.names.lookup ("int" : Str) = some .globalImplicit) (hm : Γ.mg "int" = none) (ha : TrA Γ O L0 W [e] ms) (he : ∀ env : Env, starEach [e] env = (false, eval e env) :: starEach [] env := by intro _; rfl) : TrE Γ O L W (.Call (.Name "int" p) [e] [] pos) (xFn dInt ms) :=
  tr_cbT (fun X h => call_intA) rc_int hg hm (by decide +kernel) ha (by decide) (by decide) he
theorem tr_strC (hg : Γ.sc.names.lookup ("str" : Str) = some .globalImplicit) (hm : Γ.mg "str" = none) (ha : TrA Γ O L0 W [e] ms) (he : ∀ env : Env, starEach [e] env = (false, eval e env) :: starEach [] env := by intro _; rfl) : TrE Γ O L W (.Call (.Name "str" p) [e] [] pos) (xFn dStr ms) :=
  tr_cbT (fun X h => call_str_int) rc_str hg hm (by decide +kernel) ha (by decide) (by decide) he
theorem tr_sum (hg : Γ.sc.names.lookup ("sum" : Str) = some .globalImplicit) (hm : Γ.mg "sum" = none) (ha : TrA Γ O L0 W [e] ms) (he : ∀ env : Env, starEach [e] env = (false, eval e env) :: starEach [] env := by intro _; rfl) : TrE Γ O L W (.Call (.Name "sum" p) [e] [] pos) (xFn dSum ms) :=
  tr_cbB (r := rSum Γ.K) (fun X h => by rw [← h.K]; exact cr_sum h.calm) rc_sum hg hm (by decide +kernel) ha (by decide) (by decide) he
theorem tr_max1 (hg : Γ.sc.names.lookup ("max" : Str) = some .globalImplicit) (hm : Γ.mg "max" = none) (ha : TrA Γ O L0 W (e :: es) ms) (he : ∀ env : Env, starEach (e :: es) env = (false, eval e env) :: starEach es env := by intro _; rfl) (hpl : ∀ env : Env, (backTo pos (starEach es env)).any (·.1) = false := by intro _; rfl) : TrE Γ O L W (.Call (.Name "max" p) (e :: es) [] pos) (xFn dMax ms) :=
  tr_cbB (r := rMaxA Γ.K) (fun X h => by rw [← h.K]; exact (cr_max h.calm).or (call_max2 h.calm)) rc_max hg hm (by decide +kernel) ha (by decide) (by decide) he hpl
theorem tr_min1 (hg : Γ.sc.names.lookup ("min" : Str) = some .globalImplicit) (hm : Γ.mg "min" = none) (ha : TrA Γ O L0 W (e :: es) ms) (he : ∀ env : Env, starEach (e :: es) env = (false, eval e env) :: starEach es env := by intro _; rfl) (hpl : ∀ env : Env, (backTo pos (starEach es env)).any (·.1) = false := by intro _; rfl) : TrE Γ O L W (.Call (.Name "min" p) (e :: es) [] pos) (xFn dMin ms) :=
  tr_cbB (r := rMinA Γ.K) (fun X h => by rw [← h.K]; exact (cr_min h.calm).or (call_min2 h.calm)) rc_min hg hm (by decide +kernel) ha (by decide) (by decide) he hpl
theorem tr_all (hg : Γ.sc.names.lookup ("all" : Str) = some .globalImplicit) (hm : Γ.mg "all" = none) (ha : TrA Γ O L0 W [e] ms) (he : ∀ env : Env, starEach [e] env = (false, eval e env) :: starEach [] env := by intro _; rfl) : TrE Γ O L W (.Call (.Name "all" p) [e] [] pos) (xFn dAll ms) :=
  tr_cbB (r := rAll Γ.K) (fun X h => by rw [← h.K]; exact cr_all h.calm) rc_all hg hm (by decide +kernel) ha (by decide) (by decide) he
theorem tr_any (hg : Γ.sc.names.lookup ("any" : Str) = some .globalImplicit) (hm : Γ.mg "any" = none) (ha : TrA Γ O L0 W [e] ms) (he : ∀ env : Env, starEach [e] env = (false, eval e env) :: starEach [] env := by intro _; rfl) : TrE Γ O L W (.Call (.Name "any" p) [e] [] pos) (xFn dAny ms) :=
  tr_cbB (r := rAny Γ.K) (fun X h => by rw [← h.K]; exact cr_any h.calm) rc_any hg hm (by decide +kernel) ha (by decide) (by decide) he
end

/-! ## sorted -/
def iSort (ns : List Int) : List Int := ns.mergeSort (fun a b => decide (a ≤ b))
theorem pw_eq : ∀ {a b : List Int}, a.Pairwise (· ≤ ·) → b.Pairwise (· ≤ ·) → a.Perm b → a = b
  | [], b, _, _, p => (List.nil_perm.mp p).symm
  | x :: a, [], _, _, p => by have := p.length_eq; simp at this
  | x :: a, y :: b, ha, hb, p => by
    have hx : x ∈ y :: b := p.mem_iff.mp List.mem_cons_self
    have hy : y ∈ x :: a := p.mem_iff.mpr List.mem_cons_self
    have e : x = y := by
      rcases List.mem_cons.mp hx with h | h
      · exact h
      · rcases List.mem_cons.mp hy with h' | h'
        · exact h'.symm
        · exact Int.le_antisymm ((List.pairwise_cons.mp ha).1 y h') ((List.pairwise_cons.mp hb).1 x h)
    subst e
    rw [pw_eq (List.pairwise_cons.mp ha).2 (List.pairwise_cons.mp hb).2 (List.perm_cons x |>.mp p)]
theorem iSort_pw (ns : List Int) : (iSort ns).Pairwise (· ≤ ·) := by
  have := List.pairwise_mergeSort (le := fun a b : Int => decide (a ≤ b)) (fun a b c h1 h2 => by simp at *; omega) (fun a b => by simp; omega) ns
  exact this.imp fun h => by simpa using h
theorem iSort_perm (ns : List Int) : (iSort ns).Perm ns := List.mergeSort_perm _ _
end Z


namespace Z
open PySem PySem.Spec PyProof.Rows L2

/-! ## sorted, of ints (any number), of texts (fewer than 64) -/
def sLe (a b : Str) : Bool := decide (a.cps.toList ≤ b.cps.toList)
def sSort (ss : List Str) : List Str := ss.mergeSort sLe
theorem sLe_tr (a b c : Str) (h1 : sLe a b = true) (h2 : sLe b c = true) : sLe a c = true := by
  unfold sLe at *
  simp only [decide_eq_true_eq] at *
  exact List.le_trans h1 h2
theorem sLe_tot (a b : Str) : (sLe a b || sLe b a) = true := by
  unfold sLe
  simp only [Bool.or_eq_true, decide_eq_true_eq]
  exact List.le_total _ _
theorem sLe_anti (a b : Str) (h1 : sLe a b = true) (h2 : sLe b a = true) : a = b := by
  unfold sLe at *
  simp only [decide_eq_true_eq] at *
  have := List.le_antisymm h1 h2
  cases a; cases b
  simp only [Array.toList_inj] at this
  rw [this]
theorem risingS_pw : ∀ (r : List Str) (p : Str), risingS p r = true → (p :: r).Pairwise (fun a b => sLe a b = true)
  | [], p, _ => by simp
  | x :: r, p, h => by
    unfold risingS at h
    rw [Bool.and_eq_true] at h
    have ih := risingS_pw r x h.2
    have hx : sLe p x = true := by
      have h1 := h.1
      rw [PyProof.Rows.ltCps_eq] at h1
      unfold sLe
      simpa [List.not_lt] using h1
    refine List.pairwise_cons.mpr ⟨fun y hy => ?_, ih⟩
    rcases List.mem_cons.mp hy with e | hy
    · rw [e]; exact hx
    · exact sLe_tr _ _ _ hx ((List.pairwise_cons.mp ih).1 y hy)
theorem sortedS_pw (ys : List Str) (h : sortedS ys = true) : ys.Pairwise (fun a b => sLe a b = true) := by
  cases ys with
  | nil => exact .nil
  | cons x r => exact risingS_pw r x h
theorem uniq_pw {α : Type} {le : α → α → Prop} (anti : ∀ a b, le a b → le b a → a = b) : ∀ {a b : List α}, a.Pairwise le → b.Pairwise le → a.Perm b → a = b
  | [], b, _, _, p => (List.nil_perm.mp p).symm
  | x :: a, [], _, _, p => by have := p.length_eq; simp at this
  | x :: a, y :: b, ha, hb, p => by
    have hx : x ∈ y :: b := p.mem_iff.mp List.mem_cons_self
    have hy : y ∈ x :: a := p.mem_iff.mpr List.mem_cons_self
    have e : x = y := by
      rcases List.mem_cons.mp hx with h | h
      · exact h
      · rcases List.mem_cons.mp hy with h' | h'
        · exact h'.symm
        · exact anti _ _ ((List.pairwise_cons.mp ha).1 y h') ((List.pairwise_cons.mp hb).1 x h)
    subst e
    rw [uniq_pw anti (List.pairwise_cons.mp ha).2 (List.pairwise_cons.mp hb).2 (List.perm_cons x |>.mp p)]
theorem sSort_is {ss ys : List Str} (h : sortedS ys = true) (p : ys.Perm ss) : ys = sSort ss := by
  refine uniq_pw sLe_anti (sortedS_pw ys h) ?_ (p.trans (List.mergeSort_perm _ _).symm)
  exact List.pairwise_mergeSort sLe_tr sLe_tot ss
def dSorted (xs : List D) : Option (List D) := match asInts xs with
  | some ns => some ((iSort ns).map PyData.int)
  | none => match asStrs xs with
    | some ss => if ss.length < 64 then some ((sSort ss).map PyData.str) else none
    | none => none
def rSortedA (K : PySem.W.Frag) : List V → Hp → VK → Prop := fun xs H Q => rSortedI K xs H Q ∨ rSortedS K xs H Q
def xfMap (f : List D → Option (List D)) (m : MF) : MF := fun s => (m s).bind fun p => (f p.1).map fun z => (z, p.2)
theorem xfMap_of {f : List D → Option (List D)} {m : MF} {s s' : MS} {ds : List D} (h : xfMap f m s = some (ds, s')) : ∃ es, m s = some (es, s') ∧ f es = some ds := by
  unfold xfMap at h
  cases e1 : m s with
  | none => rw [e1] at h; cases h
  | some p =>
    rw [e1] at h
    simp only [Option.bind_some] at h
    cases e2 : f p.1 with
    | none => rw [e2] at h; cases h
    | some z => rw [e2] at h; cases h; exact ⟨p.1, rfl, e2⟩
section
variable {Γ : G} {O L L0 W : List Nat} {a e : Expr} {es : List Expr} {ma ms : MF} {m : ME} {p pos : Pos}
theorem tf_sorted (hg : Γ.sc.names.lookup ("sorted" : Str) = some .globalImplicit) (hm : Γ.mg "sorted" = none) (ha : TrB Γ O L0 W a ma) (hW : ∀ j ∈ W, j ∈ O) (hst : ∀ env : Env, starEach [a] env = (false, eval a env) :: starEach [] env := by intro _; rfl) : TrF Γ O L W (.Call (.Name "sorted" p) [a] [] pos) (xfMap dSorted ma) := by
  obtain ⟨ta, pa, sa⟩ := ha
  refine ⟨_, fun X h => pe_callB (r := rSortedA Γ.K) (id := "sorted") (by rw [← h.K]; exact cr_sortedI.or cr_sortedS) (h.gl hg) (h.mgn hm) (by decide +kernel) (pa_cons (pa X h) pa_nil (hst X.env)) (he := hst X.env), fun c σ H s r ds s' e Q q => ?_⟩
  obtain ⟨es, e1, e2⟩ := xfMap_of e
  refine sa c σ H s r _ _ e1 _ fun p vs H1 r1 x1 rd1 d1 => ?_
  unfold dSorted at e2
  split at e2
  · rename_i ns e3
    cases e2
    cases asInts_of e3
    refine .inl ⟨p, ns, rfl, of_ints d1 ▸ sql_ex ex_hide0 rd1, fun ns' p' hp hs hn => ?_⟩
    have en : ns' = iSort ns := pw_eq hs (iSort_pw ns) (hp.trans (iSort_perm ns).symm)
    subst en
    exact simF_new (vs := (iSort ns).map V.int) r1 x1 (fresh_of r1 hW x1) (dpa_ints (iSort ns)) q p' hn
  · split at e2
    · rename_i ss e3
      split at e2
      · cases e2
        cases asStrs_of e3
        refine .inr ⟨p, ss, rfl, of_strs d1 ▸ sql_ex ex_hide0 rd1, ‹_›, fun ys p' hp hs hn => ?_⟩
        have en : ys = sSort ss := sSort_is hs hp
        subst en
        exact simF_new (vs := (sSort ss).map V.str) r1 x1 (fresh_of r1 hW x1) (dpa_strs (sSort ss)) q p' hn
      · cases e2
    · cases e2

/-! ## the module's constants, its dicts by texts -/
theorem tr_glob {x : Str} {u : Value} {v : V} {d : D} (hg : Γ.sc.names.lookup x = some .globalImplicit) (hm : Γ.mg x = some u) (r : RelV v u) (hd : ∀ M, Rp Γ.K M v d) (hdb : (x == ("__debug__" : Str)) = false := by decide) : TrE Γ O L W (.Name x pos) (xC d) :=
  ⟨tC v, fun X h => pe_glob (h.gl hg) (h.mgn hm) r hdb, fun c σ H s r d s' e Q q => by cases e; exact q v H r refl_hide (hd _)⟩
/-- a dict of the module, as a function of its texts -/
def KDm (K : PySem.W.Frag) (w : World) (a : Addr) (f : Str → Option D) : Prop := ∀ z d, f z = some d → ∃ v, KDct K w a z v ∧ ∀ M, Rp K M v d
def dKey (f : Str → Option D) : D → Option D
  | .str z => f z
  | _ => none
theorem tr_gdict {x : Str} {q : Addr} {f : Str → Option D} {px : Pos} (hg : Γ.sc.names.lookup x = some .globalImplicit) (hm : Γ.mg x = some (.ref q)) (hd : KDm Γ.K Γ.w q f) (he : TrE Γ O L0 W e m) (hs : PlainIx e := by exact fun _ _ => rfl) (hdb : (x == ("__debug__" : Str)) = false := by decide) :
    TrE Γ O L W (.Subscript (.Name x px) e pos) (xUn (dKey f) m) := by
  obtain ⟨t, pe, se⟩ := he
  refine ⟨tOp (rIxD Γ.K Γ.w) (tC (.ref q)) t, fun X h => by rw [← h.K, ← h.w]; exact pe_ix ix_kdict (pe_glob (h.gl hg) (h.mgn hm) rfl hdb) (pe X h) hs, fun c σ H s r d s' e Q k => ?_⟩
  obtain ⟨x, e1, e2⟩ := xUn_of e
  show t σ H _
  refine se c σ H s r _ _ e1 _ fun v H1 r1 x1 d1 => ?_
  cases x <;> first | (cases e2; done) | skip
  cases d1
  obtain ⟨v', h1, h2⟩ := hd _ _ e2
  exact ⟨q, _, v', rfl, rfl, h1, k v' H1 r1 x1 (h2 _)⟩
end

/-! ## methods of texts and lists that give scalars, or new lists of texts -/
def xMt (f : D → List D → Option D) (o : ME) (as : MF) : ME := fun s => (o s).bind fun p => (as p.2).bind fun q => (f p.1 q.1).map fun z => (z, q.2)
theorem xMt_of {f : D → List D → Option D} {o : ME} {as : MF} {s s' : MS} {d : D} (h : xMt f o as s = some (d, s')) : ∃ x s1 ds, o s = some (x, s1) ∧ as s1 = some (ds, s') ∧ f x ds = some d := by
  unfold xMt at h
  cases e1 : o s with
  | none => rw [e1] at h; cases h
  | some p =>
    rw [e1] at h
    simp only [Option.bind_some] at h
    cases e2 : as p.2 with
    | none => rw [e2] at h; cases h
    | some q =>
      rw [e2] at h
      simp only [Option.bind_some] at h
      cases e3 : f p.1 q.1 with
      | none => rw [e3] at h; cases h
      | some z => rw [e3] at h; cases h; exact ⟨p.1, p.2, q.1, rfl, e2, e3⟩
def xfMt (f : D → List D → Option (List D)) (o : ME) (as : MF) : MF := fun s => (o s).bind fun p => (as p.2).bind fun q => (f p.1 q.1).map fun z => (z, q.2)
theorem xfMt_of {f : D → List D → Option (List D)} {o : ME} {as : MF} {s s' : MS} {d : List D} (h : xfMt f o as s = some (d, s')) : ∃ x s1 ds, o s = some (x, s1) ∧ as s1 = some (ds, s') ∧ f x ds = some d := by
  unfold xfMt at h
  cases e1 : o s with
  | none => rw [e1] at h; cases h
  | some p =>
    rw [e1] at h
    simp only [Option.bind_some] at h
    cases e2 : as p.2 with
    | none => rw [e2] at h; cases h
    | some q =>
      rw [e2] at h
      simp only [Option.bind_some] at h
      cases e3 : f p.1 q.1 with
      | none => rw [e3] at h; cases h
      | some z => rw [e3] at h; cases h; exact ⟨p.1, p.2, q.1, rfl, e2, e3⟩
def RMS (K : PySem.W.Frag) (T : String) (r : V → List V → Hp → VK → Prop) (f : D → List D → Option D) : Prop := ∀ (x : V) (dx : D) (ds : List D) (dz : D), f dx ds = some dz → (∀ H, Rp K H x dx → tyV K T x H) ∧
  ∀ (H : Hp) (vs : List V), Rp K H x dx → RpAll K H vs ds → ∀ Q : VK, (∀ v, (∀ M, Rp K M v dz) → Q v H) → r x vs H Q
section
variable {Γ : G} {O L L0 W : List Nat} {o e : Expr} {es : List Expr} {ms : MF} {mo : ME} {r : V → List V → Hp → VK → Prop} {f : D → List D → Option D} {name : Str} {apos cpos : Pos} {T id : String}
theorem tr_bm (hr : RMS Γ.K T r f) (pa : PlainAttrs T) (slot : Slot T name id) (hty : typeOf (.builtin id) = pure (.type "method_descriptor")) (hmt : ∀ X, InG Γ X → MtR X id r) (ho : TrE Γ O L0 W o mo) (ha : TrA Γ O L0 W (e :: es) ms) (hW : ∀ j ∈ W, j ∈ L0)
    (hbase : ∀ env : Env, attributeBase o name env (eval o env) = eval o env := by intro _; rfl)
    (hfew : ∀ env : Env, ((backTo cpos (starEach (e :: es) env)).all (fun x => !x.1) && (backToKw cpos (keywordEach [] env)).all (fun x => x.1.isSome)
      && decide ((e :: es).length + ([] : List Keyword).length + (if ([] : List Keyword).isEmpty then 0 else 1) < 30)) = true := by intro _; rfl)
    (hline : (apos.endLine == cpos.line) = true := by rfl) (hs : ∀ env : Env, starEach (e :: es) env = (false, eval e env) :: starEach es env := by intro _; rfl) (hplain : ∀ env : Env, (backTo cpos (starEach es env)).any (·.1) = false := by intro _; rfl) :
    TrE Γ O L W (.Call (.Attribute o name apos) (e :: es) [] cpos) (xMt f mo ms) := by
  obtain ⟨to, po, so⟩ := ho
  obtain ⟨ta, pa', sa⟩ := ha
  refine ⟨tBM Γ.K T r to ta, fun X h => by rw [← h.K]; exact pe_bm pa slot hty (hmt X h) (po X h) (pa' X h) (hbase X.env) (hfew X.env) hline (hs X.env) (hplain X.env), fun c σ H s r0 d s' e Q q => ?_⟩
  obtain ⟨x, s1, ds, e1, e2, e3⟩ := xMt_of e
  refine so c σ H s r0 _ _ e1 _ fun v H1 r1 x1 d1 => ?_
  obtain ⟨g1, g2⟩ := hr v x ds d e3
  refine ⟨g1 H1 (dp_ex ex_hide0 d1), sa c σ H1 s1 r1 _ _ e2 _ fun vs H2 r2 x2 d2 => ?_⟩
  exact g2 H2 vs (dp_ex ex_hide0 (dp_ex (keep hW x2) d1)) (dpa_ex ex_hide0 d2) Q fun z hz => q z H2 r2 (x1.trans x2) (hz _)
theorem tr_bm0 (hr : RMS Γ.K T r f) (pa : PlainAttrs T) (slot : Slot T name id) (hty : typeOf (.builtin id) = pure (.type "method_descriptor")) (hmt : ∀ X, InG Γ X → MtR X id r) (ho : TrE Γ O L0 W o mo)
    (hbase : ∀ env : Env, attributeBase o name env (eval o env) = eval o env := by intro _; rfl) (hline : (apos.endLine == cpos.line) = true := by rfl) : TrE Γ O L W (.Call (.Attribute o name apos) [] [] cpos) (xMt f mo xaNil) := by
  obtain ⟨to, po, so⟩ := ho
  refine ⟨tBM0 Γ.K T r to, fun X h => by rw [← h.K]; exact pe_bm0 pa slot hty (hmt X h) (po X h) (hbase X.env) hline, fun c σ H s r0 d s' e Q q => ?_⟩
  obtain ⟨x, s1, ds, e1, e2, e3⟩ := xMt_of e
  cases e2
  refine so c σ H s r0 _ _ e1 _ fun v H1 r1 x1 d1 => ?_
  obtain ⟨g1, g2⟩ := hr v x [] d e3
  exact ⟨g1 H1 (dp_ex ex_hide0 d1), g2 H1 [] (dp_ex ex_hide0 d1) .nil Q fun z hz => q z H1 r1 x1 (hz _)⟩
/-- s.split(sep), s.split(): a new list of texts -/
theorem tf_m1 {g : D → List D → Option (List Str)} (hr : ∀ (x : V) (dx : D) (ds : List D) (ys : List Str), g dx ds = some ys → (∀ H, Rp Γ.K H x dx → tyV Γ.K T x H) ∧ ∀ (H : Hp) (vs : List V), Rp Γ.K H x dx → RpAll Γ.K H vs ds → ∀ Q : VK, rNewStrs ys H Q → r x vs H Q)
    (pa : PlainAttrs T) (slot : Slot T name id) (hty : typeOf (.builtin id) = pure (.type "method_descriptor")) (hmt : ∀ X, InG Γ X → MtR X id r) (ho : TrE Γ O L0 W o mo) (ha : TrA Γ O L0 W (e :: es) ms) (hW : ∀ j ∈ W, j ∈ L0) (hO : ∀ j ∈ W, j ∈ O)
    (hbase : ∀ env : Env, attributeBase o name env (eval o env) = eval o env := by intro _; rfl)
    (hfew : ∀ env : Env, ((backTo cpos (starEach (e :: es) env)).all (fun x => !x.1) && (backToKw cpos (keywordEach [] env)).all (fun x => x.1.isSome)
      && decide ((e :: es).length + ([] : List Keyword).length + (if ([] : List Keyword).isEmpty then 0 else 1) < 30)) = true := by intro _; rfl)
    (hline : (apos.endLine == cpos.line) = true := by rfl) (hs : ∀ env : Env, starEach (e :: es) env = (false, eval e env) :: starEach es env := by intro _; rfl) (hplain : ∀ env : Env, (backTo cpos (starEach es env)).any (·.1) = false := by intro _; rfl) :
    TrF Γ O L W (.Call (.Attribute o name apos) (e :: es) [] cpos) (xfMt (fun d ds => (g d ds).map (·.map PyData.str)) mo ms) := by
  obtain ⟨to, po, so⟩ := ho
  obtain ⟨ta, pa', sa⟩ := ha
  refine ⟨tBM Γ.K T r to ta, fun X h => by rw [← h.K]; exact pe_bm pa slot hty (hmt X h) (po X h) (pa' X h) (hbase X.env) (hfew X.env) hline (hs X.env) (hplain X.env), fun c σ H s r0 d s' e Q q => ?_⟩
  obtain ⟨x, s1, ds, e1, e2, e3⟩ := xfMt_of e
  cases e4 : g x ds with
  | none => rw [e4] at e3; cases e3
  | some ys =>
    rw [e4] at e3
    cases e3
    refine so c σ H s r0 _ _ e1 _ fun v H1 r1 x1 d1 => ?_
    obtain ⟨g1, g2⟩ := hr v x ds ys e4
    refine ⟨g1 H1 (dp_ex ex_hide0 d1), sa c σ H1 s1 r1 _ _ e2 _ fun vs H2 r2 x2 d2 => ?_⟩
    exact g2 H2 vs (dp_ex ex_hide0 (dp_ex (keep hW x2) d1)) (dpa_ex ex_hide0 d2) Q (simF_new (vs := ys.map V.str) r2 (x1.trans x2) (fresh_of r2 hO (x1.trans x2)) (dpa_strs ys) q)
theorem tf_m0 {g : D → List D → Option (List Str)} (hr : ∀ (x : V) (dx : D) (ds : List D) (ys : List Str), g dx ds = some ys → (∀ H, Rp Γ.K H x dx → tyV Γ.K T x H) ∧ ∀ (H : Hp) (vs : List V), Rp Γ.K H x dx → RpAll Γ.K H vs ds → ∀ Q : VK, rNewStrs ys H Q → r x vs H Q)
    (pa : PlainAttrs T) (slot : Slot T name id) (hty : typeOf (.builtin id) = pure (.type "method_descriptor")) (hmt : ∀ X, InG Γ X → MtR X id r) (ho : TrE Γ O L0 W o mo) (hO : ∀ j ∈ W, j ∈ O)
    (hbase : ∀ env : Env, attributeBase o name env (eval o env) = eval o env := by intro _; rfl) (hline : (apos.endLine == cpos.line) = true := by rfl) :
    TrF Γ O L W (.Call (.Attribute o name apos) [] [] cpos) (xfMt (fun d ds => (g d ds).map (·.map PyData.str)) mo xaNil) := by
  obtain ⟨to, po, so⟩ := ho
  refine ⟨tBM0 Γ.K T r to, fun X h => by rw [← h.K]; exact pe_bm0 pa slot hty (hmt X h) (po X h) (hbase X.env) hline, fun c σ H s r0 d s' e Q q => ?_⟩
  obtain ⟨x, s1, ds, e1, e2, e3⟩ := xfMt_of e
  cases e2
  cases e4 : g x [] with
  | none => rw [e4] at e3; cases e3
  | some ys =>
    rw [e4] at e3
    cases e3
    refine so c σ H s r0 _ _ e1 _ fun v H1 r1 x1 d1 => ?_
    obtain ⟨g1, g2⟩ := hr v x [] ys e4
    exact ⟨g1 H1 (dp_ex ex_hide0 d1), g2 H1 [] (dp_ex ex_hide0 d1) .nil Q (simF_new (vs := ys.map V.str) r1 x1 (fresh_of r1 hO x1) (dpa_strs ys) q)⟩
end
def dJoin : D → List D → Option D
  | .str a, [.list xs] => (asStrs xs).bind fun ys => if (ys.map (·.length)).sum + ys.length * a.length ≤ 16777216 then some (.str (Txt.join a ys)) else none
  | _, _ => none
def dSplit : D → List D → Option (List Str)
  | .str a, [.str b] => if (b.length == 0) = false ∧ a.length + 2 ≤ sizeLine then some (Txt.split a b) else none
  | _, _ => none
def dWords : D → List D → Option (List Str)
  | .str a, [] => if a.length + 2 ≤ sizeLine then some (Txt.words a) else none
  | _, _ => none
def dUpper : D → List D → Option D
  | .str a, [] => if a.length ≤ 5592405 then some (.str (Txt.upper a)) else none
  | _, _ => none
def dLower : D → List D → Option D
  | .str a, [] => if a.length ≤ 5592405 then some (.str (Txt.lower a)) else none
  | _, _ => none
def rJoinA (K : PySem.W.Frag) : V → List V → Hp → VK → Prop := fun x xs H Q => ∃ a p, ∃ ys : List Str, x = .str a ∧ xs = [.ref p] ∧ (SqL K H p (ys.map V.str) ∨ SqT K H p (ys.map V.str)) ∧ (ys.map (·.length)).sum + ys.length * a.length ≤ 16777216 ∧ Q (.str (Txt.join a ys)) H
section
variable {K : PySem.W.Frag}
theorem rm_join : RMS K "str" (rJoinA K) dJoin := fun x dx ds dz e => by
  unfold dJoin at e
  split at e
  · rename_i a xs
    cases e2 : asStrs xs with
    | none => rw [e2] at e; cases e
    | some ys =>
      rw [e2] at e
      simp only [Option.bind_some] at e
      split at e
      · cases e
        cases asStrs_of e2
        refine ⟨fun H h => by cases h; rfl, fun H vs h hs Q q => ?_⟩
        cases h
        cases hs with
        | cons h2 a2 =>
          cases a2
          cases h2 with
          | lst h3 a3 => exact ⟨a, _, ys, rfl, rfl, .inl (of_strs a3 ▸ h3), ‹_›, q _ fun M => .str _⟩
      · cases e
  · cases e
theorem rm_upper : RMS K "str" (fun x xs H Q => ∃ a, x = .str a ∧ xs = [] ∧ a.length ≤ 5592405 ∧ Q (.str (Txt.upper a)) H) dUpper := fun x dx ds dz e => by
  unfold dUpper at e
  split at e
  · split at e
    · cases e
      refine ⟨fun H h => by cases h; rfl, fun H vs h hs Q q => ?_⟩
      cases h; cases hs
      exact ⟨_, rfl, rfl, ‹_›, q _ fun M => .str _⟩
    · cases e
  · cases e
theorem rm_lower : RMS K "str" (fun x xs H Q => ∃ a, x = .str a ∧ xs = [] ∧ a.length ≤ 5592405 ∧ Q (.str (Txt.lower a)) H) dLower := fun x dx ds dz e => by
  unfold dLower at e
  split at e
  · split at e
    · cases e
      refine ⟨fun H h => by cases h; rfl, fun H vs h hs Q q => ?_⟩
      cases h; cases hs
      exact ⟨_, rfl, rfl, ‹_›, q _ fun M => .str _⟩
    · cases e
  · cases e
theorem rm_split (x : V) (dx : D) (ds : List D) (ys : List Str) (e : dSplit dx ds = some ys) : (∀ H, Rp K H x dx → tyV K "str" x H) ∧ ∀ (H : Hp) (vs : List V), Rp K H x dx → RpAll K H vs ds → ∀ Q : VK, rNewStrs ys H Q →
    (fun (x : V) (xs : List V) (H : Hp) (Q : VK) => ∃ a b, x = .str a ∧ xs = [.str b] ∧ (b.length == 0) = false ∧ a.length + 2 ≤ sizeLine ∧ rNewStrs (Txt.split a b) H Q) x vs H Q := by
  unfold dSplit at e
  split at e
  · split at e
    · rename_i h0
      cases e
      refine ⟨fun H h => by cases h; rfl, fun H vs h hs Q q => ?_⟩
      cases h
      cases hs with
      | cons h2 a2 =>
        cases a2; cases h2
        exact ⟨_, _, rfl, rfl, h0.1, h0.2, q⟩
    · cases e
  · cases e
theorem rm_words (x : V) (dx : D) (ds : List D) (ys : List Str) (e : dWords dx ds = some ys) : (∀ H, Rp K H x dx → tyV K "str" x H) ∧ ∀ (H : Hp) (vs : List V), Rp K H x dx → RpAll K H vs ds → ∀ Q : VK, rNewStrs ys H Q →
    (fun (x : V) (xs : List V) (H : Hp) (Q : VK) => ∃ a, x = .str a ∧ xs = [] ∧ a.length + 2 ≤ sizeLine ∧ rNewStrs (Txt.words a) H Q) x vs H Q := by
  unfold dWords at e
  split at e
  · split at e
    · cases e
      refine ⟨fun H h => by cases h; rfl, fun H vs h hs Q q => ?_⟩
      cases h; cases hs
      exact ⟨_, rfl, rfl, ‹_›, q⟩
    · cases e
  · cases e
/-- the first place of a flat item -/
def dIndex : D → List D → Option D
  | .list ys, [y] => if flatD y = true ∧ ys.all flatD = true then (ys.findIdx? fun z => PyData.eqv z y).map fun j => .int j else none
  | _, _ => none
theorem rm_index : RMS K "list" (rIndex K) dIndex := fun x dx ds dz e => by
  unfold dIndex at e
  split at e
  · rename_i ys y
    split at e
    · rename_i h0
      cases e2 : ys.findIdx? (fun z => PyData.eqv z y) with
      | none => rw [e2] at e; cases e
      | some j =>
        rw [e2] at e
        cases e
        refine ⟨fun H h => by cases h with | lst h a => exact .inl ⟨rfl, _, h⟩, fun H vs h hs Q q => ?_⟩
        cases hs with
        | cons h2 a2 =>
          cases a2
          cases h with
          | lst h3 a3 =>
            rename_i a vs'
            obtain ⟨hj, hb, hm⟩ := List.findIdx?_eq_some_iff_getElem.mp e2
            obtain ⟨z, hz1, hz2⟩ := dpa_get (i := j) a3 (List.getElem?_eq_getElem hj)
            have fl : ∀ k (hk : k < ys.length), flatD ys[k] = true := fun k hk => List.all_eq_true.mp h0.2 _ (List.getElem_mem hk)
            refine ⟨a, vs', _, j, z, rfl, rfl, h3, flat_dp h2 h0.1, flat_all a3 h0.2, hz1, ?_, fun m z' hmj hz' => ?_, q _ fun M => .int _⟩
            · rw [eqv_dp hz2 h2 (fl j hj) h0.1]; exact hb
            · have hmk : m < ys.length := Nat.lt_trans hmj hj
              obtain ⟨z2, g1, g2⟩ := dpa_get (i := m) a3 (List.getElem?_eq_getElem hmk)
              rw [g1] at hz'
              cases hz'
              rw [eqv_dp g2 h2 (fl m hmk) h0.1]
              simpa using hm m hmj
    · cases e
  · cases e
end
section
variable {Γ : G} {O L L0 W : List Nat} {o e : Expr} {ms : MF} {mo : ME} {apos cpos : Pos}
theorem tr_join (ho : TrE Γ O L0 W o mo) (ha : TrA Γ O L0 W [e] ms) (hW : ∀ j ∈ W, j ∈ L0) (hbase : ∀ env : Env, attributeBase o "join" env (eval o env) = eval o env := by intro _; rfl) (hs : ∀ env : Env, starEach [e] env = (false, eval e env) :: starEach [] env := by intro _; rfl) (hline : (apos.endLine == cpos.line) = true := by rfl)
    (hfew : ∀ env : Env, ((backTo cpos (starEach [e] env)).all (fun x => !x.1) && (backToKw cpos (keywordEach [] env)).all (fun x => x.1.isSome)
      && decide (([e] : List Expr).length + ([] : List Keyword).length + (if ([] : List Keyword).isEmpty then 0 else 1) < 30)) = true := by intro _; rfl) : TrE Γ O L W (.Call (.Attribute o "join" apos) [e] [] cpos) (xMt dJoin mo ms) :=
  tr_bm (r := rJoinA Γ.K) rm_join PySem.F.plainAttrs_str PySem.F.slot_str_join PySem.F.type_str_join (fun X h => by rw [← h.K]; exact mt_join) ho ha hW hbase hfew hline hs
theorem tr_upper (ho : TrE Γ O L0 W o mo) (hbase : ∀ env : Env, attributeBase o "upper" env (eval o env) = eval o env := by intro _; rfl) (hline : (apos.endLine == cpos.line) = true := by rfl) : TrE Γ O L W (.Call (.Attribute o "upper" apos) [] [] cpos) (xMt dUpper mo xaNil) :=
  tr_bm0 rm_upper PySem.F.plainAttrs_str PySem.F.slot_str_upper PySem.F.type_str_upper (fun X h => mt_upper) ho hbase hline
theorem tr_lower (ho : TrE Γ O L0 W o mo) (hbase : ∀ env : Env, attributeBase o "lower" env (eval o env) = eval o env := by intro _; rfl) (hline : (apos.endLine == cpos.line) = true := by rfl) : TrE Γ O L W (.Call (.Attribute o "lower" apos) [] [] cpos) (xMt dLower mo xaNil) :=
  tr_bm0 rm_lower PySem.F.plainAttrs_str PySem.F.slot_str_lower PySem.F.type_str_lower (fun X h => mt_lower) ho hbase hline
theorem tf_split (ho : TrE Γ O L0 W o mo) (ha : TrA Γ O L0 W [e] ms) (hW : ∀ j ∈ W, j ∈ L0) (hO : ∀ j ∈ W, j ∈ O) (hbase : ∀ env : Env, attributeBase o "split" env (eval o env) = eval o env := by intro _; rfl) (hs : ∀ env : Env, starEach [e] env = (false, eval e env) :: starEach [] env := by intro _; rfl) (hline : (apos.endLine == cpos.line) = true := by rfl)
    (hfew : ∀ env : Env, ((backTo cpos (starEach [e] env)).all (fun x => !x.1) && (backToKw cpos (keywordEach [] env)).all (fun x => x.1.isSome)
      && decide (([e] : List Expr).length + ([] : List Keyword).length + (if ([] : List Keyword).isEmpty then 0 else 1) < 30)) = true := by intro _; rfl) : TrF Γ O L W (.Call (.Attribute o "split" apos) [e] [] cpos) (xfMt (fun d ds => (dSplit d ds).map (·.map PyData.str)) mo ms) :=
  tf_m1 rm_split PySem.F.plainAttrs_str PySem.F.slot_str_split PySem.F.type_str_split (fun X h => mt_split) ho ha hW hO hbase hfew hline hs
theorem tf_words (ho : TrE Γ O L0 W o mo) (hO : ∀ j ∈ W, j ∈ O) (hbase : ∀ env : Env, attributeBase o "split" env (eval o env) = eval o env := by intro _; rfl) (hline : (apos.endLine == cpos.line) = true := by rfl) : TrF Γ O L W (.Call (.Attribute o "split" apos) [] [] cpos) (xfMt (fun d ds => (dWords d ds).map (·.map PyData.str)) mo xaNil) :=
  tf_m0 rm_words PySem.F.plainAttrs_str PySem.F.slot_str_split PySem.F.type_str_split (fun X h => mt_words) ho hO hbase hline
theorem tr_index (ho : TrE Γ O L0 W o mo) (ha : TrA Γ O L0 W [e] ms) (hW : ∀ j ∈ W, j ∈ L0) (hbase : ∀ env : Env, attributeBase o "index" env (eval o env) = eval o env := by intro _; rfl) (hs : ∀ env : Env, starEach [e] env = (false, eval e env) :: starEach [] env := by intro _; rfl) (hline : (apos.endLine == cpos.line) = true := by rfl)
    (hfew : ∀ env : Env, ((backTo cpos (starEach [e] env)).all (fun x => !x.1) && (backToKw cpos (keywordEach [] env)).all (fun x => x.1.isSome)
      && decide (([e] : List Expr).length + ([] : List Keyword).length + (if ([] : List Keyword).isEmpty then 0 else 1) < 30)) = true := by intro _; rfl) : TrE Γ O L W (.Call (.Attribute o "index" apos) [e] [] cpos) (xMt dIndex mo ms) :=
  tr_bm (r := rIndex Γ.K) rm_index PySem.F.plainAttrs_list PySem.F.slot_list_index PySem.F.type_list_index (fun X h => by rw [← h.K]; exact mt_index) ho ha hW hbase hfew hline hs
end
end Z


namespace Z
open PySem PySem.Spec PyProof.Rows L2

/-! ## tests -/
section
variable {Γ : G} {O L L0 W : List Nat} {a b e : Expr} {es : List Expr} {ma mb m : ME} {ta tb : MT} {pos : Pos}
theorem tt_W (h : TrW Γ O W e ta) : TrT Γ O W e ta := by
  obtain ⟨t, p, q⟩ := h
  exact ⟨t, fun X h => (p X h).pt, q⟩
theorem tw_and1 (h : TrT Γ O W a ta) : TrW Γ O W (.BoolOp .And [a] pos) ta := by
  obtain ⟨t, p, q⟩ := h
  exact ⟨t, fun X h => pw_and1 (p X h), q⟩
theorem tw_or1 (h : TrT Γ O W a ta) : TrW Γ O W (.BoolOp .Or [a] pos) ta := by
  obtain ⟨t, p, q⟩ := h
  exact ⟨t, fun X h => pw_or1 (p X h), q⟩
theorem tw_and (ha : TrT Γ O W a ta) (hb : TrW Γ O W (.BoolOp .And (b :: es) pos) tb) : TrW Γ O W (.BoolOp .And (a :: b :: es) pos) (xAnd ta tb) := by
  obtain ⟨t, p, q⟩ := ha
  obtain ⟨u, p2, q2⟩ := hb
  refine ⟨tAnd t u, fun X h => pw_and (p X h) (p2 X h), fun c σ H s r k s' e Q w => ?_⟩
  unfold xAnd at e
  cases e1 : ta s with
  | none => rw [e1] at e; cases e
  | some pr =>
    obtain ⟨k1, s1⟩ := pr
    rw [e1] at e
    simp only [Option.bind_some] at e
    refine q c σ H s r _ _ e1 _ fun H1 r1 x1 => ?_
    cases k1 with
    | true =>
      rw [if_pos rfl] at e ⊢
      exact q2 c σ H1 s1 r1 _ _ e Q fun H2 r2 x2 => w H2 r2 (x1.trans x2)
    | false =>
      rw [if_neg Bool.false_ne_true] at e ⊢
      cases e
      exact w H1 r1 x1
theorem tw_or (ha : TrT Γ O W a ta) (hb : TrW Γ O W (.BoolOp .Or (b :: es) pos) tb) : TrW Γ O W (.BoolOp .Or (a :: b :: es) pos) (xOr ta tb) := by
  obtain ⟨t, p, q⟩ := ha
  obtain ⟨u, p2, q2⟩ := hb
  refine ⟨tOr t u, fun X h => pw_or (p X h) (p2 X h), fun c σ H s r k s' e Q w => ?_⟩
  unfold xOr at e
  cases e1 : ta s with
  | none => rw [e1] at e; cases e
  | some pr =>
    obtain ⟨k1, s1⟩ := pr
    rw [e1] at e
    simp only [Option.bind_some] at e
    refine q c σ H s r _ _ e1 _ fun H1 r1 x1 => ?_
    cases k1 with
    | true =>
      rw [if_pos rfl] at e ⊢
      cases e
      exact w H1 r1 x1
    | false =>
      rw [if_neg Bool.false_ne_true] at e ⊢
      exact q2 c σ H1 s1 r1 _ _ e Q fun H2 r2 x2 => w H2 r2 (x1.trans x2)
theorem tt_not (ha : TrT Γ O W a ta) : TrT Γ O W (.UnaryOp .Not a pos) (xNot ta) := by
  obtain ⟨t, p, q⟩ := ha
  refine ⟨tNot t, fun X h => pt_not (p X h), fun c σ H s r k s' e Q w => ?_⟩
  unfold xNot at e
  cases e1 : ta s with
  | none => rw [e1] at e; cases e
  | some pr =>
    rw [e1] at e
    cases e
    exact q c σ H s r _ _ e1 _ fun H1 r1 x1 => w H1 r1 x1
/-- truth of a value -/
def dTru : D → Option Bool
  | .none => some false
  | .bool b => some b
  | .int i => some (i != 0)
  | .str y => if y.length ≤ sizeLine then some ((y.length : Int) != 0) else none
  | .list xs => some (!xs.isEmpty)
  | .tuple xs => some (!xs.isEmpty)
  | _ => none
def xTru (m : ME) : MT := fun s => (m s).bind fun p => (dTru p.1).map fun b => (b, p.2)
theorem isEmpty_dp {K : PySem.W.Frag} {H : Hp} {vs : List V} {ds : List D} (h : RpAll K H vs ds) : ds.isEmpty = vs.isEmpty := by cases h <;> rfl
theorem tt_tru (h : TrE Γ O L W e m) (he : ∀ (env : Env) whole, isTrue e env whole = (do let v ← whole; standAt e.pos; holding [v] (truthy v)) := by intro _ _; rfl) : TrT Γ O W e (xTru m) := by
  obtain ⟨t, p, q⟩ := h
  refine ⟨fun σ H Q => t σ H fun x H' => ∃ k, TruV Γ.K x H' k ∧ Q k H', fun X h => by rw [← h.K]; exact pt_truth (p X h) (he X.env), fun c σ H s r k s' e Q w => ?_⟩
  unfold xTru at e
  cases e1 : m s with
  | none => rw [e1] at e; cases e
  | some pr =>
    obtain ⟨d, s1⟩ := pr
    rw [e1] at e
    simp only [Option.bind_some] at e
    cases e2 : dTru d with
    | none => rw [e2] at e; cases e
    | some b =>
      rw [e2] at e
      cases e
      refine q c σ H s r _ _ e1 _ fun v H1 r1 x1 d1 => ⟨k, ?_, w H1 r1 x1⟩
      cases d1 <;> first | (cases e2; rfl) | skip
      · simp only [dTru] at e2
        split at e2
        · cases e2; exact ⟨‹_›, rfl⟩
        · cases e2
      · cases e2
        exact .inl ⟨_, sql_ex ex_hide0 ‹_›, by rw [isEmpty_dp ‹_›]⟩
      · cases e2
        exact .inr (.inl ⟨_, sqt_ex ex_hide0 ‹_›, by rw [isEmpty_dp ‹_›]⟩)
/-- and, or of truth values, as values -/
def xAndV (a : MT) (b : ME) : ME := fun s => (a s).bind fun p => if p.1 = true then b p.2 else some (.bool false, p.2)
def xOrV (a : MT) (b : ME) : ME := fun s => (a s).bind fun p => if p.1 = true then some (.bool true, p.2) else b p.2
theorem tr_one {op} (h : TrE Γ O L W a ma) : TrE Γ O L W (.BoolOp op [a] pos) ma := by
  obtain ⟨t, p, q⟩ := h
  exact ⟨t, fun X h => pe_one (p X h), q⟩
theorem tr_and (ha : TrE Γ O L0 W a ma) (hb : TrE Γ O L W (.BoolOp .And (b :: es) pos) mb) : TrE Γ O L W (.BoolOp .And (a :: b :: es) pos) (xAndV (xT ma) mb) := by
  obtain ⟨t, p, q⟩ := ha
  obtain ⟨u, p2, q2⟩ := hb
  refine ⟨tAndV t u, fun X h => pe_and (p X h) (p2 X h), fun c σ H s r d s' e Q w => ?_⟩
  unfold xAndV at e
  cases e1 : xT ma s with
  | none => rw [e1] at e; cases e
  | some pr =>
    obtain ⟨k1, s1⟩ := pr
    rw [e1] at e
    simp only [Option.bind_some] at e
    refine q c σ H s r _ _ (xT_of e1) _ fun v H1 r1 x1 d1 => ?_
    cases d1
    refine ⟨k1, rfl, ?_⟩
    cases k1 with
    | true =>
      rw [if_pos rfl] at e ⊢
      exact q2 c σ H1 s1 r1 _ _ e Q fun v H2 r2 x2 d2 => w v H2 r2 (x1.trans x2) d2
    | false =>
      rw [if_neg Bool.false_ne_true] at e ⊢
      cases e
      exact w _ H1 r1 x1 (.bl false)
theorem tr_or (ha : TrE Γ O L0 W a ma) (hb : TrE Γ O L W (.BoolOp .Or (b :: es) pos) mb) : TrE Γ O L W (.BoolOp .Or (a :: b :: es) pos) (xOrV (xT ma) mb) := by
  obtain ⟨t, p, q⟩ := ha
  obtain ⟨u, p2, q2⟩ := hb
  refine ⟨tOrV t u, fun X h => pe_or (p X h) (p2 X h), fun c σ H s r d s' e Q w => ?_⟩
  unfold xOrV at e
  cases e1 : xT ma s with
  | none => rw [e1] at e; cases e
  | some pr =>
    obtain ⟨k1, s1⟩ := pr
    rw [e1] at e
    simp only [Option.bind_some] at e
    refine q c σ H s r _ _ (xT_of e1) _ fun v H1 r1 x1 d1 => ?_
    cases d1
    refine ⟨k1, rfl, ?_⟩
    cases k1 with
    | true =>
      rw [if_pos rfl] at e ⊢
      cases e
      exact w _ H1 r1 x1 (.bl true)
    | false =>
      rw [if_neg Bool.false_ne_true] at e ⊢
      exact q2 c σ H1 s1 r1 _ _ e Q fun v H2 r2 x2 d2 => w v H2 r2 (x1.trans x2) d2
theorem tr_not (ha : TrE Γ O L0 W a ma) : TrE Γ O L W (.UnaryOp .Not a pos) (xB (xNot (xT ma))) := by
  obtain ⟨t, p, q⟩ := ha
  refine ⟨tNotV t, fun X h => pe_not (p X h), fun c σ H s r d s' e Q w => ?_⟩
  unfold xB xNot at e
  cases e1 : xT ma s with
  | none => rw [e1] at e; cases e
  | some pr =>
    rw [e1] at e
    cases e
    refine q c σ H s r _ _ (xT_of e1) _ fun v H1 r1 x1 d1 => ?_
    cases d1
    exact ⟨_, rfl, w _ H1 r1 x1 (.bl _)⟩
theorem tr_ifExp {c : Expr} {tc : MT} (hc : TrT Γ O W c tc) (ha : TrE Γ O L W a ma) (hb : TrE Γ O L W b mb) : TrE Γ O L W (.IfExp c a b pos) (xIf tc ma mb) := by
  obtain ⟨t, p, q⟩ := hc
  obtain ⟨u, p2, q2⟩ := ha
  obtain ⟨v, p3, q3⟩ := hb
  refine ⟨tIf t u v, fun X h => pe_ifExp (p X h) (p2 X h) (p3 X h), fun c σ H s r d s' e Q w => ?_⟩
  unfold xIf at e
  cases e1 : tc s with
  | none => rw [e1] at e; cases e
  | some pr =>
    obtain ⟨k1, s1⟩ := pr
    rw [e1] at e
    simp only [Option.bind_some] at e
    refine q c σ H s r _ _ e1 _ fun H1 r1 x1 => ?_
    cases k1 with
    | true =>
      rw [if_pos rfl] at e ⊢
      exact q2 c σ H1 s1 r1 _ _ e Q fun v H2 r2 x2 d2 => w v H2 r2 (x1.trans x2) d2
    | false =>
      rw [if_neg Bool.false_ne_true] at e ⊢
      exact q3 c σ H1 s1 r1 _ _ e Q fun v H2 r2 x2 d2 => w v H2 r2 (x1.trans x2) d2
/-- is None -/
def dIsN (neg : Bool) : D → Option D
  | .none => some (.bool (!neg))
  | _ => some (.bool neg)
theorem tr_isN {j : Nat} {p2 : Pos} (ha : TrE Γ O L0 W a ma) : TrE Γ O L W (.Compare a [.Is] [.Constant .none j p2] pos) (xUn (dIsN false) ma) := by
  obtain ⟨t, p, q⟩ := ha
  refine ⟨tIsN t, fun X h => pe_cmp (pc_isN (p X h)) rfl, fun c σ H s r d s' e Q w => ?_⟩
  obtain ⟨x, e1, e2⟩ := xUn_of e
  refine q c σ H s r _ _ e1 _ fun v H1 r1 x1 d1 => ?_
  cases d1 <;> cases e2 <;> exact w _ H1 r1 x1 (.bl _)
theorem tr_notN {j : Nat} {p2 : Pos} (ha : TrE Γ O L0 W a ma) : TrE Γ O L W (.Compare a [.IsNot] [.Constant .none j p2] pos) (xUn (dIsN true) ma) := by
  obtain ⟨t, p, q⟩ := ha
  refine ⟨tNotN t, fun X h => pe_cmp (pc_notN (p X h)) rfl, fun c σ H s r d s' e Q w => ?_⟩
  obtain ⟨x, e1, e2⟩ := xUn_of e
  refine q c σ H s r _ _ e1 _ fun v H1 r1 x1 d1 => ?_
  cases d1 <;> cases e2 <;> exact w _ H1 r1 x1 (.bl _)
end

/-! ## what a def promises, and its calls -/
/-- reads only; the answer leans on what the caller doesn't hide -/
def spP (K : PySem.W.Frag) (f : List D → Option D) : Sp := fun vs H Q _ => ∃ (C : Addr → Prop) (ds : List D) (d : D), (∀ p, C p → ∃ o, H p = some o) ∧ RpAll K (hide C H) vs ds ∧ f ds = some d ∧
  ∀ v H', Ex H H' → Rp K (hide C H') v d → Q v H'
/-- .. and gives a new list -/
def spL (K : PySem.W.Frag) (f : List D → Option (List D)) : Sp := fun vs H Q _ => ∃ (C : Addr → Prop) (ds es : List D), (∀ p, C p → ∃ o, H p = some o) ∧ RpAll K (hide C H) vs ds ∧ f ds = some es ∧
  ∀ p us H', H p = none → Ex H (hide (· = p) H') → H' p = some (.lst us) → RpAll K (hide C (hide (· = p) H')) us es → Q (.ref p) H'
/-- the first argument is a list that it may change -/
def spT (K : PySem.W.Frag) (f : List D → List D → Option (D × List D)) : Sp := fun vs H Q _ => ∃ (C : Addr → Prop) (p : Addr) (us ws : List V) (fs ds : List D) (d : D) (fs' : List D), vs = .ref p :: ws ∧ C p ∧ (∀ a, C a → ∃ o, H a = some o) ∧
  H p = some (.lst us) ∧ RpAll K (hide C H) us fs ∧ RpAll K (hide C H) ws ds ∧ f fs ds = some (d, fs') ∧
  ∀ v H' us', Ex (hide (· = p) H) (hide (· = p) H') → H' p = some (.lst us') → RpAll K (hide C H') us' fs' → Rp K (hide C H') v d → Q v H'
section
variable {Γ : G} {O L L0 W : List Nat} {e : Expr} {es : List Expr} {ms : MF} {x : Str} {p pos : Pos} {k : Nat} {f : Addr} {fd : FuncData} {ps : List Str}
theorem InG.fn {Γ : G} {X : Cx} (h : InG Γ X) {sp : Sp} (F : FnOk Γ.P Γ.w Γ.K Γ.mg Γ.base CX0 k f fd ps sp) : FnOk X.prog X.w X.K X.mg X.base CX0 k f fd ps sp := by
  rw [h.prog, h.w, h.K, h.mg, h.base]; exact F
theorem InG.room {Γ : G} {X : Cx} (h : InG Γ X) (r : Room k Γ.A) : Room k X.A := by rw [h.A]; exact r
theorem InG.kp {Γ : G} {X : Cx} (h : InG Γ X) {v : Value} (r : PySem.W.keepIn Γ.K v = true) : PySem.W.keepIn X.K v = true := by rw [h.K]; exact r
theorem InG.bd {Γ : G} {X : Cx} (h : InG Γ X) {ds : List Value} (r : Binds Γ.K fd ps ds) : Binds X.K fd ps ds := by rw [h.K]; exact r
/-- what stands of a def of the module, for its callers -/
structure FnAt (P : Program) (w : World) (K : PySem.W.Frag) (mg : Str → Option Value) (base : Heap) (k : Nat) (x : Str) (ps : List Str) (sp : Sp) : Prop where
  ex : ∃ f fd, FnOk P w K mg base CX0 k f fd ps sp ∧ mg x = some (.ref f) ∧ PySem.W.keepIn K (.ref f) = true ∧ Binds K fd ps []
theorem tr_call {mf : List D → Option D} (F : FnAt Γ.P Γ.w Γ.K Γ.mg Γ.base k x ps (spP Γ.K mf)) (hr : Room k Γ.A) (hg : Γ.sc.names.lookup x = some .globalImplicit) (ha : TrA Γ O L W (e :: es) ms) (hL : ∀ j ∈ L, j ∈ O)
    (hdb : (x == ("__debug__" : Str)) = false := by decide) (he : ∀ env : Env, starEach (e :: es) env = (false, eval e env) :: starEach es env := by intro _; rfl) (hpl : ∀ env : Env, (backTo pos (starEach es env)).any (·.1) = false := by intro _; rfl) :
    TrE Γ O L W (.Call (.Name x p) (e :: es) [] pos) (xFn mf ms) := by
  obtain ⟨f, fd, F, hm, hk, hb⟩ := F.ex
  obtain ⟨t, pa, sa⟩ := ha
  refine ⟨tCall (spP Γ.K mf) [] E0 t, fun X h => pe_call (h.fn F) (h.room hr) (h.gl hg) (h.mgn hm) (h.kp hk) (h.bd hb) .nil pass0 (pa X h) hdb (he X.env) (hpl X.env), fun c σ H s r d s' e Q q => ?_⟩
  obtain ⟨ds, e1, e2⟩ := xFn_of e
  refine sa c σ H s r _ _ e1 _ fun vs H1 r1 x1 d1 => ?_
  refine ⟨c.msk L σ, ds, d, msk_there r1 hL, by rw [List.append_nil]; exact d1, e2, fun v H2 x2 d2 => q v H2 (r1.ex x2) (x1.trans (ex_hide x2)) d2⟩
theorem tf_call {mf : List D → Option (List D)} (F : FnAt Γ.P Γ.w Γ.K Γ.mg Γ.base k x ps (spL Γ.K mf)) (hr : Room k Γ.A) (hg : Γ.sc.names.lookup x = some .globalImplicit) (ha : TrA Γ O L W (e :: es) ms) (hL : ∀ j ∈ L, j ∈ O) (hW : ∀ j ∈ W, j ∈ O)
    (hdb : (x == ("__debug__" : Str)) = false := by decide) (he : ∀ env : Env, starEach (e :: es) env = (false, eval e env) :: starEach es env := by intro _; rfl) (hpl : ∀ env : Env, (backTo pos (starEach es env)).any (·.1) = false := by intro _; rfl) :
    TrF Γ O L W (.Call (.Name x p) (e :: es) [] pos) (xfMap mf ms) := by
  obtain ⟨f, fd, F, hm, hk, hb⟩ := F.ex
  obtain ⟨t, pa, sa⟩ := ha
  refine ⟨tCall (spL Γ.K mf) [] E0 t, fun X h => pe_call (h.fn F) (h.room hr) (h.gl hg) (h.mgn hm) (h.kp hk) (h.bd hb) .nil pass0 (pa X h) hdb (he X.env) (hpl X.env), fun c σ H s r ds' s' e Q q => ?_⟩
  obtain ⟨ds, e1, e2⟩ := xfMap_of e
  refine sa c σ H s r _ _ e1 _ fun vs H1 r1 x1 d1 => ?_
  refine ⟨c.msk L σ, ds, ds', msk_there r1 hL, by rw [List.append_nil]; exact d1, e2, fun p us H2 hp x2 h2 d2 => q p us H2 (fresh_of r1 hW x1 p hp) (r1.ex x2) (x1.trans (ex_hide x2)) h2 d2⟩
/-- an owned list has changed, all else stands -/
theorem R.chg2 {K : PySem.W.Frag} {c : Cn} {s : MS} {σ : L2.St} {H H' : Hp} (r : R K c O s σ H) {i : Nat} {p : Addr} {vs : List V} {ds : List D} (hi : i ∈ O) (hp : σ[i]? = some (some (.ref p))) (x : Ex (hide (· = p) H) (hide (· = p) H')) (h' : H' p = some (.lst vs)) (hd : RpAll K (hide (c.msk O σ) H') vs ds) :
    R K c O (s.set i (some (.list ds))) σ H' ∧ Ex (hide (Own [i] σ) H) (hide (Own [i] σ) H') := by
  have hm : c.msk O σ p := .inr ⟨i, hi, hp⟩
  have e0 : Ex (hide (c.msk O σ) H) (hide (c.msk O σ) H') := ex_wide (fun a z => by rw [z]; exact hm) x
  have hl : i < s.length := by
    rw [r.len]
    exact (List.getElem?_eq_some_iff.mp hp).1
  refine ⟨⟨by simpa using r.len, fun j e hj h => ?_, fun j hj => ?_, r.nd, fun q h => ?_, r.th⟩, ex_wide (fun a z => by rw [z]; exact ⟨i, by simp, hp⟩) x⟩
  · have hne : j ≠ i := fun z => hj (z ▸ hi)
    rw [List.getElem?_set_ne (Ne.symm hne)] at h
    obtain ⟨v, h1, h2⟩ := r.sh j e hj h
    exact ⟨v, h1, dp_ex e0 h2⟩
  · obtain ⟨p', vs', ds', h1, h2, h3, h4, h5⟩ := r.ow j hj
    by_cases hne : j = i
    · subst hne
      rw [hp] at h1
      cases h1
      exact ⟨p, vs, ds, hp, List.getElem?_set_self hl, h', hd, h5⟩
    · have hpp : p' ≠ p := fun z => hne (r.nd j i p hj hi (z ▸ h1) hp)
      exact ⟨p', vs', ds', h1, by rw [List.getElem?_set_ne (Ne.symm hne)]; exact h2, (of_hide (x p' _ (hide_of hpp h3))).2, dpa_ex e0 h4, h5⟩
  · by_cases e : q = p
    · exact ⟨_, by rw [e]; exact h'⟩
    · obtain ⟨o, z⟩ := r.cs q h
      exact ⟨o, (of_hide (x q _ (hide_of e z))).2⟩
/-- a call that may change the list in slot i -/
def xCallT (i : Nat) (f : List D → List D → Option (D × List D)) (ms : MF) : ME := fun s => (ms s).bind fun p => match p.2.getD i none with
  | some (.list fs) => (f fs p.1).map fun q => (q.1, p.2.set i (some (.list q.2)))
  | _ => none
theorem tr_callT {mf : List D → List D → Option (D × List D)} {i : Nat} {y : Str} {py : Pos} (F : FnAt Γ.P Γ.w Γ.K Γ.mg Γ.base k x ps (spT Γ.K mf)) (hr : Room k Γ.A) (hg : Γ.sc.names.lookup x = some .globalImplicit) (hN : Γ.N[i]? = some y) (hv : visB Γ.sc y = true) (hi : i ∈ W) (ha : TrA Γ O O W es ms) (hW : ∀ j ∈ W, j ∈ O) (hL : ∀ j ∈ L, j ∈ O)
    (hdb : (x == ("__debug__" : Str)) = false := by decide) (hd : (y == ("__debug__" : Str)) = false := by decide) (hcd : (y == ("__classdict__" : Str)) = false := by decide) (hpl : ∀ env : Env, (backTo pos (starEach es env)).any (·.1) = false := by intro _; rfl) :
    TrE Γ O L W (.Call (.Name x p) (.Name y py :: es) [] pos) (xCallT i mf ms) := by
  obtain ⟨f, fd, F, hm, hk, hb⟩ := F.ex
  obtain ⟨t, pa, sa⟩ := ha
  refine ⟨tCall (spT Γ.K mf) [] E0 (tCons (tVar i) t), fun X h => pe_call (h.fn F) (h.room hr) (h.gl hg) (h.mgn hm) (h.kp hk) (h.bd hb) .nil pass0 (pa_cons (pe_var (h.nx hN) (h.vis hv) hd hcd) (pa X h)) hdb rfl (hpl X.env), fun c σ H s r d s' e Q q => ?_⟩
  unfold xCallT at e
  cases e1 : ms s with
  | none => rw [e1] at e; cases e
  | some pr =>
    obtain ⟨ds, s1⟩ := pr
    rw [e1] at e
    simp only [Option.bind_some] at e
    split at e
    · rename_i fs e2
      cases e3 : mf fs ds with
      | none => rw [e3] at e; cases e
      | some w =>
        rw [e3] at e
        cases e
        have hiO : i ∈ O := hW i hi
        obtain ⟨p0, vs0, _, h1, _⟩ := r.ow i hiO
        refine ⟨.ref p0, h1, ?_⟩
        refine sa c σ H s r _ _ e1 _ fun vs H1 r1 x1 d1 => ?_
        obtain ⟨p', us, fs', k1, k2, k3, k4, k5⟩ := r1.ow i hiO
        rw [h1] at k1
        cases k1
        have e4 : s1[i]? = some (some (.list fs)) := by
          rw [List.getD_eq_getElem?_getD] at e2
          cases e5 : s1[i]? with
          | none => rw [e5] at e2; cases e2
          | some o => rw [e5] at e2; exact congrArg some e2
        rw [k2] at e4
        cases e4
        refine ⟨c.msk O σ, p0, us, vs, fs, ds, _, _, List.append_nil _, .inr ⟨i, hiO, h1⟩, msk_there r1 (fun _ z => z), k3, k4, d1, e3, fun v H2 us' x2 h2 d2 d3 => ?_⟩
        obtain ⟨r2, x3⟩ := r1.chg2 hiO h1 x2 h2 d2
        exact q v H2 r2 (x1.trans (ex_wide (fun a ⟨j, hj, z⟩ => ⟨j, by rw [List.mem_singleton.mp hj]; exact hi, z⟩) x3)) (dp_ex (ex_hide_sub (msk_sub hL)) d3)
    · cases e
end
end Z


namespace Z
open PySem PySem.Spec PyProof.Rows L2

/-! ## what is walked -/
def ItOk (K : PySem.W.Frag) (c : Cn) (O : List Nat) (σ : L2.St) (J : It) (H : Hp) (ds : List D) : Prop := ∀ (i : Nat) (c' : Cn) (σ' : L2.St) (H' : Hp), Ex (hide (c.msk O σ) H) (hide (c'.msk O σ') H') → (∀ a, c'.msk O σ' a → ∃ o, H' a = some o) →
  (∀ d, ds[i]? = some d → J.go i H' ∧ ∀ x H'', J.yld i H' x H'' → Ex H' H'' ∧ Rp K (hide (c'.msk O σ') H'') x d) ∧ (i = ds.length → J.stop i H')
def SimI (K : PySem.W.Frag) (O W : List Nat) (wi : TI) (m : MF) : Prop := ∀ (c : Cn) (σ : L2.St) (H : Hp) (s : MS), R K c O s σ H → ∀ ds s', m s = some (ds, s') → ∀ Q : It → Hp → Prop,
  (∀ J H', R K c O s' σ H' → Ex (hide (Own W σ) H) (hide (Own W σ) H') → ItOk K c O σ J H' ds → Q J H') → wi σ H Q
def TrI (Γ : G) (O W : List Nat) (tg e : Expr) (m : MF) : Prop := ∃ wi, (∀ X, InG Γ X → PI X tg e wi) ∧ SimI Γ.K O W wi m
def iSeq (K : PySem.W.Frag) (tl : TE) : TI := fun σ H R => tl σ H fun x H1 => ∃ a, x = .ref a ∧ (((∃ xs, SqL K H1 a xs) ∧ R (Itl K a) H1) ∨ ((∃ xs, SqT K H1 a xs) ∧ R (Itt K a) H1))
theorem pi_seq {X : Cx} {tg l : Expr} {tl : TE} (hl : PE X l tl) : PI X tg l (iSeq X.K tl) := by
  refine ⟨fun pins s σ H R I h => ?_⟩
  refine thn (hl.run pins s σ H _ I h) fun v s1 ⟨x, H1, I1, r1, q1⟩ => ?_
  obtain ⟨a, e, q⟩ := q1
  subst e
  cases r1
  rcases q with ⟨⟨xs, hq⟩, q⟩ | ⟨⟨xs, hq⟩, q⟩
  · obtain ⟨its, rv, p, hz⟩ := I1.list hq
    refine wpAny_pyIter_list p.isList ?_
    refine ⟨s1.heap.objs.size, [s1.heap.objs.size], _, _, H1, rfl, I1.kept (t' := s1.toks) fun b o e => Heap.get?_push_of_some _ e, turn_list a _, ⟨_, Heap.get?_push_size _ rfl, rfl, rfl⟩, fun b hb => ?_, q⟩
    have e : b = s1.heap.objs.size := by simpa using hb
    subst e
    exact I1.fpOk (Nat.le_refl _) (I1.hok.fresh (Nat.le_refl _))
  · obtain ⟨its, rv, p, hz⟩ := I1.tuple hq
    refine wpAny_pyIter_tuple (show s1.heap.IsTuple a its.toArray from p) ?_
    refine ⟨s1.heap.objs.size, [s1.heap.objs.size], _, _, H1, rfl, I1.kept (t' := s1.toks) fun b o e => Heap.get?_push_of_some _ e, turn_tuple a _, ⟨_, Heap.get?_push_size _ rfl, rfl, rfl⟩, fun b hb => ?_, q⟩
    have e : b = s1.heap.objs.size := by simpa using hb
    subst e
    exact I1.fpOk (Nat.le_refl _) (I1.hok.fresh (Nat.le_refl _))
section
variable {K : PySem.W.Frag} {c : Cn} {O W : List Nat} {σ : L2.St} {H : Hp}
theorem itok_list {a : Addr} {vs : List V} {ds : List D} (h : SqL K (hide (c.msk O σ) H) a vs) (hd : RpAll K (hide (c.msk O σ) H) vs ds) : ItOk K c O σ (Itl K a) H ds := fun i c' σ' H' e t => by
  have h2 : SqL K H' a vs := sql_ex (e.trans ex_hide0) h
  refine ⟨fun d hi => ?_, fun hi => ⟨vs, h2, by rw [dpa_len hd, hi]; exact Nat.le_refl _⟩⟩
  obtain ⟨v, h3, h4⟩ := dpa_get hd hi
  refine ⟨⟨vs, v, h2, h3⟩, fun x H'' y => ?_⟩
  obtain ⟨rfl, y⟩ := y
  have := y vs h2
  rw [h3] at this
  cases this
  exact ⟨Ex.refl _, dp_ex e h4⟩
theorem itok_tup {a : Addr} {vs : List V} {ds : List D} (h : SqT K (hide (c.msk O σ) H) a vs) (hd : RpAll K (hide (c.msk O σ) H) vs ds) : ItOk K c O σ (Itt K a) H ds := fun i c' σ' H' e t => by
  have h2 : SqT K H' a vs := sqt_ex (e.trans ex_hide0) h
  refine ⟨fun d hi => ?_, fun hi => ⟨vs, h2, by rw [dpa_len hd, hi]; exact Nat.le_refl _⟩⟩
  obtain ⟨v, h3, h4⟩ := dpa_get hd hi
  refine ⟨⟨vs, v, h2, h3⟩, fun x H'' y => ?_⟩
  obtain ⟨rfl, y⟩ := y
  have := y vs h2
  rw [h3] at this
  cases this
  exact ⟨Ex.refl _, dp_ex e h4⟩
theorem itok_rng {lo hi : Int} : ItOk K c O σ (Itr lo (hi - lo).toNat) H (dRg lo hi) := fun i c' σ' H' e t => by
  have hl : (dRg lo hi).length = (hi - lo).toNat := by unfold dRg; rw [List.length_map, List.length_range]
  refine ⟨fun d h => ?_, fun h => by rw [hl] at h; show (hi - lo).toNat ≤ i; omega⟩
  have hi' := (List.getElem?_eq_some_iff.mp h).1
  rw [hl] at hi'
  refine ⟨hi', fun x H'' y => ?_⟩
  obtain ⟨rfl, rfl⟩ := y
  unfold dRg at h
  rw [List.getElem?_map, List.getElem?_range hi'] at h
  cases h
  exact ⟨Ex.refl _, .int _⟩
theorem itok_enum {a : Addr} {vs : List V} {ds : List D} (h : SqL K (hide (c.msk O σ) H) a vs) (hd : RpAll K (hide (c.msk O σ) H) vs ds) : ItOk K c O σ (Ite K a) H (ds.mapIdx fun i d => .tuple [.int (i : Nat), d]) := fun i c' σ' H' e t => by
  have h2 : SqL K H' a vs := sql_ex (e.trans ex_hide0) h
  refine ⟨fun d hi => ?_, fun hi => ⟨vs, h2, by rw [dpa_len hd, hi, List.length_mapIdx]; exact Nat.le_refl _⟩⟩
  rw [List.getElem?_mapIdx] at hi
  cases e1 : ds[i]? with
  | none => rw [e1] at hi; cases hi
  | some d0 =>
    rw [e1] at hi
    cases hi
    obtain ⟨v, h3, h4⟩ := dpa_get hd e1
    refine ⟨⟨vs, v, h2, h3⟩, fun x H'' y => ?_⟩
    obtain ⟨T, x, rfl, hT, rfl, y⟩ := y
    have := y vs h2
    rw [h3] at this
    cases this
    have ex := ex_upd (o := HO.tup [V.int (i : Nat), v]) hT
    refine ⟨ex, .tup (.inl (.inl (hide_of (fun z => ?_) upd_same))) (.cons (.int _) (.cons (dp_ex (e.trans (ex_hide ex)) h4) .nil))⟩
    obtain ⟨o, z⟩ := t T z
    rw [hT] at z; cases z
theorem itok_zip {a b : Addr} {vs us : List V} {ds es : List D} (h : SqL K (hide (c.msk O σ) H) a vs) (hd : RpAll K (hide (c.msk O σ) H) vs ds) (hb : SqL K (hide (c.msk O σ) H) b us) (hdb : RpAll K (hide (c.msk O σ) H) us es) : ItOk K c O σ (Itz K a b) H ((ds.zip es).map fun p => .tuple [p.1, p.2]) := fun i c' σ' H' e t => by
  have h2 : SqL K H' a vs := sql_ex (e.trans ex_hide0) h
  have h2b : SqL K H' b us := sql_ex (e.trans ex_hide0) hb
  refine ⟨fun d hi => ?_, fun hi => ⟨vs, us, h2, h2b, ?_⟩⟩
  · rw [List.getElem?_map] at hi
    cases e1 : (ds.zip es)[i]? with
    | none => rw [e1] at hi; cases hi
    | some d0 =>
      rw [e1] at hi
      cases hi
      obtain ⟨g1, g2⟩ := List.getElem?_zip_eq_some.mp e1
      obtain ⟨v, h3, h4⟩ := dpa_get hd g1
      obtain ⟨u, h3b, h4b⟩ := dpa_get hdb g2
      refine ⟨⟨vs, us, v, u, h2, h2b, h3, h3b⟩, fun x H'' y => ?_⟩
      obtain ⟨T, x, x2, rfl, hT, rfl, y, y2⟩ := y
      have := y vs h2
      rw [h3] at this
      cases this
      have := y2 us h2b
      rw [h3b] at this
      cases this
      have ex := ex_upd (o := HO.tup [v, u]) hT
      refine ⟨ex, .tup (.inl (.inl (hide_of (fun z => ?_) upd_same))) (.cons (dp_ex (e.trans (ex_hide ex)) h4) (.cons (dp_ex (e.trans (ex_hide ex)) h4b) .nil))⟩
      obtain ⟨o, z⟩ := t T z
      rw [hT] at z; cases z
  · rw [List.length_map, List.length_zip] at hi
    rw [dpa_len hd, dpa_len hdb]
    omega
theorem itok_str {z : Str} : ItOk K c O σ (Its z) H (z.cps.toList.map fun k => .str ⟨#[k]⟩) := fun i c' σ' H' e t => by
  refine ⟨fun d hi => ?_, fun hi => by rw [List.length_map, Array.length_toList] at hi; show z.cps.size ≤ i; omega⟩
  rw [List.getElem?_map] at hi
  cases e1 : z.cps.toList[i]? with
  | none => rw [e1] at hi; cases hi
  | some k =>
    rw [e1] at hi
    cases hi
    have hlt := (List.getElem?_eq_some_iff.mp e1).1
    rw [Array.length_toList] at hlt
    refine ⟨hlt, fun x H'' y => ?_⟩
    obtain ⟨rfl, k', e2, rfl⟩ := y
    rw [Array.getElem?_toList] at e1
    rw [e1] at e2
    cases e2
    exact ⟨Ex.refl _, .str _⟩
end
section
variable {Γ : G} {O L0 W : List Nat} {tg a b e : Expr} {m ma mb : ME} {ms mt : MF} {p pos tpos : Pos} {elts : List Expr} {kk : Nat}
theorem ti_E (hW : ∀ j ∈ W, j ∈ O) (h : TrE Γ O O W e m) : TrI Γ O W tg e (xSeq m) := by
  obtain ⟨t, p, q⟩ := h
  refine ⟨iSeq Γ.K t, fun X h => by rw [← h.K]; exact pi_seq (p X h), fun c σ H s r ds s' e Q k => ?_⟩
  obtain ⟨d, e1, e2⟩ := xSeq_of e
  refine q c σ H s r _ _ e1 _ fun v H' r' ex hd => ?_
  cases hd <;> first | (cases e2; done) | skip
  · cases e2
    exact ⟨_, rfl, .inl ⟨⟨_, sql_ex ex_hide0 ‹_›⟩, k _ H' r' ex (itok_list ‹_› ‹_›)⟩⟩
  · cases e2
    exact ⟨_, rfl, .inr ⟨⟨_, sqt_ex ex_hide0 ‹_›⟩, k _ H' r' ex (itok_tup ‹_› ‹_›)⟩⟩
theorem ti_F (h : TrF Γ O O W e ms) : TrI Γ O W tg e ms := by
  obtain ⟨t, p, q⟩ := h
  refine ⟨iList Γ.K t, fun X h => by rw [← h.K]; exact pi_list (p X h), fun c σ H s r ds s' e Q k => ?_⟩
  refine q c σ H s r _ _ e _ fun p vs H' hp r' ex ha hd => ⟨p, rfl, ⟨vs, .inl (.inl ha)⟩, k _ H' (r'.ex ex_hide0) (ex.trans (ex_hide ex_hide0)) (itok_list (.inl (.inl (hide_of (fun z => ?_) ha))) (dpa_ex (ex_hide ex_hide0) hd))⟩
  obtain ⟨o, z⟩ := msk_there r' (fun _ z => z) p z
  exact (of_hide z).1 rfl
theorem ti_rng1 (hg : Γ.sc.names.lookup ("range" : Str) = some .globalImplicit) (hm : Γ.mg "range" = none) (h : TrE Γ O L0 W a m) (hs : ∀ env : Env, starEach [a] env = [(false, eval a env)] := by intro _; rfl) : TrI Γ O W tg (.Call (.Name "range" p) [a] [] pos) (xRg1 m) := by
  obtain ⟨t, pa, q⟩ := h
  refine ⟨iRng1 (tCons t tNil), fun X h => pi_range1 (h.gl hg) (h.mgn hm) (pa_cons (pa X h) pa_nil (hs X.env)) (hs X.env), fun c σ H s r ds s' e Q k => ?_⟩
  obtain ⟨n, e1, hn, rfl⟩ := xRg1_of e
  refine q c σ H s r _ _ e1 _ fun v H1 r1 x1 d1 => ?_
  cases d1
  refine ⟨n, rfl, by omega, by omega, k _ H1 r1 x1 ?_⟩
  have := itok_rng (K := Γ.K) (c := c) (O := O) (σ := σ) (H := H1) (lo := 0) (hi := n)
  rw [Int.sub_zero] at this
  exact this
def xRg2 (a b : ME) : MF := fun s => (a s).bind fun p => (b p.2).bind fun q => match p.1, q.1 with
  | .int x, .int n => if (n ≤ 1000000 ∧ -1000000 ≤ n) ∧ (x ≤ 1000000 ∧ -1000000 ≤ x) then some (dRg x n, q.2) else none
  | _, _ => none
theorem ti_rng2 (hg : Γ.sc.names.lookup ("range" : Str) = some .globalImplicit) (hm : Γ.mg "range" = none) (ha : TrE Γ O L0 W a ma) (hb : TrE Γ O L0 W b mb) (hs : ∀ env : Env, starEach [a, b] env = (false, eval a env) :: starEach [b] env := by intro _; rfl) (hs1 : ∀ env : Env, starEach [a, b] env = [(false, eval a env), (false, eval b env)] := by intro _; rfl) (hs2 : ∀ env : Env, starEach [b] env = [(false, eval b env)] := by intro _; rfl) :
    TrI Γ O W tg (.Call (.Name "range" p) [a, b] [] pos) (xRg2 ma mb) := by
  obtain ⟨t, pa, q⟩ := ha
  obtain ⟨t2, pb, q2⟩ := hb
  refine ⟨iRng2 (tCons t (tCons t2 tNil)), fun X h => pi_range2 (h.gl hg) (h.mgn hm) (pa_cons (pa X h) (pa_cons (pb X h) pa_nil (hs2 X.env)) (hs X.env)) (hs1 X.env) (hs2 X.env), fun c σ H s r ds s' e Q k => ?_⟩
  unfold xRg2 at e
  cases e1 : ma s with
  | none => rw [e1] at e; cases e
  | some pr =>
    obtain ⟨d, s1⟩ := pr
    rw [e1] at e
    simp only [Option.bind_some] at e
    cases e2 : mb s1 with
    | none => rw [e2] at e; cases e
    | some pr2 =>
      obtain ⟨d2, s2⟩ := pr2
      rw [e2] at e
      simp only [Option.bind_some] at e
      cases d <;> first | (cases e; done) | skip
      cases d2 <;> first | (cases e; done) | skip
      dsimp only at e
      split at e
      · cases e
        refine q c σ H s r _ _ e1 _ fun v H1 r1 x1 d1 => ?_
        refine q2 c σ H1 _ r1 _ _ e2 _ fun v H2 r2 x2 d2 => ?_
        cases d1; cases d2
        exact ⟨_, _, rfl, ⟨by omega, by omega, by omega, by omega⟩, k _ H2 r2 (x1.trans x2) itok_rng⟩
      · cases e
/-- a list that nothing owned reaches -/
def SimZ (K : PySem.W.Frag) (O W : List Nat) (t : TE) (m : MF) : Prop := ∀ (c : Cn) (σ : L2.St) (H : Hp) (s : MS), R K c O s σ H → ∀ ds s', m s = some (ds, s') → ∀ Q : VK,
  (∀ p vs H', R K c O s' σ H' → Ex (hide (Own W σ) H) (hide (Own W σ) H') → SqL K (hide (c.msk O σ) H') p vs → RpAll K (hide (c.msk O σ) H') vs ds → Q (.ref p) H') → t σ H Q
def TrZ (Γ : G) (O W : List Nat) (e : Expr) (m : MF) : Prop := ∃ t, (∀ X, InG Γ X → PE X e t) ∧ SimZ Γ.K O W t m
theorem tz_E (h : TrE Γ O O W e m) : TrZ Γ O W e (xList m) := by
  obtain ⟨t, p, q⟩ := h
  refine ⟨t, p, fun c σ H s r ds s' e Q k => q c σ H s r _ _ (xList_of e) _ fun v H' r' ex hd => ?_⟩
  cases hd with
  | lst h a => exact k _ _ H' r' ex h a
theorem tz_F (h : TrF Γ O O W e ms) : TrZ Γ O W e ms := by
  obtain ⟨t, p, q⟩ := h
  refine ⟨t, p, fun c σ H s r ds s' e Q k => q c σ H s r _ _ e _ fun p vs H' hp r' ex ha hd => k p vs H' (r'.ex ex_hide0) (ex.trans (ex_hide ex_hide0)) (.inl (.inl (hide_of (fun z => ?_) ha))) (dpa_ex (ex_hide ex_hide0) hd)⟩
  obtain ⟨o, z⟩ := msk_there r' (fun _ z => z) p z
  exact (of_hide z).1 rfl
def xEnum (m : MF) : MF := fun s => (m s).map fun p => (p.1.mapIdx fun i d => .tuple [.int (i : Nat), d], p.2)
def xZip (a b : MF) : MF := fun s => (a s).bind fun p => (b p.2).map fun q => ((p.1.zip q.1).map fun w => .tuple [w.1, w.2], q.2)
theorem ti_enum (hg : Γ.sc.names.lookup ("enumerate" : Str) = some .globalImplicit) (hm : Γ.mg "enumerate" = none) (h : TrZ Γ O W e ms) (hs : ∀ env : Env, starEach [e] env = [(false, eval e env)] := by intro _; rfl) : TrI Γ O W (.Tuple elts kk tpos) (.Call (.Name "enumerate" p) [e] [] pos) (xEnum ms) := by
  obtain ⟨t, pa, q⟩ := h
  refine ⟨iEnum Γ.K (tCons t tNil), fun X h => by rw [← h.K]; exact pi_enum (h.gl hg) (h.mgn hm) (pa_cons (pa X h) pa_nil (hs X.env)) (hs X.env), fun c σ H s r ds s' e Q k => ?_⟩
  unfold xEnum at e
  cases e1 : ms s with
  | none => rw [e1] at e; cases e
  | some pr =>
    rw [e1] at e
    cases e
    exact q c σ H s r _ _ e1 _ fun v vs H1 r1 x1 h1 d1 => ⟨v, vs, rfl, sql_ex ex_hide0 h1, k _ H1 r1 x1 (itok_enum h1 d1)⟩
theorem ti_zip (hg : Γ.sc.names.lookup ("zip" : Str) = some .globalImplicit) (hm : Γ.mg "zip" = none) (ha : TrZ Γ O W a ms) (hb : TrZ Γ O W b mt) (hW : ∀ j ∈ W, j ∈ O) (hs : ∀ env : Env, starEach [a, b] env = (false, eval a env) :: starEach [b] env := by intro _; rfl) (hs2 : ∀ env : Env, starEach [b] env = [(false, eval b env)] := by intro _; rfl)
    (hpl : ∀ env : Env, (backTo pos (starEach [b] env)).any (·.1) = false := by intro _; rfl) : TrI Γ O W (.Tuple elts kk tpos) (.Call (.Name "zip" p) [a, b] [] pos) (xZip ms mt) := by
  obtain ⟨t, pa, q⟩ := ha
  obtain ⟨t2, pb, q2⟩ := hb
  refine ⟨iZip Γ.K (tCons t (tCons t2 tNil)), fun X h => by rw [← h.K]; exact pi_zip (h.gl hg) (h.mgn hm) (pa_cons (pa X h) (pa_cons (pb X h) pa_nil (hs2 X.env)) (hs X.env)) (hs X.env) (hpl X.env), fun c σ H s r ds s' e Q k => ?_⟩
  unfold xZip at e
  cases e1 : ms s with
  | none => rw [e1] at e; cases e
  | some pr =>
    rw [e1] at e
    simp only [Option.bind_some] at e
    cases e2 : mt pr.2 with
    | none => rw [e2] at e; cases e
    | some pr2 =>
      rw [e2] at e
      cases e
      refine q c σ H s r _ _ e1 _ fun v vs H1 r1 x1 h1 d1 => ?_
      refine q2 c σ H1 _ r1 _ _ e2 _ fun u us H2 r2 x2 h2 d2 => ?_
      have kp := keep (c := c) hW x2
      exact ⟨v, u, vs, us, rfl, sql_ex (kp.trans ex_hide0) h1, sql_ex ex_hide0 h2, k _ H2 r2 (x1.trans x2) (itok_zip (sql_ex kp h1) (dpa_ex kp d1) h2 d2)⟩
def xSigns (m : ME) : MF := fun s => (m s).bind fun p => match p.1 with
  | .str z => some (z.cps.toList.map fun k => .str ⟨#[k]⟩, p.2)
  | _ => none
theorem ti_str {L : List Nat} (h : TrE Γ O L W e m) : TrI Γ O W tg e (xSigns m) := by
  obtain ⟨t, p, q⟩ := h
  refine ⟨iStr t, fun X h => pi_str (p X h), fun c σ H s r ds s' e Q k => ?_⟩
  unfold xSigns at e
  cases e1 : m s with
  | none => rw [e1] at e; cases e
  | some pr =>
    obtain ⟨d, s1⟩ := pr
    rw [e1] at e
    simp only [Option.bind_some] at e
    cases d <;> first | (cases e; done) | skip
    cases e
    refine q c σ H s r _ _ e1 _ fun v H1 r1 x1 d1 => ?_
    cases d1
    exact ⟨_, rfl, k _ H1 r1 x1 itok_str⟩
end

/-! ## targets -/
/-- two frames that differ in some slots alone -/
def Off (vs : List Nat) (σ σ' : L2.St) : Prop := σ'.length = σ.length ∧ ∀ j, j ∉ vs → σ'[j]? = σ[j]?
theorem Off.refl (vs : List Nat) (σ : L2.St) : Off vs σ σ := ⟨rfl, fun _ _ => rfl⟩
theorem Off.trans {vs : List Nat} {a b c : L2.St} (h : Off vs a b) (k : Off vs b c) : Off vs a c := ⟨k.1.trans h.1, fun j hj => (k.2 j hj).trans (h.2 j hj)⟩
theorem wipe_get (σ : L2.St) : ∀ (vs : List Nat) (j : Nat), (wipe σ vs)[j]? = if j ∈ vs ∧ j < σ.length then some none else σ[j]?
  | [], j => by simp [wipe]
  | v :: vs, j => by
    unfold wipe
    by_cases e : v = j
    · subst e
      by_cases hl : v < σ.length
      · rw [List.getElem?_set_self (by rw [wipe_length]; exact hl), if_pos ⟨List.mem_cons_self, hl⟩]
      · rw [if_neg (fun h => hl h.2), List.getElem?_eq_none (by rw [List.length_set, wipe_length]; omega), List.getElem?_eq_none (by omega)]
    · rw [List.getElem?_set_ne e, wipe_get σ vs j]
      by_cases h : j ∈ vs ∧ j < σ.length
      · rw [if_pos h, if_pos ⟨List.mem_cons_of_mem _ h.1, h.2⟩]
      · rw [if_neg h, if_neg (fun q => h ⟨(List.mem_cons.mp q.1).resolve_left (fun z => e z.symm), q.2⟩)]
theorem Off.wipe {vs : List Nat} {σ σ' : L2.St} (h : Off vs σ σ') : wipe σ' vs = wipe σ vs := by
  apply List.ext_getElem?
  intro j
  rw [wipe_get, wipe_get, h.1]
  by_cases e : j ∈ vs
  · by_cases hl : j < σ.length
    · rw [if_pos ⟨e, hl⟩, if_pos ⟨e, hl⟩]
    · rw [if_neg (fun z => hl z.2), if_neg (fun z => hl z.2), List.getElem?_eq_none (by rw [h.1]; omega), List.getElem?_eq_none (by omega)]
  · rw [if_neg (fun z => e z.1), if_neg (fun z => e z.1), h.2 j e]
theorem off_wipe (vs : List Nat) (σ : L2.St) : Off vs σ (L2.wipe σ vs) := ⟨wipe_length _ _, fun j hj => by rw [wipe_get, if_neg (fun z => hj z.1)]⟩
theorem Off.own {vs L : List Nat} {σ σ' : L2.St} (h : Off vs σ σ') (d : ∀ j ∈ L, j ∉ vs) : Own L σ' = Own L σ := by
  funext a
  refine propext ⟨fun ⟨j, hj, e⟩ => ⟨j, hj, ?_⟩, fun ⟨j, hj, e⟩ => ⟨j, hj, ?_⟩⟩
  · rw [← h.2 j (d j hj)]; exact e
  · rw [h.2 j (d j hj)]; exact e
theorem Off.msk {vs L : List Nat} {σ σ' : L2.St} {c : Cn} (h : Off vs σ σ') (d : ∀ j ∈ L, j ∉ vs) : c.msk L σ' = c.msk L σ := by
  unfold Cn.msk
  rw [h.own d]
/-- a target's binding: slots vs, none of them owned -/
def SimG (K : PySem.W.Frag) (O vs : List Nat) (g : TG) (b : D → MS → Option MS) : Prop := ∀ (c : Cn) (σ : L2.St) (H : Hp) (s : MS) (v : V) (d : D), R K c O s σ H → Rp K (hide (c.msk O σ) H) v d → ∀ s', b d s = some s' → ∀ Q : L2.St → Hp → Prop,
  (∀ σ', R K c O s' σ' H → Off vs σ σ' → Q σ' H) → g v σ H Q
def SimGs (K : PySem.W.Frag) (O vs : List Nat) (g : TGs) (b : List D → MS → Option MS) : Prop := ∀ (c : Cn) (σ : L2.St) (H : Hp) (s : MS) (us : List V) (ds : List D), R K c O s σ H → RpAll K (hide (c.msk O σ) H) us ds → ∀ s', b ds s = some s' → ∀ Q : L2.St → Hp → Prop,
  (∀ σ', R K c O s' σ' H → Off vs σ σ' → Q σ' H) → g us σ H Q
def TrG (Γ : G) (O vs : List Nat) (tg : Expr) (b : D → MS → Option MS) : Prop := ∃ g, (∀ X, InG Γ X → PG X tg g) ∧ SimG Γ.K O vs g b
def TrGs (Γ : G) (O vs : List Nat) (tgs : List Expr) (b : List D → MS → Option MS) : Prop := ∃ g, (∀ X, InG Γ X → PGs X tgs g) ∧ SimGs Γ.K O vs g b
def bName (i : Nat) : D → MS → Option MS := fun d s => some (s.set i (some d))
def bNil : List D → MS → Option MS := fun ds s => match ds with
  | [] => some s
  | _ => none
def bCons (b : D → MS → Option MS) (bs : List D → MS → Option MS) : List D → MS → Option MS := fun ds s => match ds with
  | [] => none
  | d :: r => (b d s).bind (bs r)
def bTup (n : Nat) (bs : List D → MS → Option MS) : D → MS → Option MS := fun d s => match d with
  | .tuple ds => if ds.length = n then bs ds s else none
  | _ => none
def locB (Γ : G) (x : Str) : Bool := match Γ.sc.names.lookup x with
  | some .local => true
  | some .cell => Γ.fnc x
  | _ => false
theorem InG.loc {Γ : G} {X : Cx} {x : Str} (h : InG Γ X) (e : locB Γ x = true) : L2.Loc X.env.scope x ∧ (X.fn x = true ∨ X.env.scope.names.lookup x = some .local) := by
  rw [h.sc, h.fnc]
  unfold locB at e
  unfold L2.Loc
  split at e
  · exact ⟨.inl ‹_›, .inr ‹_›⟩
  · exact ⟨.inr ‹_›, .inl e⟩
  · cases e
theorem filter_ne {O : List Nat} {i : Nat} (h : i ∉ O) : O.filter (· ≠ i) = O := List.filter_eq_self.mpr fun a ha => by
  have : a ≠ i := by intro z; subst z; exact h ha
  simpa using this
section
variable {Γ : G} {O vs : List Nat} {es : List Expr} {pos : Pos}
theorem tg_name {i : Nat} {x : Str} (hN : Γ.N[i]? = some x) (hv : locB Γ x = true) (hi : i ∉ O) (hvs : i ∈ vs) : TrG Γ O vs (.Name x pos) (bName i) := by
  refine ⟨gName i, fun X h => pg_name h.ndX (h.nx hN) (h.loc hv).1 (h.loc hv).2, fun c σ H s v d r hd s' e Q q => ?_⟩
  cases e
  by_cases hl : i < σ.length
  · have := (r.set (i := i) hd (fun z => hi (r.th i z).1) hl).1
    rw [filter_ne hi] at this
    exact q _ this ⟨by simp, fun j hj => List.getElem?_set_ne (by intro z; subst z; exact hj hvs)⟩
  · have e1 : s.set i (some d) = s := List.set_eq_of_length_le (by rw [r.len]; omega)
    have e2 : σ.set i (some v) = σ := List.set_eq_of_length_le (by omega)
    show Q (σ.set i (some v)) H
    rw [e2]
    rw [e1] at q
    exact q σ r (Off.refl _ _)
theorem tgs_nil : TrGs Γ O vs [] bNil := ⟨gNil, fun _ _ => pgs_nil, fun c σ H s us ds r hd s' e Q q => by
  cases hd with
  | nil => cases e; exact ⟨rfl, q σ r (Off.refl _ _)⟩
  | cons _ _ => cases e⟩
theorem tgs_cons {e : Expr} {b : D → MS → Option MS} {bs : List D → MS → Option MS} (h : TrG Γ O vs e b) (hs : TrGs Γ O vs es bs) (hd : ∀ j ∈ O, j ∉ vs) (ha : ∀ env : Env, (assignEach (e :: es) env).map (·.2) = assign e env :: (assignEach es env).map (·.2) := by intro _; rfl) : TrGs Γ O vs (e :: es) (bCons b bs) := by
  obtain ⟨g, p, q⟩ := h
  obtain ⟨gs, ps, qs⟩ := hs
  refine ⟨gCons g gs, fun X h => pgs_cons (p X h) (ps X h) (ha X.env), fun c σ H s us ds r hds s' e Q k => ?_⟩
  cases hds with
  | nil => cases e
  | cons h1 h2 =>
    rename_i v us d ds
    unfold bCons at e
    dsimp only at e
    cases e1 : b d s with
    | none => rw [e1] at e; cases e
    | some s1 =>
      rw [e1] at e
      refine ⟨v, us, rfl, q c σ H s v d r h1 s1 e1 _ fun σ1 r1 o1 => ?_⟩
      exact qs c σ1 H s1 us ds r1 (by rw [o1.msk hd]; exact h2) s' e Q fun σ2 r2 o2 => k σ2 r2 (o1.trans o2)
theorem tg_tup {k n : Nat} {bs : List D → MS → Option MS} (hs : TrGs Γ O vs es bs) (hn : ∀ env : Env, (assignEach es env).length = n := by intro _; rfl) (hst : ∀ env : Env, (assignEach es env).findIdx? (·.1) = none := by intro _; rfl) : TrG Γ O vs (.Tuple es k pos) (bTup n bs) := by
  obtain ⟨gs, ps, qs⟩ := hs
  refine ⟨gTup Γ.K n gs, fun X h => by rw [← h.K]; exact pg_tup h.calm (ps X h) (hn X.env) (hst X.env), fun c σ H s v d r hd s' e Q q => ?_⟩
  cases hd <;> first | (cases e; done) | skip
  rename_i a xs ds h1 h2
  unfold bTup at e
  dsimp only at e
  split at e
  · rename_i hl
    exact ⟨a, xs, rfl, sqt_ex ex_hide0 h1, by rw [dpa_len h2]; exact hl, qs c σ H s xs ds r h2 s' e Q q⟩
  · cases e
end
end Z


namespace Z
open PySem PySem.Spec PyProof.Rows L2

/-! ## comprehensions -/
def wipeM (s : MS) : List Nat → MS
  | [] => s
  | v :: vs => (wipeM s vs).set v none
def unwipe (s0 s : MS) : List Nat → MS
  | [] => s
  | v :: vs => (unwipe s0 s vs).set v (s0.getD v none)
theorem wipeM_len (s : MS) : ∀ vs : List Nat, (wipeM s vs).length = s.length
  | [] => rfl
  | v :: vs => by unfold wipeM; rw [List.length_set, wipeM_len s vs]
theorem unwipe_len (s0 s : MS) : ∀ vs : List Nat, (unwipe s0 s vs).length = s.length
  | [] => rfl
  | v :: vs => by unfold unwipe; rw [List.length_set, unwipe_len s0 s vs]
theorem wipeM_get (σ : MS) : ∀ (vs : List Nat) (j : Nat), (wipeM σ vs)[j]? = if j ∈ vs ∧ j < σ.length then some none else σ[j]?
  | [], j => by simp [wipeM]
  | v :: vs, j => by
    unfold wipeM
    by_cases e : v = j
    · subst e
      by_cases hl : v < σ.length
      · rw [List.getElem?_set_self (by rw [wipeM_len]; exact hl), if_pos ⟨List.mem_cons_self, hl⟩]
      · rw [if_neg (fun h => hl h.2), List.getElem?_eq_none (by rw [List.length_set, wipeM_len]; omega), List.getElem?_eq_none (by omega)]
    · rw [List.getElem?_set_ne e, wipeM_get σ vs j]
      by_cases h : j ∈ vs ∧ j < σ.length
      · rw [if_pos h, if_pos ⟨List.mem_cons_of_mem _ h.1, h.2⟩]
      · rw [if_neg h, if_neg (fun q => h ⟨(List.mem_cons.mp q.1).resolve_left (fun z => e z.symm), q.2⟩)]
theorem unwipe_get (s0 s : MS) : ∀ (vs : List Nat) (j : Nat), (unwipe s0 s vs)[j]? = if j ∈ vs ∧ j < s.length then some (s0.getD j none) else s[j]?
  | [], j => by simp [unwipe]
  | v :: vs, j => by
    unfold unwipe
    by_cases e : v = j
    · subst e
      by_cases hl : v < s.length
      · rw [List.getElem?_set_self (by rw [unwipe_len]; exact hl), if_pos ⟨List.mem_cons_self, hl⟩]
      · rw [if_neg (fun h => hl h.2), List.getElem?_eq_none (by rw [List.length_set, unwipe_len]; omega), List.getElem?_eq_none (by omega)]
    · rw [List.getElem?_set_ne e, unwipe_get s0 s vs j]
      by_cases h : j ∈ vs ∧ j < s.length
      · rw [if_pos h, if_pos ⟨List.mem_cons_of_mem _ h.1, h.2⟩]
      · rw [if_neg h, if_neg (fun q => h ⟨(List.mem_cons.mp q.1).resolve_left (fun z => e z.symm), q.2⟩)]
def Cn.add (c : Cn) (D : Addr) : Cn := { c with C := fun a => c.C a ∨ a = D }
section
variable {K : PySem.W.Frag} {c : Cn} {O L W vs : List Nat} {s s0 : MS} {σ : L2.St} {H H1 : Hp} {D : Addr} {o : HO}
theorem R.wipeR (r : R K c O s σ H) (hv : ∀ j ∈ O, j ∉ vs) : R K c O (wipeM s vs) (wipe σ vs) H where
  len := by rw [wipeM_len, wipe_length]; exact r.len
  sh := fun i d hi h => by
    rw [wipeM_get] at h
    split at h
    · cases h
    · rename_i hn
      obtain ⟨v, h1, h2⟩ := r.sh i d hi h
      have hl : i < s.length := (List.getElem?_eq_some_iff.mp h).1
      have hi2 : i ∉ vs := fun z => hn ⟨z, hl⟩
      exact ⟨v, by rw [(off_wipe vs σ).2 i hi2]; exact h1, by rw [(off_wipe vs σ).msk hv]; exact h2⟩
  ow := fun i hi => by
    obtain ⟨p, us, ds, h1, h2, h3, h4, h5⟩ := r.ow i hi
    exact ⟨p, us, ds, by rw [(off_wipe vs σ).2 i (hv i hi)]; exact h1, by rw [wipeM_get, if_neg (fun z => hv i hi z.1)]; exact h2, h3, by rw [(off_wipe vs σ).msk hv]; exact h4, h5⟩
  nd := fun i j p hi hj h1 h2 => r.nd i j p hi hj (by rw [← (off_wipe vs σ).2 i (hv i hi)]; exact h1) (by rw [← (off_wipe vs σ).2 j (hv j hj)]; exact h2)
  cs := r.cs
  th := fun i hi => ⟨(r.th i hi).1, by rw [(off_wipe vs σ).2 i (hv i (r.th i hi).1)]; exact (r.th i hi).2⟩
/-- a new object is hidden for the callee's sake -/
theorem R.addC (r : R K c O s σ H) (hD : H D = none) : R K (c.add D) O s σ (upd H D o) := by
  have e : Ex (hide (c.msk O σ) H) (hide ((c.add D).msk O σ) (upd H D o)) := fun a u q => by
    obtain ⟨n, q⟩ := of_hide q
    have ne : a ≠ D := ne_of_none q hD
    refine hide_of (fun z => ?_) (by rw [upd_ne ne]; exact q)
    rcases z with (z | z) | z
    · exact n (.inl z)
    · exact ne z
    · exact n (.inr z)
  refine ⟨r.len, fun i d hi h => ?_, fun i hi => ?_, r.nd, fun p h => ?_, r.th⟩
  · obtain ⟨v, h1, h2⟩ := r.sh i d hi h
    exact ⟨v, h1, dp_ex e h2⟩
  · obtain ⟨p, us, ds, h1, h2, h3, h4, h5⟩ := r.ow i hi
    have ne : p ≠ D := ne_of_none h3 hD
    exact ⟨p, us, ds, h1, h2, by rw [upd_ne ne]; exact h3, dpa_ex e h4, fun z => z.elim h5 ne⟩
  · by_cases ne : p = D
    · exact ⟨_, by rw [ne]; exact upd_same⟩
    · obtain ⟨u, q⟩ := r.cs p (h.resolve_right ne)
      exact ⟨u, by rw [upd_ne ne]; exact q⟩
/-- what the caller hides may change -/
theorem R.updC (r : R K c O s σ H) (hC : c.C D) : R K c O s σ (upd H D o) := by
  have e : Ex (hide (c.msk O σ) H) (hide (c.msk O σ) (upd H D o)) := ex_hide_up (.inl hC)
  refine ⟨r.len, fun i d hi h => ?_, fun i hi => ?_, r.nd, fun p h => ?_, r.th⟩
  · obtain ⟨v, h1, h2⟩ := r.sh i d hi h
    exact ⟨v, h1, dp_ex e h2⟩
  · obtain ⟨p, us, ds, h1, h2, h3, h4, h5⟩ := r.ow i hi
    have ne : p ≠ D := fun z => h5 (z ▸ hC)
    exact ⟨p, us, ds, h1, h2, by rw [upd_ne ne]; exact h3, dpa_ex e h4, h5⟩
  · by_cases ne : p = D
    · exact ⟨_, by rw [ne]; exact upd_same⟩
    · obtain ⟨u, q⟩ := r.cs p h
      exact ⟨u, by rw [upd_ne ne]; exact q⟩
/-- back from a block -/
theorem R.unblk (r : R K (c.add D) O s (wipe σ vs) H) (r0 : R K c O s0 σ H1) (hD : H1 D = none) (hv : ∀ j ∈ O, j ∉ vs) (e0 : Ex (hide (c.msk O σ) H1) (hide (c.msk O σ) (hide (· = D) H))) : R K c O (unwipe s0 s vs) σ (hide (· = D) H) := by
  have em : (c.add D).msk O (wipe σ vs) = (c.add D).msk O σ := (off_wipe vs σ).msk hv
  have e : Ex (hide ((c.add D).msk O (wipe σ vs)) H) (hide (c.msk O σ) (hide (· = D) H)) := fun a u q => by
    rw [em] at q
    obtain ⟨n, q⟩ := of_hide q
    exact hide_of (fun z => n (z.elim (fun z => .inl (.inl z)) .inr)) (hide_of (fun z => n (.inl (.inr z))) q)
  refine ⟨by rw [unwipe_len, r.len, wipe_length], fun i d hi h => ?_, fun i hi => ?_, r0.nd, fun p h => ?_, r0.th⟩
  · rw [unwipe_get] at h
    split at h
    · rename_i hh
      have h' : s0[i]? = some (some d) := by
        rw [List.getD_eq_getElem?_getD] at h
        cases e3 : s0[i]? with
        | none => rw [e3] at h; cases h
        | some w => rw [e3] at h; exact h
      obtain ⟨v, h1, h2⟩ := r0.sh i d hi h'
      exact ⟨v, h1, dp_ex e0 h2⟩
    · rename_i hn
      have hl : i < s.length := (List.getElem?_eq_some_iff.mp h).1
      have hi2 : i ∉ vs := fun z => hn ⟨z, hl⟩
      obtain ⟨v, h1, h2⟩ := r.sh i d hi h
      exact ⟨v, by rw [← (off_wipe vs σ).2 i hi2]; exact h1, dp_ex e h2⟩
  · obtain ⟨p, us, ds, h1, h2, h3, h4, h5⟩ := r.ow i hi
    have ne : p ≠ D := fun z => h5 (.inr z)
    exact ⟨p, us, ds, by rw [← (off_wipe vs σ).2 i (hv i hi)]; exact h1, by rw [unwipe_get, if_neg (fun z => hv i hi z.1)]; exact h2, hide_of ne h3, dpa_ex e h4, fun z => h5 (.inl z)⟩
  · obtain ⟨u, q⟩ := r0.cs p h
    have ne : p ≠ D := ne_of_none q hD
    obtain ⟨u', q'⟩ := r.cs p (.inl h)
    exact ⟨u', hide_of ne q'⟩
end
def lcL (vs : List Nat) (b : D → MS → Option MS) (t : MT) (e : ME) : List D → MS → Option (List D × MS)
  | [], s => some ([], s)
  | d :: ds, s => (b d s).bind fun s1 => (t s1).bind fun q => if q.1 = true then (e q.2).bind fun y => (lcL vs b t e ds (wipeM y.2 vs)).map fun z => (y.1 :: z.1, z.2) else lcL vs b t e ds (wipeM q.2 vs)
def xLc (src : MF) (vs : List Nat) (b : D → MS → Option MS) (t : MT) (e : ME) : MF := fun s => (src s).bind fun p => if p.1.length ≤ 1000000 then (lcL vs b t e p.1 (wipeM p.2 vs)).map fun q => (q.1, unwipe p.2 q.2 vs) else none
def xYes : MT := fun s => some (true, s)
theorem sim_lc {K : PySem.W.Frag} {O L W vs : List Nat} {wi : TI} {g : TG} {tt : TT} {te : TE} {msrc : MF} {b : D → MS → Option MS} {mt : MT} {me : ME} (hi : SimI K O W wi msrc) (hg : SimG K O vs g b) (ht : SimT K O W tt mt) (he : SimE K O L W te me)
    (hv : ∀ j ∈ O, j ∉ vs) (hW : ∀ j ∈ W, j ∈ L) (hL : ∀ j ∈ L, j ∈ O) : SimF K O L W (tLc wi g tt te vs) (xLc msrc vs b mt me) := fun c σ H s r ds s' e Q q => by
  unfold xLc at e
  cases e1 : msrc s with
  | none => rw [e1] at e; cases e
  | some p =>
    obtain ⟨xs, s1⟩ := p
    rw [e1] at e
    simp only [Option.bind_some] at e
    split at e
    · rename_i hsz
      cases e2 : lcL vs b mt me xs (wipeM s1 vs) with
      | none => rw [e2] at e; cases e
      | some w =>
        obtain ⟨ds0, s2⟩ := w
        rw [e2] at e
        cases e
        have hWO : ∀ j ∈ W, j ∈ O := fun j hj => hL j (hW j hj)
        refine hi c σ H s r _ _ e1 _ fun J H1 r1 x1 it => ?_
        intro D hD
        have ow2 : ∀ {σ2 : L2.St}, Off vs (wipe σ vs) σ2 → Own W σ2 = Own W σ := fun {σ2} o => ((off_wipe vs σ).trans o).own fun j hj => hv j (hWO j hj)
        let Pv : Nat → Hp → Prop := fun i H' => ∃ (si : MS) (acc : List PyData) (us : List V) (rest : List PyData), R K (c.add D) O si (wipe σ vs) H' ∧ H' D = some (.lst us) ∧ RpAll K (hide ((c.add D).msk L (wipe σ vs)) H') us acc ∧
          Ex (hide (fun a => Own W σ a ∨ a = D) H1) (hide (fun a => Own W σ a ∨ a = D) H') ∧ lcL vs b mt me (xs.drop i) si = some (rest, s2) ∧ ds0 = acc ++ rest ∧ acc.length ≤ i
        refine ⟨fun i m H' => m = xs.length - i ∧ i ≤ xs.length ∧ Pv i H', ⟨xs.length, by simp, Nat.zero_le _, wipeM s1 vs, [], [], ds0, (r1.addC hD).wipeR hv, upd_same, .nil, ?_, e2, rfl, Nat.le_refl _⟩, ?_⟩
        · exact ex_hide_up (.inr rfl)
        rintro i m H' ⟨rfl, hile, si, acc, us, rest, ri, hDi, dacc, exi, erun, eds, hacc⟩
        have exm : Ex (hide (c.msk O σ) H1) (hide ((c.add D).msk O (wipe σ vs)) H') := fun a u z => by
          obtain ⟨n, z⟩ := of_hide z
          have ne : a ≠ D := ne_of_none z hD
          have z2 := (of_hide (exi a u (hide_of (fun y => y.elim (fun y => n (.inr (own_sub hWO a y))) ne) z))).2
          refine hide_of (fun y => ?_) z2
          rw [(off_wipe vs σ).msk hv] at y
          rcases y with (y | y) | y
          · exact n (.inl y)
          · exact ne y
          · exact n (.inr y)
        have trk := msk_there ri (L := O) (fun _ z => z)
        obtain ⟨itgo, itstop⟩ := it i (c.add D) (wipe σ vs) H' exm trk
        by_cases hlt : i < xs.length
        · obtain ⟨d, hd⟩ : ∃ d, xs[i]? = some d := ⟨xs[i], List.getElem?_eq_getElem hlt⟩
          obtain ⟨go, yl⟩ := itgo d hd
          have edrop : xs.drop i = d :: xs.drop (i + 1) := by
            rw [List.drop_eq_getElem_cons hlt]
            rw [List.getElem?_eq_getElem hlt] at hd
            cases hd; rfl
          rw [edrop] at erun
          unfold lcL at erun
          cases eb : b d si with
          | none => rw [eb] at erun; cases erun
          | some sb =>
            rw [eb] at erun
            simp only [Option.bind_some] at erun
            cases et : mt sb with
            | none => rw [et] at erun; cases erun
            | some pt =>
              obtain ⟨bt, st⟩ := pt
              rw [et] at erun
              simp only [Option.bind_some] at erun
              refine .inr ⟨go, Pv (i + 1), fun H2 p2 => ⟨xs.length - (i + 1), by omega, rfl, hlt, p2⟩, fun x H2 y => ?_⟩
              obtain ⟨ex2, dx⟩ := yl x H2 y
              refine hg (c.add D) (wipe σ vs) H2 si x d (ri.ex ex2) dx sb eb _ fun σ2 rb ob => ?_
              refine ⟨ob.wipe.trans ((off_wipe vs σ).wipe), ?_⟩
              have offσ : Off vs σ σ2 := (off_wipe vs σ).trans ob
              have mL : (c.add D).msk L σ2 = (c.add D).msk L (wipe σ vs) := ob.msk fun j hj => hv j (hL j hj)
              have wEq : wipe σ2 vs = wipe σ vs := ob.wipe.trans ((off_wipe vs σ).wipe)
              have dn : ∀ {H3 : Hp} {s3 : MS}, R K (c.add D) O s3 σ2 H3 → ¬ Own W σ2 D := fun {H3 s3} r3 ⟨j, hj, z⟩ => by
                obtain ⟨p', _, _, k1, _, _, _, k5⟩ := r3.ow j (hWO j hj)
                rw [z] at k1
                cases k1
                exact k5 (.inr rfl)
              refine ht (c.add D) σ2 H2 sb rb bt st et _ fun H3 r3 x3 => ?_
              have hD3 : H3 D = some (.lst us) := (of_hide (x3 D _ (hide_of (dn rb) (ex2 D _ hDi)))).2
              cases bt with
              | false =>
                rw [if_neg Bool.false_ne_true] at erun ⊢
                refine ⟨wipeM st vs, acc, us, rest, wEq ▸ (r3.wipeR hv), hD3, ?_, ?_, erun, eds, by omega⟩
                · rw [← mL]
                  exact dpa_ex (keep hW x3) (by rw [mL]; exact dpa_ex (ex_hide ex2) dacc)
                · refine exi.trans ((ex_hide ex2).trans (ex_wide (fun a z => ?_) x3))
                  rw [ow2 ob] at z
                  exact .inl z
              | true =>
                rw [if_pos rfl] at erun ⊢
                cases ee : me st with
                | none => rw [ee] at erun; cases erun
                | some pe =>
                  obtain ⟨dy, s4⟩ := pe
                  rw [ee] at erun
                  simp only [Option.bind_some] at erun
                  cases er : lcL vs b mt me (xs.drop (i + 1)) (wipeM s4 vs) with
                  | none => rw [er] at erun; cases erun
                  | some pz =>
                    obtain ⟨rz, sz⟩ := pz
                    rw [er] at erun
                    cases erun
                    refine he (c.add D) σ2 H3 st r3 dy s4 ee _ fun yv H4 r4 x4 d4 => ?_
                    have hD4 : H4 D = some (.lst us) := (of_hide (x4 D _ (hide_of (dn r3) hD3))).2
                    have hlen : us.length = acc.length := dpa_len dacc
                    refine ⟨us, hD4, Nat.lt_of_lt_of_le (show us.length < 1000001 by omega) (by decide), wipeM s4 vs, acc ++ [dy], us ++ [yv], rz, ?_, upd_same, ?_, ?_, er, by rw [eds, List.append_assoc]; rfl, by rw [List.length_append, List.length_singleton]; omega⟩
                    · rw [← wEq]
                      exact (r4.updC (.inr rfl)).wipeR hv
                    · rw [← mL]
                      have up : Ex (hide ((c.add D).msk L σ2) H4) (hide ((c.add D).msk L σ2) (upd H4 D (.lst (us ++ [yv])))) := ex_hide_up (.inl (.inr rfl))
                      refine dpa_app (dpa_ex up (dpa_ex (keep hW x4) (dpa_ex (keep hW x3) ?_))) (.cons (dp_ex up d4) .nil)
                      rw [mL]
                      exact dpa_ex (ex_hide ex2) dacc
                    · refine exi.trans ((ex_hide ex2).trans ((ex_wide (fun a z => ?_) x3).trans ((ex_wide (fun a z => ?_) x4).trans (ex_hide_up (.inr rfl)))))
                      · rw [ow2 ob] at z
                        exact .inl z
                      · rw [ow2 ob] at z
                        exact .inl z
        · have hie : i = xs.length := by omega
          refine .inl ⟨itstop hie, ?_⟩
          rw [hie, List.drop_length] at erun
          unfold lcL at erun
          cases erun
          rw [List.append_nil] at eds
          have e0 : Ex (hide (c.msk O σ) H1) (hide (c.msk O σ) (hide (· = D) H')) := fun a u z => by
            obtain ⟨n, z⟩ := of_hide z
            have ne : a ≠ D := ne_of_none z hD
            exact hide_of n (hide_of ne (of_hide (exi a u (hide_of (fun y => y.elim (fun y => n (.inr (own_sub hWO a y))) ne) z))).2)
          refine q D us H' (fresh_of r1 hWO x1 D hD) (ri.unblk r1 hD hv e0) (x1.trans fun a u z => ?_) hDi ?_
          · obtain ⟨n, z⟩ := of_hide z
            have ne : a ≠ D := ne_of_none z hD
            exact hide_of n (hide_of ne (of_hide (exi a u (hide_of (fun y => y.elim n ne) z))).2)
          · rw [eds]
            refine dpa_ex (fun a u z => ?_) dacc
            rw [(off_wipe vs σ).msk fun j hj => hv j (hL j hj)] at z
            obtain ⟨n, z⟩ := of_hide z
            exact hide_of (fun y => n (y.elim (fun y => .inl (.inl y)) .inr)) (hide_of (fun y => n (.inl (.inr y))) z)
    · cases e
/-- the context of a block -/
abbrev G.blk (Γ : G) (scope : Scope) : G := { Γ with sc := relS scope Γ.sc, fnc := fun x => scope.names.lookup x == some .cell }
theorem InG.blk {Γ : G} {X : Cx} (h : InG Γ X) (scope : Scope) (s : Shared) (H : Hp) (C : Addr) (cl : List (Str × Addr)) (fp : List Addr) : InG (Γ.blk scope) (X.blk s H scope (compEnvC scope cl C X.env) fp) where
  prog := h.prog
  w := h.w
  K := h.K
  mg := h.mg
  base := h.base
  A := h.A
  N := h.N
  sc := by show relS scope X.env.scope = relS scope Γ.sc; rw [h.sc]
  fnc := rfl
  nd := h.nd
  calm := h.calm
  xe := rfl
def TrTs (Γ : G) (O W : List Nat) (ifs : List Expr) (m : MT) : Prop := ∃ t, (∀ X, InG Γ X → PTs X ifs t) ∧ SimT Γ.K O W t m
section
variable {Γ : G} {O L W vs : List Nat} {elt tg iter e : Expr} {ifs : List Expr} {scope : Scope} {own : List (Str × Nat)} {pos : Pos} {msrc : MF} {b : D → MS → Option MS} {mt : MT} {me : ME}
theorem tts_nil : TrTs Γ O W [] xYes := ⟨tYes, fun _ _ => pts_nil, fun c σ H s r b s' e Q q => by cases e; exact q H r refl_hide⟩
theorem tts_one (h : TrT Γ O W e mt) : TrTs Γ O W [e] mt := by
  obtain ⟨t, p, q⟩ := h
  exact ⟨t, fun X h => pts_one (p X h), q⟩
theorem tf_lc (own : List (Str × Nat)) (hi : TrI Γ O W tg iter msrc) (ok : blkC Γ.N Γ.sc scope own = true) (hg : TrG (Γ.blk scope) O (own.map (·.2)) tg b) (ht : TrTs (Γ.blk scope) O W ifs mt) (he : TrE (Γ.blk scope) O L W elt me)
    (hv : ∀ j ∈ O, j ∉ own.map (·.2)) (hW : ∀ j ∈ W, j ∈ L) (hL : ∀ j ∈ L, j ∈ O) (hs : ∀ (env : Env) x, foldedSetIterable iter env x = pure x := by intro _ _; rfl) :
    TrF Γ O L W (.ListComp elt [⟨tg, iter, ifs, 0⟩] scope pos) (xLc msrc (own.map (·.2)) b mt me) := by
  obtain ⟨wi, pi, si⟩ := hi
  obtain ⟨g, pg, sg⟩ := hg
  obtain ⟨t, pt, st⟩ := ht
  obtain ⟨te, pe, se⟩ := he
  exact ⟨tLc wi g t te (own.map (·.2)), fun X h => pe_lc h.calm h.ndX (pi X h) (by rw [h.N, h.sc]; exact blkOk_by ok) (fun s H C cl fp => pg _ (h.blk scope s H C cl fp)) (fun s H C cl fp => pt _ (h.blk scope s H C cl fp)) (fun s H C cl fp => pe _ (h.blk scope s H C cl fp)) (hs X.env), sim_lc si sg st se hv hW hL⟩
end
end Z


namespace Z
open PySem PySem.Spec PyProof.Rows L2

/-! ## statements -/
def Fr (O : List Nat) (σ : L2.St) (H : Hp) (O' : List Nat) (σ' : L2.St) (H' : Hp) : Prop := Ex (hide (Own O σ) H) (hide (Own O' σ') H')
theorem Fr.trans {O O1 O2 : List Nat} {σ σ1 σ2 : L2.St} {H H1 H2 : Hp} (a : Fr O σ H O1 σ1 H1) (b : Fr O1 σ1 H1 O2 σ2 H2) : Fr O σ H O2 σ2 H2 := Ex.trans a b
theorem Fr.refl (O : List Nat) (σ : L2.St) (H : Hp) : Fr O σ H O σ H := Ex.refl _
/-- what is lent, as it stood at the entry -/
def Cn.T (c : Cn) : Addr → Prop := Own c.Th c.τ
/-- a return: the value v of d at H'; fz: a new list -/
structure RtOk (K : PySem.W.Frag) (fz : Bool) (c : Cn) (O : List Nat) (σ : L2.St) (H : Hp) (d : D) (s' : MS) (v : V) (H' : Hp) : Prop where
  fr : Ex (hide (Own O σ) H) (hide c.T H')
  th : ∀ i : Nat, i ∈ c.Th → ∃ (p : Addr) (vs : List V) (ds : List D), c.τ[i]? = some (some (.ref p)) ∧ s'[i]? = some (some (.list ds)) ∧ H' p = some (.lst vs) ∧ RpAll K (hide (fun a => c.C a ∨ c.T a) H') vs ds
  val : Rp K (hide (fun a => c.C a ∨ c.T a) H') v d
  fresh : fz = true → ∃ (p : Addr) (vs : List V) (ds : List D), v = .ref p ∧ d = .list ds ∧ hide (Own O σ) H p = none ∧ ¬ c.T p ∧ ¬ c.C p ∧ H' p = some (.lst vs) ∧ RpAll K (hide (fun a => (c.C a ∨ c.T a) ∨ a = p) H') vs ds
theorem RtOk.ahead {K : PySem.W.Frag} {fz : Bool} {c : Cn} {O O1 : List Nat} {σ σ1 : L2.St} {H H1 H' : Hp} {d : D} {s' : MS} {v : V} (a : Fr O σ H O1 σ1 H1) (r : RtOk K fz c O1 σ1 H1 d s' v H') : RtOk K fz c O σ H d s' v H' where
  fr := Ex.trans a r.fr
  th := r.th
  val := r.val
  fresh := fun h => by
    obtain ⟨p, vs, ds, h1, h2, h3, h4⟩ := r.fresh h
    refine ⟨p, vs, ds, h1, h2, ?_, h4⟩
    cases e : hide (Own O σ) H p with
    | none => rfl
    | some u => rw [a p u e] at h3; cases h3
structure Ways (K : PySem.W.Frag) (fz : Bool) (c : Cn) (O O' Ol : List Nat) (σ : L2.St) (H : Hp) (o : Out) (E : Ends) : Prop where
  nx : ∀ s' σ' H', o = .nx s' → R K c O' s' σ' H' → Fr O σ H O' σ' H' → E.nx σ' H'
  bk : ∀ s' σ' H', o = .bk s' → R K c Ol s' σ' H' → Fr O σ H Ol σ' H' → E.bk σ' H'
  ct : ∀ s' σ' H', o = .ct s' → R K c Ol s' σ' H' → Fr O σ H Ol σ' H' → E.ct σ' H'
  rt : ∀ d s' v H', o = .rt d s' → RtOk K fz c O σ H d s' v H' → E.rt v H'
def SimS (K : PySem.W.Frag) (Th : List Nat) (fz : Bool) (O O' Ol : List Nat) (t : TS) (m : MM) : Prop := ∀ (c : Cn), c.Th = Th → ∀ (σ : L2.St) (H : Hp) (s : MS), R K c O s σ H → ∀ o, m s = some o → ∀ E : Ends, Ways K fz c O O' Ol σ H o E → t E σ H
section
variable (Γ : G) (Th : List Nat) (fz : Bool) (O O' Ol : List Nat)
def TrS (st : Stmt) (m : MM) : Prop := ∃ t, (∀ X, InG Γ X → PS X st t) ∧ SimS Γ.K Th fz O O' Ol t m
def TrSs (sts : List Stmt) (m : MM) : Prop := ∃ t, (∀ X, InG Γ X → PSs X sts t) ∧ SimS Γ.K Th fz O O' Ol t m
end
def mSkip : MM := fun s => some (.nx s)
def mSeq (a b : MM) : MM := fun s => (a s).bind fun o => match o with
  | .nx s' => b s'
  | o => some o
def mSet (i : Nat) (a : ME) : MM := fun s => (a s).map fun p => .nx (p.2.set i (some p.1))
def mSetF (i : Nat) (a : MF) : MM := fun s => (a s).bind fun p => if i < p.2.length then some (.nx (p.2.set i (some (.list p.1)))) else none
def mAsg (a : ME) (b : D → MS → Option MS) : MM := fun s => (a s).bind fun p => (b p.1 p.2).map .nx
def mPar (i j : Nat) (a : MF) : MM := fun s => (a s).bind fun p => match p.1 with
  | [x, y] => some (.nx ((p.2.set i (some x)).set j (some y)))
  | _ => none
def mIf (c : MT) (a b : MM) : MM := fun s => (c s).bind fun p => if p.1 = true then a p.2 else b p.2
def mRet (a : ME) : MM := fun s => (a s).map fun p => .rt p.1 p.2
def mRetF (a : MF) : MM := fun s => (a s).map fun p => .rt (.list p.1) p.2
def mRetN : MM := fun s => some (.rt .none s)
def mDrop (a : ME) : MM := fun s => (a s).map fun p => .nx p.2
def mBrk : MM := fun s => some (.bk s)
def mCt : MM := fun s => some (.ct s)
def mForget (vs : List Nat) (a : MM) : MM := fun s => (a s).map fun o => match o with
  | .nx s' => .nx (wipeM s' vs)
  | o => o
def forL (b : D → MS → Option MS) (m : MM) : List D → MS → Option Out
  | [], s => some (.nx s)
  | d :: ds, s => (b d s).bind fun s1 => (m s1).bind fun o => match o with
    | .nx s2 => forL b m ds s2
    | .ct s2 => forL b m ds s2
    | .bk s2 => some (.nx s2)
    | .rt d s2 => some (.rt d s2)
def mFor (src : MF) (b : D → MS → Option MS) (m : MM) : MM := fun s => (src s).bind fun p => forL b m p.1 p.2
section
variable {Γ : G} {Th : List Nat} {fz : Bool} {O O1 O' Ol L L0 W : List Nat} {st : Stmt} {sts : List Stmt} {e a : Expr} {m m1 m2 : MM} {me ma : ME} {mf ms : MF} {mt : MT} {pos : Pos}
theorem mapNx_of {α β : Type} {f : α → β} {x : Option α} {o : β} (h : x.map f = some o) : ∃ p, x = some p ∧ o = f p := by
  cases x with
  | none => cases h
  | some p => cases h; exact ⟨p, rfl, rfl⟩
theorem bind_of {α β : Type} {f : α → Option β} {x : Option α} {o : β} (h : x.bind f = some o) : ∃ p, x = some p ∧ f p = some o := by
  cases x with
  | none => cases h
  | some p => exact ⟨p, rfl, h⟩
/-- an effect of an expression, seen from the frame -/
theorem Fr.of_ex {σ : L2.St} {H H' : Hp} (hW : ∀ j ∈ W, j ∈ O) (x : Ex (hide (Own W σ) H) (hide (Own W σ) H')) : Fr O σ H O σ H' := ex_wide (own_sub hW) x

theorem sss_nil : TrSs Γ Th fz O O Ol [] mSkip := ⟨tNext, fun _ _ => pss_nil, fun c hc σ H s r o e E w => by cases e; exact w.nx s σ H rfl r (Fr.refl _ _ _)⟩
theorem sim_seq {K : PySem.W.Frag} {t u : TS} (h1 : SimS K Th fz O O1 Ol t m1) (h2 : SimS K Th fz O1 O' Ol u m2) : SimS K Th fz O O' Ol (tSeq t u) (mSeq m1 m2) := fun c hc σ H s r o e E w => by
  unfold mSeq at e
  obtain ⟨o1, e1, e2⟩ := bind_of e
  refine h1 c hc σ H s r o1 e1 _ ⟨fun s' σ' H' eo r' f => ?_, fun s' σ' H' eo r' f => ?_, fun s' σ' H' eo r' f => ?_, fun d s' v H' eo rt => ?_⟩
  · subst eo
    exact h2 c hc σ' H' s' r' o e2 E ⟨fun s2 σ2 H2 eo r2 f2 => w.nx s2 σ2 H2 eo r2 (f.trans f2), fun s2 σ2 H2 eo r2 f2 => w.bk s2 σ2 H2 eo r2 (f.trans f2), fun s2 σ2 H2 eo r2 f2 => w.ct s2 σ2 H2 eo r2 (f.trans f2), fun d s2 v H2 eo rt => w.rt d s2 v H2 eo (rt.ahead f)⟩
  · subst eo
    cases e2
    exact w.bk s' σ' H' rfl r' f
  · subst eo
    cases e2
    exact w.ct s' σ' H' rfl r' f
  · subst eo
    cases e2
    exact w.rt d s' v H' rfl rt
theorem sss_cons (h1 : TrS Γ Th fz O O1 Ol st m1) (h2 : TrSs Γ Th fz O1 O' Ol sts m2) : TrSs Γ Th fz O O' Ol (st :: sts) (mSeq m1 m2) := by
  obtain ⟨t, p, q⟩ := h1
  obtain ⟨u, p2, q2⟩ := h2
  exact ⟨tSeq t u, fun X h => pss_cons (p X h) (p2 X h), sim_seq q q2⟩
theorem sss_one (h1 : TrS Γ Th fz O O' Ol st m1) : TrSs Γ Th fz O O' Ol [st] m1 := by
  obtain ⟨t, p, q⟩ := h1
  exact ⟨t, fun X h => pss_one (p X h), q⟩
theorem wipeR2 {K : PySem.W.Frag} {c : Cn} {s : MS} {σ : L2.St} {H : Hp} (r : R K c O s σ H) : ∀ vs : List Nat, (∀ j ∈ vs, j ∉ O) → R K c O (wipeM s vs) σ H
  | [], _ => r
  | v :: vs, h => by
    unfold wipeM
    exact (wipeR2 r vs fun j hj => h j (List.mem_cons_of_mem _ hj)).forget (h v List.mem_cons_self)
theorem sim_forget {K : PySem.W.Frag} {t : TS} (vs : List Nat) (h : SimS K Th fz O O' Ol t m) (hv : ∀ j ∈ vs, j ∉ O') : SimS K Th fz O O' Ol t (mForget vs m) := fun c hc σ H s r o e E w => by
  unfold mForget at e
  obtain ⟨o1, e1, rfl⟩ := mapNx_of e
  refine h c hc σ H s r o1 e1 E ⟨fun s' σ' H' eo r' f => ?_, fun s' σ' H' eo r' f => ?_, fun s' σ' H' eo r' f => ?_, fun d s' v H' eo rt => ?_⟩
  · subst eo
    exact w.nx _ σ' H' rfl (wipeR2 r' vs hv) f
  · subst eo; exact w.bk s' σ' H' rfl r' f
  · subst eo; exact w.ct s' σ' H' rfl r' f
  · subst eo; exact w.rt d s' v H' rfl rt
theorem sss_forget (vs : List Nat) (h : TrSs Γ Th fz O O' Ol sts m) (hv : ∀ j ∈ vs, j ∉ O') : TrSs Γ Th fz O O' Ol sts (mForget vs m) := by
  obtain ⟨t, p, q⟩ := h
  exact ⟨t, p, sim_forget vs q hv⟩
/-- slots are let go -/
theorem sss_free (h : TrSs Γ Th fz L O' Ol sts m) (hL : ∀ j ∈ L, j ∈ O) (hT : ∀ j ∈ Th, j ∈ L) : TrSs Γ Th fz O O' Ol sts m := by
  obtain ⟨t, p, q⟩ := h
  refine ⟨t, p, fun c hc σ H s r o e E w => ?_⟩
  obtain ⟨r1, x1⟩ := r.free hL (by rw [hc]; exact hT)
  exact q c hc σ H s r1 o e E ⟨fun s2 σ2 H2 eo r2 f2 => w.nx s2 σ2 H2 eo r2 (Fr.trans x1 f2), fun s2 σ2 H2 eo r2 f2 => w.bk s2 σ2 H2 eo r2 (Fr.trans x1 f2), fun s2 σ2 H2 eo r2 f2 => w.ct s2 σ2 H2 eo r2 (Fr.trans x1 f2), fun d s2 v H2 eo rt => w.rt d s2 v H2 eo (rt.ahead x1)⟩
theorem sss_out (h : TrSs Γ Th fz O O1 Ol sts m) (hL : ∀ j ∈ O', j ∈ O1) (hT : ∀ j ∈ Th, j ∈ O') : TrSs Γ Th fz O O' Ol sts m := by
  obtain ⟨t, p, q⟩ := h
  refine ⟨t, p, fun c hc σ H s r o e E w => q c hc σ H s r o e E ⟨fun s2 σ2 H2 eo r2 f2 => ?_, w.bk, w.ct, w.rt⟩⟩
  obtain ⟨r1, x1⟩ := r2.free hL (by rw [hc]; exact hT)
  exact w.nx s2 σ2 H2 eo r1 (Fr.trans f2 x1)

/-! ### stores -/
theorem setR {K : PySem.W.Frag} {c : Cn} {s : MS} {σ : L2.St} {H : Hp} {i : Nat} {v : V} {d : D} (r : R K c O s σ H) (hd : Rp K (hide (c.msk O σ) H) v d) (ht : i ∉ c.Th) (hO : ∀ j ∈ O', j ∈ O.filter (· ≠ i)) (hT : ∀ j ∈ c.Th, j ∈ O') :
    R K c O' (s.set i (some d)) (σ.set i (some v)) H ∧ Fr O σ H O' (σ.set i (some v)) H := by
  by_cases hl : i < σ.length
  · obtain ⟨r1, x1⟩ := r.set hd ht hl
    obtain ⟨r2, x2⟩ := r1.free hO hT
    exact ⟨r2, x1.trans x2⟩
  · have e1 : s.set i (some d) = s := List.set_eq_of_length_le (by rw [r.len]; omega)
    have e2 : σ.set i (some v) = σ := List.set_eq_of_length_le (by omega)
    rw [e1, e2]
    exact r.free (fun j hj => (List.mem_filter.mp (hO j hj)).1) hT
theorem ss_set {i : Nat} {x : Str} {p2 : Pos} (hN : Γ.N[i]? = some x) (hv : locB Γ x = true) (he : TrE Γ O O W e me) (ht : i ∉ Th) (hO : ∀ j ∈ O', j ∈ O.filter (· ≠ i)) (hT : ∀ j ∈ Th, j ∈ O') (hW : ∀ j ∈ W, j ∈ O) (hs : ∀ env : Env, swapsWith e (some (.Name x p2)) pos.line env = pure false := by intro _; rfl) :
    TrS Γ Th fz O O' Ol (.Assign [.Name x p2] e pos) (mSet i me) := by
  obtain ⟨t, p, q⟩ := he
  refine ⟨tAsg t (gName i), fun X h => ps_set h.ndX (h.nx hN) (h.loc hv).1 (p X h) (hs X.env) (h.loc hv).2, fun c hc σ H s r o e E w => ?_⟩
  unfold mSet at e
  obtain ⟨pr, e1, rfl⟩ := mapNx_of e
  refine q c σ H s r _ _ e1 _ fun v H1 r1 x1 d1 => ?_
  obtain ⟨r2, x2⟩ := setR r1 d1 (by rw [hc]; exact ht) hO (by rw [hc]; exact hT)
  exact w.nx _ _ H1 rfl r2 ((Fr.of_ex hW x1).trans x2)
theorem setOwnR {K : PySem.W.Frag} {c : Cn} {s : MS} {σ : L2.St} {H' : Hp} {i : Nat} {p : Addr} {vs : List V} {ds : List D} (r : R K c O s σ (hide (· = p) H')) (hp : H' p = some (.lst vs)) (hd : RpAll K (hide (c.msk O σ) (hide (· = p) H')) vs ds) (ht : i ∉ c.Th) (hi : i < σ.length) (hO : ∀ j ∈ O', j ∈ i :: O.filter (· ≠ i)) (hT : ∀ j ∈ c.Th, j ∈ O') :
    R K c O' (s.set i (some (.list ds))) (σ.set i (some (.ref p))) H' ∧ Fr O σ (hide (· = p) H') O' (σ.set i (some (.ref p))) H' := by
  obtain ⟨r1, x1⟩ := r.setOwn hp hd ht hi
  obtain ⟨r2, x2⟩ := r1.free hO hT
  exact ⟨r2, x1.trans x2⟩
/-- a frame of that scope -/
def envS (sc : Scope) : Env := { scope := sc, locals := 0, globals := 0, cells := [], qual := "", func := none, code := .none, frame := none, builtins := 0 }
theorem swaps_sc {env env' : Env} {v : Expr} {o : Option Expr} {l : Nat} (h : env.scope = env'.scope) : swapsWith v o l env = swapsWith v o l env' := by
  unfold swapsWith Env.blockKind Env.kindOf
  rw [h]
theorem swapped_sc {env env' : Env} {ts : List Expr} {v : Expr} (h : env.scope = env'.scope) : swappedStores ts v env = swappedStores ts v env' := by
  unfold swappedStores Env.blockKind Env.kindOf
  rw [h]
theorem simF_set {K : PySem.W.Frag} {t : TE} {i : Nat} (q : SimF K O O W t mf) (ht : i ∉ Th) (hO : ∀ j ∈ O', j ∈ i :: O.filter (· ≠ i)) (hT : ∀ j ∈ Th, j ∈ O') (hW : ∀ j ∈ W, j ∈ O) : SimS K Th fz O O' Ol (tAsg t (gName i)) (mSetF i mf) := fun c hc σ H s r o e E w => by
  unfold mSetF at e
  obtain ⟨pr, e1, e2⟩ := bind_of e
  split at e2
  · rename_i hl
    cases e2
    refine q c σ H s r _ _ e1 _ fun p vs H1 hp r1 x1 h1 d1 => ?_
    obtain ⟨r2, x2⟩ := setOwnR r1 h1 d1 (by rw [hc]; exact ht) (by rw [← r1.len]; exact hl) hO (by rw [hc]; exact hT)
    exact w.nx _ _ H1 rfl r2 ((Fr.of_ex hW x1).trans x2)
  · cases e2
/-- a slot takes a new list, and owns it -/
theorem ss_setF {i : Nat} {x : Str} {p2 : Pos} (hN : Γ.N[i]? = some x) (hv : locB Γ x = true) (he : TrF Γ O O W e mf) (ht : i ∉ Th) (hO : ∀ j ∈ O', j ∈ i :: O.filter (· ≠ i)) (hT : ∀ j ∈ Th, j ∈ O') (hW : ∀ j ∈ W, j ∈ O) (hs : swapsWith e (some (.Name x p2)) pos.line (envS Γ.sc) = pure false := by rfl) :
    TrS Γ Th fz O O' Ol (.Assign [.Name x p2] e pos) (mSetF i mf) := by
  obtain ⟨t, p, q⟩ := he
  exact ⟨tAsg t (gName i), fun X h => ps_set h.ndX (h.nx hN) (h.loc hv).1 (p X h) ((swaps_sc (h.sc.trans rfl)).trans hs) (h.loc hv).2, simF_set q ht hO hT hW⟩
/-- .. and keeps it unowned -/
theorem ss_setFu {i : Nat} {x : Str} {p2 : Pos} (hN : Γ.N[i]? = some x) (hv : locB Γ x = true) (he : TrF Γ O O W e mf) (ht : i ∉ Th) (hO : ∀ j ∈ O', j ∈ O.filter (· ≠ i)) (hT : ∀ j ∈ Th, j ∈ O') (hW : ∀ j ∈ W, j ∈ O) (hs : swapsWith e (some (.Name x p2)) pos.line (envS Γ.sc) = pure false := by rfl) :
    TrS Γ Th fz O O' Ol (.Assign [.Name x p2] e pos) (mSet i (xLst mf)) := by
  obtain ⟨t, p, q⟩ := tr_F (fun _ z => z) he
  refine ⟨tAsg t (gName i), fun X h => ps_set h.ndX (h.nx hN) (h.loc hv).1 (p X h) ((swaps_sc (h.sc.trans rfl)).trans hs) (h.loc hv).2, fun c hc σ H s r o e E w => ?_⟩
  unfold mSet at e
  obtain ⟨pr, e1, rfl⟩ := mapNx_of e
  refine q c σ H s r _ _ e1 _ fun v H1 r1 x1 d1 => ?_
  obtain ⟨r2, x2⟩ := setR r1 d1 (by rw [hc]; exact ht) hO (by rw [hc]; exact hT)
  exact w.nx _ _ H1 rfl r2 ((Fr.of_ex hW x1).trans x2)
section
variable {vs : List Nat} {elt tg iter : Expr} {ifs : List Expr} {scope : Scope} {msrc : MF} {b : D → MS → Option MS}
/-- y = [..] on one line, y a local: the comprehension itself, for ps_setLc -/
theorem setLc_t {i : Nat} {y : Str} {py lpos : Pos} (own : List (Str × Nat)) (hN : Γ.N[i]? = some y) (hyl : Γ.sc.names.lookup y = some .local) (hsw : swapsWith (.ListComp elt [⟨tg, iter, ifs, 0⟩] scope lpos) (some (.Name y py)) pos.line (envS Γ.sc) = pure true)
    (hi : TrI Γ O W tg iter msrc) (ok : blkC Γ.N Γ.sc scope own = true) (hg : TrG (Γ.blk scope) O (own.map (·.2)) tg b) (ht : TrTs (Γ.blk scope) O W ifs mt) (he : TrE (Γ.blk scope) O O W elt me)
    (hv : ∀ j ∈ O, j ∉ own.map (·.2)) (hW : ∀ j ∈ W, j ∈ O) (hs : ∀ (env : Env) x, foldedSetIterable iter env x = pure x := by intro _ _; rfl) :
    ∃ t : TE, (∀ X, InG Γ X → PS X (.Assign [.Name y py] (.ListComp elt [⟨tg, iter, ifs, 0⟩] scope lpos) pos) (tAsg t (gName i))) ∧ SimF Γ.K O O W t (xLc msrc (own.map (·.2)) b mt me) := by
  obtain ⟨wi, pi, si⟩ := hi
  obtain ⟨g, pg, sg⟩ := hg
  obtain ⟨t, pt, st⟩ := ht
  obtain ⟨te, pe, se⟩ := he
  exact ⟨tLc wi g t te (own.map (·.2)), fun X h => ps_setLc h.calm h.ndX (h.nx hN) (by rw [h.sc]; exact hyl) ((swaps_sc (h.sc.trans rfl)).trans hsw) (pi X h) (by rw [h.N, h.sc]; exact blkOk_by ok) (fun s H C cl fp => pg _ (h.blk scope s H C cl fp)) (fun s H C cl fp => pt _ (h.blk scope s H C cl fp)) (fun s H C cl fp => pe _ (h.blk scope s H C cl fp)) (hs X.env), sim_lc si sg st se hv hW (fun _ z => z)⟩
theorem ss_lc {i : Nat} {y : Str} {py lpos : Pos} (h : ∃ t : TE, (∀ X, InG Γ X → PS X (.Assign [.Name y py] (.ListComp elt [⟨tg, iter, ifs, 0⟩] scope lpos) pos) (tAsg t (gName i))) ∧ SimF Γ.K O O W t mf) (ht : i ∉ Th) (hO : ∀ j ∈ O', j ∈ i :: O.filter (· ≠ i)) (hT : ∀ j ∈ Th, j ∈ O') (hW : ∀ j ∈ W, j ∈ O) :
    TrS Γ Th fz O O' Ol (.Assign [.Name y py] (.ListComp elt [⟨tg, iter, ifs, 0⟩] scope lpos) pos) (mSetF i mf) := by
  obtain ⟨t, p, q⟩ := h
  exact ⟨tAsg t (gName i), p, simF_set q ht hO hT hW⟩
theorem ss_lcu {i : Nat} {y : Str} {py lpos : Pos} (h : ∃ t : TE, (∀ X, InG Γ X → PS X (.Assign [.Name y py] (.ListComp elt [⟨tg, iter, ifs, 0⟩] scope lpos) pos) (tAsg t (gName i))) ∧ SimF Γ.K O O W t mf) (ht : i ∉ Th) (hO : ∀ j ∈ O', j ∈ O.filter (· ≠ i)) (hT : ∀ j ∈ Th, j ∈ O') (hW : ∀ j ∈ W, j ∈ O) :
    TrS Γ Th fz O O' Ol (.Assign [.Name y py] (.ListComp elt [⟨tg, iter, ifs, 0⟩] scope lpos) pos) (mSet i (xLst mf)) := by
  obtain ⟨t, p, q⟩ := h
  refine ⟨tAsg t (gName i), p, fun c hc σ H s r o e E w => ?_⟩
  unfold mSet at e
  obtain ⟨pr, e1, rfl⟩ := mapNx_of e
  refine q.toE (fun _ z => z) c σ H s r _ _ e1 _ fun v H1 r1 x1 d1 => ?_
  obtain ⟨r2, x2⟩ := setR r1 d1 (by rw [hc]; exact ht) hO (by rw [hc]; exact hT)
  exact w.nx _ _ H1 rfl r2 ((Fr.of_ex hW x1).trans x2)
end
/-- a tuple parted, or any target that is not owned -/
theorem ss_asg {tg : Expr} {vs : List Nat} {b : D → MS → Option MS} (he : TrE Γ O O W e me) (hg : TrG Γ O vs tg b) (hv : ∀ j ∈ O, j ∉ vs) (hW : ∀ j ∈ W, j ∈ O) (hs : swapsWithSole [tg] e pos.line (envS Γ.sc) = pure false := by rfl) (hw : swappedStores [tg] e (envS Γ.sc) = pure none := by rfl)
    (h1 : ∀ env : Env, (assignEach [tg] env).map (·.2) = [assign tg env] := by intro _; rfl) : TrS Γ Th fz O O Ol (.Assign [tg] e pos) (mAsg me b) := by
  obtain ⟨t, p, q⟩ := he
  obtain ⟨g, pg, sg⟩ := hg
  refine ⟨tAsg t g, fun X h => ps_asg (p X h) (pg X h) ((swaps_sc (h.sc.trans rfl)).trans hs) ((swapped_sc (h.sc.trans rfl)).trans hw) (h1 X.env), fun c hc σ H s r o e E w => ?_⟩
  unfold mAsg at e
  obtain ⟨pr, e1, e2⟩ := bind_of e
  obtain ⟨s2, e3, rfl⟩ := mapNx_of e2
  refine q c σ H s r _ _ e1 _ fun v H1 r1 x1 d1 => ?_
  refine sg c σ H1 _ v _ r1 d1 s2 e3 _ fun σ2 r2 o2 => ?_
  refine w.nx _ _ H1 rfl r2 ((Fr.of_ex hW x1).trans ?_)
  unfold Fr
  rw [o2.own hv]
  exact Ex.refl _
/-- a, b = x, y: two locals at once -/
theorem ss_par {i j : Nat} {x y : Str} {a b : Expr} {px py pt : Pos} {kt k2 : Nat} {pt2 : Pos} (hN : Γ.N[i]? = some x) (hN2 : Γ.N[j]? = some y) (hij : i ≠ j) (hx : Γ.sc.names.lookup x = some .local) (hy : Γ.sc.names.lookup y = some .local) (ha : TrA Γ O O W [a, b] mf)
    (ht : i ∉ Th) (ht2 : j ∉ Th) (hO : ∀ k ∈ O', k ∈ (O.filter (· ≠ i)).filter (· ≠ j)) (hT : ∀ k ∈ Th, k ∈ O') (hW : ∀ j ∈ W, j ∈ O)
    (hw : swappedStores [.Tuple [.Name x px, .Name y py] kt pt] (.Tuple [a, b] k2 pt2) (envS Γ.sc) = pure (some [x, y]) := by rfl) : TrS Γ Th fz O O' Ol (.Assign [.Tuple [.Name x px, .Name y py] kt pt] (.Tuple [a, b] k2 pt2) pos) (mPar i j mf) := by
  obtain ⟨t, p, q⟩ := ha
  refine ⟨tPar i j t, fun X h => ps_par h.calm h.ndX (h.nx hN) (h.nx hN2) hij (by rw [h.sc]; exact hx) (by rw [h.sc]; exact hy) (p X h) ((swapped_sc (h.sc.trans rfl)).trans hw), fun c hc σ H s r o e E w => ?_⟩
  unfold mPar at e
  obtain ⟨pr, e1, e2⟩ := bind_of e
  split at e2
  · rename_i d1 d2 ed
    cases e2
    refine q c σ H s r _ _ e1 _ fun vs H1 r1 x1 dd => ?_
    rw [ed] at dd
    cases dd with
    | cons h1 dd =>
      cases dd with
      | cons h2 dd =>
        cases dd
        have hT1 : ∀ k ∈ c.Th, k ∈ O.filter (· ≠ i) := fun k hk => (List.mem_filter.mp (hO k (hT k (by rw [← hc]; exact hk)))).1
        obtain ⟨r2, x2⟩ := setR (O' := O.filter (· ≠ i)) r1 h1 (by rw [hc]; exact ht) (fun _ z => z) hT1
        obtain ⟨r3, x3⟩ := setR (O' := O') r2 (dp_ex (fun a u z => by
          obtain ⟨n, z⟩ := of_hide z
          exact hide_of (fun y => y.elim (fun y => n (.inl y)) fun y => (of_hide (x2 a u (hide_of (fun k => n (.inr k)) z))).1 y) z) h2) (by rw [hc]; exact ht2) hO (by rw [hc]; exact hT)
        exact ⟨_, _, rfl, w.nx _ _ H1 rfl r3 (((Fr.of_ex hW x1).trans x2).trans x3)⟩
  · cases e2
end
end Z


namespace Z
open PySem PySem.Spec PyProof.Rows L2
section
variable {Γ : G} {Th : List Nat} {fz : Bool} {O O1 O' Ol L L0 W : List Nat} {st : Stmt} {sts sts2 : List Stmt} {e a : Expr} {m m1 m2 : MM} {me ma : ME} {mf ms : MF} {mt : MT} {pos : Pos}

/-! ### if, pass, break, continue, dropped values -/
theorem Ways.ahead {K : PySem.W.Frag} {c : Cn} {σ σ1 : L2.St} {H H1 : Hp} {o : Out} {E : Ends} (f : Fr O σ H O1 σ1 H1) (w : Ways K fz c O O' Ol σ H o E) : Ways K fz c O1 O' Ol σ1 H1 o E :=
  ⟨fun s2 σ2 H2 eo r2 f2 => w.nx s2 σ2 H2 eo r2 (f.trans f2), fun s2 σ2 H2 eo r2 f2 => w.bk s2 σ2 H2 eo r2 (f.trans f2), fun s2 σ2 H2 eo r2 f2 => w.ct s2 σ2 H2 eo r2 (f.trans f2), fun d s2 v H2 eo rt => w.rt d s2 v H2 eo (rt.ahead f)⟩
theorem ss_if (hc : TrT Γ O W e mt) (ha : TrSs Γ Th fz O O' Ol sts m1) (hb : TrSs Γ Th fz O O' Ol sts2 m2) (hW : ∀ j ∈ W, j ∈ O) : TrS Γ Th fz O O' Ol (.If e sts sts2 pos) (mIf mt m1 m2) := by
  obtain ⟨t, p, q⟩ := hc
  obtain ⟨u, p2, q2⟩ := ha
  obtain ⟨v, p3, q3⟩ := hb
  refine ⟨tIfS t u v, fun X h => ps_if (p X h) (p2 X h) (p3 X h), fun c hc σ H s r o e E w => ?_⟩
  unfold mIf at e
  obtain ⟨⟨k, s1⟩, e1, e2⟩ := bind_of e
  refine q c σ H s r _ _ e1 _ fun H1 r1 x1 => ?_
  cases k with
  | true =>
    rw [if_pos rfl] at e2 ⊢
    exact q2 c hc σ H1 s1 r1 o e2 E (w.ahead (Fr.of_ex hW x1))
  | false =>
    rw [if_neg Bool.false_ne_true] at e2 ⊢
    exact q3 c hc σ H1 s1 r1 o e2 E (w.ahead (Fr.of_ex hW x1))
theorem ss_pass : TrS Γ Th fz O O Ol (.Pass pos) mSkip := ⟨tNext, fun _ _ => ps_pass, fun c hc σ H s r o e E w => by cases e; exact w.nx s σ H rfl r (Fr.refl _ _ _)⟩
theorem ss_break (hL : ∀ j ∈ Ol, j ∈ O) (hT : ∀ j ∈ Th, j ∈ Ol) : TrS Γ Th fz O O' Ol (.Break pos) mBrk := ⟨tBreak, fun _ _ => ps_break, fun c hc σ H s r o e E w => by
  cases e
  obtain ⟨r1, x1⟩ := r.free hL (by rw [hc]; exact hT)
  exact w.bk s σ H rfl r1 x1⟩
theorem ss_continue (hL : ∀ j ∈ Ol, j ∈ O) (hT : ∀ j ∈ Th, j ∈ Ol) : TrS Γ Th fz O O' Ol (.Continue pos) mCt := ⟨tCont, fun _ _ => ps_continue, fun c hc σ H s r o e E w => by
  cases e
  obtain ⟨r1, x1⟩ := r.free hL (by rw [hc]; exact hT)
  exact w.ct s σ H rfl r1 x1⟩
theorem ss_expr (h : TrE Γ O L W e me) (hW : ∀ j ∈ W, j ∈ O) (hs : ∀ env : Env, swapsWith e none pos.line env = pure false := by intro _; rfl) : TrS Γ Th fz O O Ol (.Expr e pos) (mDrop me) := by
  obtain ⟨t, p, q⟩ := h
  refine ⟨tDrop t, fun X h => ps_expr (p X h) (hs X.env), fun c hc σ H s r o e E w => ?_⟩
  unfold mDrop at e
  obtain ⟨pr, e1, rfl⟩ := mapNx_of e
  exact q c σ H s r _ _ e1 _ fun v H1 r1 x1 d1 => w.nx _ σ H1 rfl r1 (Fr.of_ex hW x1)

/-! ### return -/
theorem th_ret {K : PySem.W.Frag} {c : Cn} {s : MS} {σ : L2.St} {H : Hp} (r : R K c O s σ H) : Own c.Th σ = c.T := by
  funext a
  refine propext ⟨fun ⟨i, hi, e⟩ => ⟨i, hi, by rw [← (r.th i hi).2]; exact e⟩, fun ⟨i, hi, e⟩ => ⟨i, hi, by rw [(r.th i hi).2]; exact e⟩⟩
theorem rt_th {K : PySem.W.Frag} {c : Cn} {s : MS} {σ : L2.St} {H : Hp} (r : R K c O s σ H) : ∀ i : Nat, i ∈ c.Th → ∃ (p : Addr) (vs : List V) (ds : List D), c.τ[i]? = some (some (.ref p)) ∧ s[i]? = some (some (.list ds)) ∧ H p = some (.lst vs) ∧ RpAll K (hide (fun a => c.C a ∨ c.T a) H) vs ds := fun i hi => by
  obtain ⟨h0, h1⟩ := r.th i hi
  obtain ⟨p, vs, ds, k1, k2, k3, k4, k5⟩ := r.ow i h0
  refine ⟨p, vs, ds, by rw [← h1]; exact k1, k2, k3, dpa_ex (ex_hide_sub fun a z => ?_) k4⟩
  rcases z with z | z
  · exact .inl z
  · rw [← th_ret r] at z
    exact .inr (own_sub (fun j hj => (r.th j hj).1) a z)
theorem rt_ex {K : PySem.W.Frag} {c : Cn} {s : MS} {σ : L2.St} {H H1 : Hp} (r : R K c O s σ H1) (hW : ∀ j ∈ W, j ∈ O) (x : Ex (hide (Own W σ) H) (hide (Own W σ) H1)) : Ex (hide (Own O σ) H) (hide c.T H1) := fun a u z => by
  have := ex_wide (own_sub hW) x a u z
  obtain ⟨n, z⟩ := of_hide this
  refine hide_of (fun y => ?_) z
  rw [← th_ret r] at y
  exact n (own_sub (fun j hj => (r.th j hj).1) a y)
theorem msk_th {K : PySem.W.Frag} {c : Cn} {s : MS} {σ : L2.St} {H : Hp} (r : R K c O s σ H) : c.msk c.Th σ = fun a => c.C a ∨ c.T a := by
  unfold Cn.msk
  rw [th_ret r]
theorem ss_ret (h : TrE Γ O Th W e me) (hW : ∀ j ∈ W, j ∈ O) : TrS Γ Th false O O' Ol (.Return (some e) pos) (mRet me) := by
  obtain ⟨t, p, q⟩ := h
  refine ⟨tRet t, fun X h => ps_ret (p X h), fun c hc σ H s r o e E w => ?_⟩
  unfold mRet at e
  obtain ⟨pr, e1, rfl⟩ := mapNx_of e
  refine q c σ H s r _ _ e1 _ fun v H1 r1 x1 d1 => w.rt _ _ v H1 rfl ⟨rt_ex r1 hW x1, rt_th r1, ?_, fun z => Bool.noConfusion z⟩
  rw [← hc, msk_th r1] at d1
  exact d1
theorem ss_retN : TrS Γ Th false O O' Ol (.Return none pos) mRetN := ⟨tRetN, fun _ _ => ps_retN, fun c hc σ H s r o e E w => by
  cases e
  exact w.rt _ _ .non H rfl ⟨rt_ex (W := []) r (fun _ z => nomatch z) (Ex.refl _), rt_th r, .non, fun z => Bool.noConfusion z⟩⟩
/-- a new list is returned -/
theorem ss_retF (h : TrF Γ O Th W e mf) (hW : ∀ j ∈ W, j ∈ O) : TrS Γ Th fz O O' Ol (.Return (some e) pos) (mRetF mf) := by
  obtain ⟨t, p, q⟩ := h
  refine ⟨tRet t, fun X h => ps_ret (p X h), fun c hc σ H s r o e E w => ?_⟩
  unfold mRetF at e
  obtain ⟨pr, e1, rfl⟩ := mapNx_of e
  refine q c σ H s r _ _ e1 _ fun p vs H1 hp r1 x1 h1 d1 => ?_
  have r2 := r1.ex ex_hide0
  have nt : ¬ c.T p := fun z => by
    rw [← th_ret r1] at z
    obtain ⟨i, hi, z⟩ := z
    obtain ⟨p', vs', _, k1, _, k3, _⟩ := r1.ow i (r1.th i hi).1
    rw [z] at k1
    cases k1
    exact (of_hide k3).1 rfl
  have nc : ¬ c.C p := fun z => by
    obtain ⟨u, k⟩ := r1.cs p z
    exact (of_hide k).1 rfl
  rw [← hc, msk_th r1] at d1
  refine w.rt _ _ _ H1 rfl ⟨rt_ex r2 hW (x1.trans (ex_hide ex_hide0)), rt_th r2, .lst (.inl (.inl (hide_of (fun z => z.elim nc nt) h1))) (dpa_ex (ex_hide ex_hide0) d1), fun _ => ⟨p, vs, _, rfl, rfl, ?_, nt, nc, h1, dpa_ex (fun a u z => ?_) d1⟩⟩
  · cases k : hide (Own O σ) H p with
    | none => rfl
    | some u => rw [(of_hide k).2] at hp; cases hp
  · obtain ⟨n, z⟩ := of_hide z
    obtain ⟨n2, z⟩ := of_hide z
    exact hide_of (fun y => y.elim n n2) z
/-- an owned list is returned -/
theorem ss_retO {i : Nat} {x : Str} {p2 : Pos} (hN : Γ.N[i]? = some x) (hv : visB Γ.sc x = true) (hi : i ∈ O) (ht : i ∉ Th) (hd : (x == ("__debug__" : Str)) = false := by decide) (hcd : (x == ("__classdict__" : Str)) = false := by decide) : TrS Γ Th fz O O' Ol (.Return (some (.Name x p2)) pos) (mRet (xLst (xOwn i))) := by
  refine ⟨tRet (tVar i), fun X h => ps_ret (pe_var (h.nx hN) (h.vis hv) hd hcd), fun c hc σ H s r o e E w => ?_⟩
  unfold mRet at e
  obtain ⟨pr, e1, rfl⟩ := mapNx_of e
  unfold xLst at e1
  obtain ⟨⟨ds, s1⟩, e2, rfl⟩ := mapNx_of e1
  obtain ⟨e3, rfl⟩ := xOwn_of e2
  obtain ⟨p, vs, ds', h1, h2, h3, h4, h5⟩ := r.ow i hi
  rw [h2] at e3
  cases e3
  have nt : ¬ c.T p := fun ⟨j, hj, z⟩ => by
    obtain ⟨k1, k2⟩ := r.th j hj
    rw [← k2] at z
    have := r.nd i j p hi k1 h1 z
    subst this
    rw [hc] at hj
    exact ht hj
  have sub : ∀ a, ((c.C a ∨ c.T a) ∨ a = p) → c.msk O σ a := fun a z => by
    rcases z with (z | z) | z
    · exact .inl z
    · rw [← th_ret r] at z
      exact .inr (own_sub (fun j hj => (r.th j hj).1) a z)
    · rw [z]; exact .inr ⟨i, hi, h1⟩
  refine ⟨.ref p, h1, w.rt _ _ (.ref p) H rfl ⟨rt_ex (W := []) r (fun _ z => nomatch z) (Ex.refl _), rt_th r, .lst (.inl (.inl (hide_of (fun z => z.elim h5 nt) h3))) (dpa_ex (ex_hide_sub fun a z => sub a (.inl z)) h4), fun _ => ⟨p, vs, _, rfl, rfl, hide_no ⟨i, hi, h1⟩, nt, h5, h3, dpa_ex (ex_hide_sub sub) h4⟩⟩⟩

/-! ### for -/
theorem ss_for {tg iter : Expr} {vs : List Nat} {b : D → MS → Option MS} (hi : TrI Γ O W tg iter ms) (hg : TrG Γ O vs tg b) (hb : TrSs Γ Th fz O O O sts m) (hv : ∀ j ∈ O, j ∉ vs) (hW : ∀ j ∈ W, j ∈ O) (hs : ∀ (env : Env) x, foldedSetIterable iter env x = pure x := by intro _ _; rfl) :
    TrS Γ Th fz O O Ol (.For tg iter sts [] pos) (mFor ms b m) := by
  obtain ⟨wi, pi, si⟩ := hi
  obtain ⟨g, pg, sg⟩ := hg
  obtain ⟨t, pb, sb⟩ := hb
  refine ⟨tFor wi g t, fun X h => ps_for (by rw [h.xe]; exact PassesOwn.never) h.calm (pi X h) (pg X h) (pb X h) (hs X.env), fun c hc σ H s r o e E w => ?_⟩
  unfold mFor at e
  obtain ⟨⟨xs, s1⟩, e1, e2⟩ := bind_of e
  refine si c σ H s r _ _ e1 _ fun J H1 r1 x1 it => ?_
  have f1 : Fr O σ H O σ H1 := Fr.of_ex hW x1
  let Pv : Nat → L2.St → Hp → Prop := fun i σ' H' => ∃ si : MS, R Γ.K c O si σ' H' ∧ Fr O σ H1 O σ' H' ∧ forL b m (xs.drop i) si = some o
  refine ⟨fun i k σ' H' => k = xs.length - i ∧ i ≤ xs.length ∧ Pv i σ' H', ⟨xs.length, by simp, Nat.zero_le _, s1, r1, Fr.refl _ _ _, e2⟩, ?_⟩
  rintro i k σ' H' ⟨rfl, hile, si, ri, fi, run⟩
  have exm : Ex (hide (c.msk O σ) H1) (hide (c.msk O σ') H') := fun a u z => by
    obtain ⟨n, z⟩ := of_hide z
    obtain ⟨n2, z2⟩ := of_hide (fi a u (hide_of (fun y => n (.inr y)) z))
    exact hide_of (fun y => y.elim (fun y => n (.inl y)) n2) z2
  obtain ⟨itgo, itstop⟩ := it i c σ' H' exm (msk_there ri fun _ z => z)
  by_cases hlt : i < xs.length
  · obtain ⟨d, hd⟩ : ∃ d, xs[i]? = some d := ⟨xs[i], List.getElem?_eq_getElem hlt⟩
    obtain ⟨go, yl⟩ := itgo d hd
    have edrop : xs.drop i = d :: xs.drop (i + 1) := by
      rw [List.drop_eq_getElem_cons hlt]
      rw [List.getElem?_eq_getElem hlt] at hd
      cases hd; rfl
    rw [edrop] at run
    unfold forL at run
    obtain ⟨s2, e3, run⟩ := bind_of run
    obtain ⟨ob, e4, run⟩ := bind_of run
    refine .inr ⟨go, Pv (i + 1), fun σ2 H2 p2 => ⟨xs.length - (i + 1), by omega, rfl, hlt, p2⟩, fun x H2 y => ?_⟩
    obtain ⟨ex2, dx⟩ := yl x H2 y
    refine sg c σ' H2 si x d (ri.ex ex2) dx s2 e3 _ fun σ2 r2 o2 => ?_
    have f2 : Fr O σ H1 O σ2 H2 := fi.trans (by unfold Fr; rw [o2.own hv]; exact ex_hide ex2)
    refine sb c hc σ2 H2 s2 r2 ob e4 _ ⟨fun s3 σ3 H3 eo r3 f3 => ?_, fun s3 σ3 H3 eo r3 f3 => ?_, fun s3 σ3 H3 eo r3 f3 => ?_, fun d3 s3 v3 H3 eo rt => ?_⟩
    · subst eo
      exact ⟨s3, r3, f2.trans f3, run⟩
    · subst eo
      cases run
      exact w.nx s3 σ3 H3 rfl r3 ((f1.trans f2).trans f3)
    · subst eo
      exact ⟨s3, r3, f2.trans f3, run⟩
    · subst eo
      cases run
      exact w.rt d3 s3 v3 H3 rfl (rt.ahead (f1.trans f2))
  · have hie : i = xs.length := by omega
    rw [hie, List.drop_length] at run
    unfold forL at run
    cases run
    exact .inl ⟨itstop hie, w.nx si σ' H' rfl ri (f1.trans fi)⟩

/-! ### while, by fuel -/
def whileM (c : MT) (m : MM) : Nat → MS → Option Out
  | 0, _ => none
  | n + 1, s => (c s).bind fun p => if p.1 = true then (m p.2).bind fun o => match o with
      | .nx s2 => whileM c m n s2
      | .ct s2 => whileM c m n s2
      | .bk s2 => some (.nx s2)
      | .rt d s2 => some (.rt d s2) else some (.nx p.2)
theorem ss_while (n : Nat) (hc : TrT Γ O W e mt) (hb : TrSs Γ Th fz O O O sts m) (hW : ∀ j ∈ W, j ∈ O) : TrS Γ Th fz O O Ol (.While e sts [] pos) (whileM mt m n) := by
  obtain ⟨t, p, q⟩ := hc
  obtain ⟨u, pb, sb⟩ := hb
  refine ⟨tWhile t u, fun X h => ps_while (by rw [h.xe]; exact PassesOwn.never) (p X h) (pb X h), fun c hc σ H s r o e E w => ?_⟩
  refine ⟨fun k σ' H' => ∃ si : MS, R Γ.K c O si σ' H' ∧ Fr O σ H O σ' H' ∧ whileM mt m k si = some o, ⟨n, s, r, Fr.refl _ _ _, e⟩, ?_⟩
  rintro k σ' H' ⟨si, ri, fi, run⟩
  cases k with
  | zero => cases run
  | succ k =>
    unfold whileM at run
    obtain ⟨⟨bt, s1⟩, e1, run⟩ := bind_of run
    refine q c σ' H' si ri _ _ e1 _ fun H1 r1 x1 => ?_
    have f1 : Fr O σ H O σ' H1 := fi.trans (Fr.of_ex hW x1)
    cases bt with
    | true =>
      rw [if_pos rfl] at run ⊢
      obtain ⟨ob, e4, run⟩ := bind_of run
      refine ⟨fun σ3 H3 => ∃ s3 : MS, R Γ.K c O s3 σ3 H3 ∧ Fr O σ H O σ3 H3 ∧ whileM mt m k s3 = some o, fun σ3 H3 p3 => ⟨k, Nat.lt_succ_self k, p3⟩, ?_⟩
      refine sb c hc σ' H1 s1 r1 ob e4 _ ⟨fun s3 σ3 H3 eo r3 f3 => ?_, fun s3 σ3 H3 eo r3 f3 => ?_, fun s3 σ3 H3 eo r3 f3 => ?_, fun d3 s3 v3 H3 eo rt => ?_⟩
      · subst eo
        exact ⟨s3, r3, f1.trans f3, run⟩
      · subst eo
        cases run
        exact w.nx s3 σ3 H3 rfl r3 (f1.trans f3)
      · subst eo
        exact ⟨s3, r3, f1.trans f3, run⟩
      · subst eo
        cases run
        exact w.rt d3 s3 v3 H3 rfl (rt.ahead f1)
    | false =>
      rw [if_neg Bool.false_ne_true] at run ⊢
      cases run
      exact w.nx s1 σ' H1 rfl r1 f1

/-! ### owned lists changed -/
theorem own_at {K : PySem.W.Frag} {c : Cn} {s : MS} {σ : L2.St} {H : Hp} {i : Nat} {ds : List D} (r : R K c O s σ H) (hi : i ∈ O) (e : s.getD i none = some (.list ds)) {p0 : Addr} (h0 : σ[i]? = some (some (.ref p0))) : ∃ vs, H p0 = some (.lst vs) ∧ RpAll K (hide (c.msk O σ) H) vs ds := by
  obtain ⟨p, vs, ds', k1, k2, k3, k4, k5⟩ := r.ow i hi
  rw [h0] at k1
  cases k1
  rw [List.getD_eq_getElem?_getD, k2] at e
  cases e
  exact ⟨vs, k3, k4⟩
def mApp (i : Nat) (a : ME) : MM := fun s => (a s).bind fun p => match p.2.getD i none with
  | some (.list ds) => if ds.length ≤ 1000000 then some (.nx (p.2.set i (some (.list (ds ++ [p.1]))))) else none
  | _ => none
theorem ss_app {i : Nat} {x : Str} {px apos cpos : Pos} (hN : Γ.N[i]? = some x) (hv : visB Γ.sc x = true) (hi : i ∈ O) (he : TrE Γ O O W e me) (hW : ∀ j ∈ W, j ∈ O) (hst : ∀ env : Env, starEach [e] env = (false, eval e env) :: starEach [] env := by intro _; rfl) (hd : (x == ("__debug__" : Str)) = false := by decide) (hcd : (x == ("__classdict__" : Str)) = false := by decide)
    (hbase : ∀ env : Env, attributeBase (.Name x px) "append" env (eval (.Name x px) env) = eval (.Name x px) env := by intro _; rfl)
    (hfew : ∀ env : Env, ((backTo cpos (starEach [e] env)).all (fun x => !x.1) && (backToKw cpos (keywordEach [] env)).all (fun x => x.1.isSome)
      && decide (([e] : List Expr).length + ([] : List Keyword).length + (if ([] : List Keyword).isEmpty then 0 else 1) < 30)) = true := by intro _; rfl)
    (hline : (apos.endLine == cpos.line) = true := by rfl) :
    TrS Γ Th fz O O Ol (.Expr (.Call (.Attribute (.Name x px) "append" apos) [e] [] cpos) pos) (mApp i me) := by
  obtain ⟨t, p, q⟩ := he
  refine ⟨tDrop (tBM Γ.K "list" rAppend (tVar i) (tCons t tNil)), fun X h => by rw [← h.K]; exact ps_expr (pe_bm PySem.F.plainAttrs_list PySem.F.slot_list_append PySem.F.type_list_append mt_append (pe_var (h.nx hN) (h.vis hv) hd hcd) (pa_cons (p X h) pa_nil (hst X.env)) (hbase X.env) (hfew X.env) hline (hst X.env)), fun c hc σ H s r o e E w => ?_⟩
  unfold mApp at e
  obtain ⟨⟨d, s1⟩, e1, e2⟩ := bind_of e
  dsimp only at e2
  split at e2
  · rename_i ds e3
    split at e2
    · rename_i hl
      cases e2
      obtain ⟨p0, vs0, _, h1, _, h3, _⟩ := r.ow i hi
      refine ⟨.ref p0, h1, .inl ⟨rfl, vs0, .inl (.inl h3)⟩, ?_⟩
      refine q c σ H s r _ _ e1 _ fun v H1 r1 x1 d1 => ?_
      obtain ⟨vs, k3, k4⟩ := own_at r1 hi e3 h1
      refine ⟨p0, vs, v, rfl, rfl, k3, Nat.lt_of_lt_of_le (show vs.length < 1000001 by rw [dpa_len k4]; omega) (by decide), ?_⟩
      obtain ⟨r2, x2⟩ := r1.chg hi h1 (vs := vs ++ [v]) (ds := ds ++ [d]) (dpa_app k4 (.cons d1 .nil))
      exact w.nx _ σ _ rfl r2 ((Fr.of_ex hW x1).trans (ex_wide (own_sub fun j hj => by rw [List.mem_singleton.mp hj]; exact hi) x2))
    · cases e2
  · cases e2
def mExt (i : Nat) (a : MF) : MM := fun s => (a s).bind fun p => match p.2.getD i none with
  | some (.list ds) => if ds.length + p.1.length ≤ 1000000 then some (.nx (p.2.set i (some (.list (ds ++ p.1))))) else none
  | _ => none
/-- xs.extend(a new list) -/
theorem ss_ext {i : Nat} {x : Str} {px apos cpos : Pos} (hN : Γ.N[i]? = some x) (hv : visB Γ.sc x = true) (hi : i ∈ O) (he : TrF Γ O O W e mf) (hW : ∀ j ∈ W, j ∈ O) (hst : ∀ env : Env, starEach [e] env = (false, eval e env) :: starEach [] env := by intro _; rfl) (hd : (x == ("__debug__" : Str)) = false := by decide) (hcd : (x == ("__classdict__" : Str)) = false := by decide)
    (hbase : ∀ env : Env, attributeBase (.Name x px) "extend" env (eval (.Name x px) env) = eval (.Name x px) env := by intro _; rfl)
    (hfew : ∀ env : Env, ((backTo cpos (starEach [e] env)).all (fun x => !x.1) && (backToKw cpos (keywordEach [] env)).all (fun x => x.1.isSome)
      && decide (([e] : List Expr).length + ([] : List Keyword).length + (if ([] : List Keyword).isEmpty then 0 else 1) < 30)) = true := by intro _; rfl)
    (hline : (apos.endLine == cpos.line) = true := by rfl) :
    TrS Γ Th fz O O Ol (.Expr (.Call (.Attribute (.Name x px) "extend" apos) [e] [] cpos) pos) (mExt i mf) := by
  obtain ⟨t, p, q⟩ := he
  refine ⟨tDrop (tBM Γ.K "list" rExtend (tVar i) (tCons t tNil)), fun X h => by rw [← h.K]; exact ps_expr (pe_bm PySem.F.plainAttrs_list PySem.F.slot_list_extend PySem.F.type_list_extend mt_extend (pe_var (h.nx hN) (h.vis hv) hd hcd) (pa_cons (p X h) pa_nil (hst X.env)) (hbase X.env) (hfew X.env) hline (hst X.env)), fun c hc σ H s r o e E w => ?_⟩
  unfold mExt at e
  obtain ⟨⟨es, s1⟩, e1, e2⟩ := bind_of e
  dsimp only at e2
  split at e2
  · rename_i ds e3
    split at e2
    · rename_i hl
      cases e2
      obtain ⟨p0, vs0, _, h1, _, h3, _⟩ := r.ow i hi
      refine ⟨.ref p0, h1, .inl ⟨rfl, vs0, .inl (.inl h3)⟩, ?_⟩
      refine q c σ H s r _ _ e1 _ fun b us H1 hb r1 x1 hb1 d1 => ?_
      obtain ⟨vs, k3, k4⟩ := own_at r1 hi e3 h1
      have r1' := r1.ex (ex_hide0 (A := (· = b)))
      have k4' := dpa_ex (ex_hide (ex_hide0 (A := (· = b)))) k4
      have d1' := dpa_ex (ex_hide (ex_hide0 (A := (· = b)))) d1
      refine ⟨p0, b, vs, us, rfl, rfl, (of_hide k3).2, hb1, sz1M (by rw [dpa_len k4, dpa_len d1]; exact hl), ?_⟩
      obtain ⟨r2, x2⟩ := r1'.chg hi h1 (vs := vs ++ us) (ds := ds ++ es) (dpa_app k4' d1')
      exact w.nx _ σ _ rfl r2 ((Fr.of_ex hW (x1.trans (ex_hide ex_hide0))).trans (ex_wide (own_sub fun j hj => by rw [List.mem_singleton.mp hj]; exact hi) x2))
    · cases e2
  · cases e2
def mSetIx (i : Nat) (v k : ME) : MM := fun s => (v s).bind fun p => (k p.2).bind fun q => match q.1, q.2.getD i none with
  | .int n, some (.list ds) => (ixN ds.length n).map fun j => .nx (q.2.set i (some (.list (ds.set j p.1))))
  | _, _ => none
/-- xs[k] = v -/
theorem ss_setIx {i : Nat} {x : Str} {px tpos : Pos} {k : Expr} {mk : ME} (hN : Γ.N[i]? = some x) (hv : visB Γ.sc x = true) (hi : i ∈ O) (he : TrE Γ O O W e me) (hk : TrE Γ O L0 W k mk) (hW : ∀ j ∈ W, j ∈ O) (hs : ∀ env : Env, swapsWithSole [.Subscript (.Name x px) k tpos] e pos.line env = pure false := by intro _; rfl) (hw : ∀ env : Env, swappedStores [.Subscript (.Name x px) k tpos] e env = pure none := by intro _; rfl)
    (h1 : ∀ env : Env, (assignEach [.Subscript (.Name x px) k tpos] env).map (·.2) = [assign (.Subscript (.Name x px) k tpos) env] := by intro _; rfl)
    (ha : ∀ (env : Env) v, assign (.Subscript (.Name x px) k tpos) env v = (do
      let ov ← holding [v] (eval (.Name x px) env)
      let iv ← holding [v, ov] (eval k env)
      standAt tpos
      holding [v, ov, iv] (setItem ov iv v)
      release [v, ov, iv] []) := by intro _ _; rfl) (hd : (x == ("__debug__" : Str)) = false := by decide) (hcd : (x == ("__classdict__" : Str)) = false := by decide) :
    TrS Γ Th fz O O Ol (.Assign [.Subscript (.Name x px) k tpos] e pos) (mSetIx i me mk) := by
  obtain ⟨t, p, q⟩ := he
  obtain ⟨t2, p2, q2⟩ := hk
  refine ⟨tAsg t (gSub (tVar i) t2 rSetL), fun X h => ps_asg (p X h) (pg_sub (pe_var (h.nx hN) (h.vis hv) hd hcd) (p2 X h) set_list (ha X.env)) (hs X.env) (hw X.env) (h1 X.env), fun c hc σ H s r o e E w => ?_⟩
  unfold mSetIx at e
  obtain ⟨⟨d, s1⟩, e1, e2⟩ := bind_of e
  obtain ⟨⟨dk, s2⟩, e3, e4⟩ := bind_of e2
  dsimp only at e4
  split at e4
  · rename_i n ds e5
    obtain ⟨j, ej, rfl⟩ := mapNx_of e4
    obtain ⟨p0, vs0, _, h1, _, _, _⟩ := r.ow i hi
    refine q c σ H s r _ _ e1 _ fun v H1 r1 x1 d1 => ?_
    refine ⟨.ref p0, h1, ?_⟩
    refine q2 c σ H1 s1 r1 _ _ e3 _ fun u H2 r2 x2 d2 => ?_
    cases d2
    obtain ⟨vs, k3, k4⟩ := own_at r2 hi e5 h1
    refine ⟨p0, vs, n, j, rfl, rfl, k3, by rw [dpa_len k4]; exact ej, ?_⟩
    obtain ⟨r3, x3⟩ := r2.chg hi h1 (vs := vs.set j v) (ds := ds.set j d) (dpa_set (dp_ex (keep hW x2) d1) j k4)
    exact w.nx _ σ _ rfl r3 ((Fr.of_ex hW (x1.trans x2)).trans (ex_wide (own_sub fun j hj => by rw [List.mem_singleton.mp hj]; exact hi) x3))
  · cases e4
theorem pget_list {X : Cx} : PGet X (fun o i H Q => ∃ p xs k v, o = .ref p ∧ i = .int k ∧ H p = some (.lst xs) ∧ 0 ≤ k ∧ xs[k.toNat]? = some v ∧ Q v H) := by
  intro pins s σ H o i ov iv Q I ro ri h
  obtain ⟨p, xs, k, v, rfl, rfl, hp, h0, hv, q⟩ := h
  cases ro
  obtain ⟨t, rfl⟩ := ri
  obtain ⟨its, n, r, ho, hz⟩ := I.lst hp
  obtain ⟨u, hu, ru⟩ := r.get hv
  have hl := r.length
  have hn := line63
  have hk := (List.getElem?_eq_some_iff.mp hu).1
  exact wpAny_getItem_list (IsL.isList ho) h0 (by omega) (by simpa using hu) ⟨v, H, I, ru, q⟩
/-- xs[k] op= v, of ints -/
def mAugIx (f : D → D → Option D) (i : Nat) (k v : ME) : MM := fun s => (k s).bind fun q => match q.1, q.2.getD i none with
  | .int n, some (.list ds) => if 0 ≤ n then match ds[n.toNat]? with
      | some d => (v q.2).bind fun p => match p.2.getD i none with
        | some (.list es) => if n < es.length then (f d p.1).map fun z => .nx (p.2.set i (some (.list (es.set n.toNat z)))) else none
        | _ => none
      | none => none else none
  | _, _ => none
theorem ss_augIx {op : Operator} {r : R2} {f : D → D → Option D} {i : Nat} {x : Str} {px tpos : Pos} {k : Expr} {mk : ME} (ho : ∀ X, InG Γ X → OpR X (inplaceOp op) r) (hr : RS Γ.K r f) (hN : Γ.N[i]? = some x) (hv : visB Γ.sc x = true) (hi : i ∈ O) (hk : TrE Γ O L0 [] k mk) (he : TrE Γ O L [] e me)
    (ha : ∀ ov iv new, augStore k ov iv new = (do holding [new, ov, iv] (setItem ov iv new); release [new, ov, iv] []; pure .next) := by intros; rfl) (hd : (x == ("__debug__" : Str)) = false := by decide) (hcd : (x == ("__classdict__" : Str)) = false := by decide) :
    TrS Γ Th fz O O Ol (.AugAssign (.Subscript (.Name x px) k tpos) op e pos) (mAugIx f i mk me) := by
  obtain ⟨t, p, q⟩ := he
  obtain ⟨t2, p2, q2⟩ := hk
  refine ⟨tAugS (tVar i) t2 t (fun o i H Q => ∃ p xs k v, o = .ref p ∧ i = .int k ∧ H p = some (.lst xs) ∧ 0 ≤ k ∧ xs[k.toNat]? = some v ∧ Q v H) r rSetL, fun X h => ps_augS (pe_var (h.nx hN) (h.vis hv) hd hcd) (p2 X h) pget_list (p X h) (ho X h) set_list ha, fun c hc σ H s r0 o e E w => ?_⟩
  unfold mAugIx at e
  obtain ⟨⟨dk, s1⟩, e1, e2⟩ := bind_of e
  dsimp only at e2
  split at e2
  · rename_i n ds e3
    split at e2
    · rename_i h0
      split at e2
      · rename_i d ed
        obtain ⟨⟨dv, s2⟩, e4, e5⟩ := bind_of e2
        dsimp only at e5
        split at e5
        · rename_i es e6
          split at e5
          · rename_i hn
            obtain ⟨z, ez, rfl⟩ := mapNx_of e5
            obtain ⟨p0, vs0, _, h1, _, _, _⟩ := r0.ow i hi
            refine ⟨.ref p0, h1, ?_⟩
            refine q2 c σ H s r0 _ _ e1 _ fun u H1 r1 x1 d1 => ?_
            cases d1
            obtain ⟨vs, k3, k4⟩ := own_at r1 hi e3 h1
            obtain ⟨v, g1, g2⟩ := dpa_get k4 ed
            refine ⟨p0, vs, n, v, rfl, rfl, k3, h0, g1, ?_⟩
            refine q c σ H1 s1 r1 _ _ e4 _ fun y H2 r2 x2 d2 => ?_
            obtain ⟨us, k3', k4'⟩ := own_at r2 hi e6 h1
            have ee : Ex H1 H2 := fun a o z => (of_hide (x2 a o (hide_of (fun ⟨j, hj, _⟩ => nomatch hj) z))).2
            refine hr H2 v y d dv z (dp_ex (ex_hide0.trans ee) g2) (dp_ex ex_hide0 d2) ez _ fun zv hz => ?_
            refine ⟨p0, us, n, n.toNat, rfl, rfl, k3', ?_, ?_⟩
            · rw [dpa_len k4']
              unfold ixN
              rw [if_pos h0, if_pos hn]
            · obtain ⟨r3, x3⟩ := r2.chg hi h1 (vs := us.set n.toNat zv) (ds := es.set n.toNat z) (dpa_set (hz _) n.toNat k4')
              exact w.nx _ σ _ rfl r3 ((Fr.of_ex (W := []) (fun _ z => nomatch z) (x1.trans x2)).trans (ex_wide (own_sub fun j hj => by rw [List.mem_singleton.mp hj]; exact hi) x3))
          · cases e5
        · cases e5
      · cases e2
    · cases e2
  · cases e2
/-- name op= e, of scalars -/
def mAug (f : D → D → Option D) (i : Nat) (v : ME) : MM := fun s => match s.getD i none with
  | some d => (v s).bind fun p => (f d p.1).map fun z => .nx (p.2.set i (some z))
  | none => none
theorem ss_aug {op : Operator} {r : R2} {f : D → D → Option D} {i : Nat} {x : Str} {px : Pos} (ho : ∀ X, InG Γ X → OpR X (inplaceOp op) r) (hr : RS Γ.K r f) (hN : Γ.N[i]? = some x) (hv : locB Γ x = true) (hi : i ∉ O) (ht : i ∉ Th) (hT : ∀ j ∈ Th, j ∈ O) (he : TrE Γ O O W e me) (hW : ∀ j ∈ W, j ∈ O) :
    TrS Γ Th fz O O Ol (.AugAssign (.Name x px) op e pos) (mAug f i me) := by
  obtain ⟨t, p, q⟩ := he
  refine ⟨tAug i t r, fun X h => ps_aug h.ndX (h.nx hN) (h.loc hv).1 (p X h) (ho X h) (h.loc hv).2, fun c hc σ H s r0 o e E w => ?_⟩
  unfold mAug at e
  split at e
  · rename_i d ed
    obtain ⟨⟨dv, s1⟩, e1, e2⟩ := bind_of e
    obtain ⟨z, ez, rfl⟩ := mapNx_of e2
    have ed2 : s[i]? = some (some d) := by
      rw [List.getD_eq_getElem?_getD] at ed
      cases e3 : s[i]? with
      | none => rw [e3] at ed; cases ed
      | some o => rw [e3] at ed; exact congrArg some ed
    obtain ⟨v0, h1, h2⟩ := r0.sh i d hi ed2
    refine ⟨v0, h1, ?_⟩
    refine q c σ H s r0 _ _ e1 _ fun v H1 r1 x1 d1 => ?_
    refine hr H1 v0 v d dv z (dp_ex ((keep hW x1).trans ex_hide0) h2) (dp_ex ex_hide0 d1) ez _ fun zv hz => ?_
    obtain ⟨r2, x2⟩ := setR (O' := O) r1 (hz _) (by rw [hc]; exact ht) (fun j hj => List.mem_filter.mpr ⟨hj, by simpa using (fun e => hi (e ▸ hj) : j ≠ i)⟩) (by rw [hc]; exact hT)
    exact w.nx _ _ H1 rfl r2 ((Fr.of_ex hW x1).trans x2)
  · cases e
/-- xs.pop(k), xs.pop() of an owned list, as a value -/
def xPopAt (i : Nat) (k : ME) : ME := fun s => (k s).bind fun q => match q.1, q.2.getD i none with
  | .int n, some (.list ds) => if (0 ≤ n ∧ n < ds.length) ∧ ds.length ≤ 1000000 then (ds[n.toNat]?).map fun d => (d, q.2.set i (some (.list (ds.eraseIdx n.toNat)))) else none
  | _, _ => none
theorem tr_popAt {i : Nat} {x : Str} {px apos cpos : Pos} {k : Expr} {mk : ME} (hN : Γ.N[i]? = some x) (hv : visB Γ.sc x = true) (hi : i ∈ O) (hiW : i ∈ W) (hk : TrE Γ O L0 W k mk) (hW : ∀ j ∈ W, j ∈ O) (hL : ∀ j ∈ L, j ∈ O) (hst : ∀ env : Env, starEach [k] env = (false, eval k env) :: starEach [] env := by intro _; rfl) (hd : (x == ("__debug__" : Str)) = false := by decide) (hcd : (x == ("__classdict__" : Str)) = false := by decide)
    (hbase : ∀ env : Env, attributeBase (.Name x px) "pop" env (eval (.Name x px) env) = eval (.Name x px) env := by intro _; rfl)
    (hfew : ∀ env : Env, ((backTo cpos (starEach [k] env)).all (fun x => !x.1) && (backToKw cpos (keywordEach [] env)).all (fun x => x.1.isSome)
      && decide (([k] : List Expr).length + ([] : List Keyword).length + (if ([] : List Keyword).isEmpty then 0 else 1) < 30)) = true := by intro _; rfl)
    (hline : (apos.endLine == cpos.line) = true := by rfl) : TrE Γ O L W (.Call (.Attribute (.Name x px) "pop" apos) [k] [] cpos) (xPopAt i mk) := by
  obtain ⟨t, p, q⟩ := hk
  refine ⟨tBM Γ.K "list" rPopAt (tVar i) (tCons t tNil), fun X h => by rw [← h.K]; exact pe_bm PySem.F.plainAttrs_list PySem.F.slot_list_pop PySem.F.type_list_pop mt_popAt (pe_var (h.nx hN) (h.vis hv) hd hcd) (pa_cons (p X h) pa_nil (hst X.env)) (hbase X.env) (hfew X.env) hline (hst X.env), fun c σ H s r d s' e Q w => ?_⟩
  unfold xPopAt at e
  obtain ⟨⟨dk, s1⟩, e1, e2⟩ := bind_of e
  dsimp only at e2
  split at e2
  · rename_i n ds e3
    split at e2
    · rename_i hn
      obtain ⟨z, ez, e4⟩ := mapNx_of e2
      cases e4
      obtain ⟨p0, vs0, _, h1, _, h3, _⟩ := r.ow i hi
      refine ⟨.ref p0, h1, .inl ⟨rfl, vs0, .inl (.inl h3)⟩, ?_⟩
      refine q c σ H s r _ _ e1 _ fun v H1 r1 x1 d1 => ?_
      cases d1
      obtain ⟨vs, k3, k4⟩ := own_at r1 hi e3 h1
      obtain ⟨y, g1, g2⟩ := dpa_get k4 ez
      have hlen : vs.length = ds.length := dpa_len k4
      obtain ⟨hn, hsz⟩ := hn
      refine ⟨p0, vs, n, n.toNat, y, rfl, rfl, k3, by omega, by omega, ?_, g1, ?_⟩
      · rw [PySem.StrLaws.seqIndex_nonneg hn.1 (by omega)]
      · obtain ⟨r2, x2⟩ := r1.chg hi h1 (vs := vs.eraseIdx n.toNat) (ds := ds.eraseIdx n.toNat) (dpa_erase n.toNat k4)
        refine w y _ r2 (x1.trans (ex_wide (own_sub fun j hj => by rw [List.mem_singleton.mp hj]; exact hiW) x2)) ?_
        exact dp_ex (ex_hide_sub (msk_sub hL)) (dp_ex (ex_hide_up (.inr ⟨i, hi, h1⟩)) g2)
    · cases e2
  · cases e2
end
end Z


namespace Z
open PySem PySem.Spec PyProof.Rows L2

/-! ## a def's promise by its body -/
def startM (n : Nat) (ds : List D) : MS := ds.map some ++ List.replicate (n - ds.length) none
def outP : Out → Option D
  | .rt d _ => some d
  | .nx _ => some .none
  | _ => none
def outL : Out → Option (List D)
  | .rt (.list ds) _ => some ds
  | _ => none
def outT : Out → Option (D × List D)
  | .rt d s => match s.getD 0 none with
    | some (.list fs) => some (d, fs)
    | _ => none
  | .nx s => match s.getD 0 none with
    | some (.list fs) => some (.none, fs)
    | _ => none
  | _ => none
def fnP (a n : Nat) (m : MM) : List D → Option D := fun ds => if ds.length = a then (m (startM n ds)).bind outP else none
def fnL (a n : Nat) (m : MM) : List D → Option (List D) := fun ds => if ds.length = a then (m (startM n ds)).bind outL else none
def fnT (a n : Nat) (m : MM) : List D → List D → Option (D × List D) := fun fs ds => if ds.length + 1 = a then (m (startM n (.list fs :: ds))).bind outT else none
section
variable {K : PySem.W.Frag} {H : Hp}
theorem dpa_getV : ∀ {vs : List V} {ds : List PyData} {i : Nat} {v : V}, RpAll K H vs ds → vs[i]? = some v → ∃ d, ds[i]? = some d ∧ Rp K H v d
  | _, _, _, _, .nil, e => by simp at e
  | _, _, 0, _, .cons h a, e => by
    simp at e; subst e; exact ⟨_, rfl, h⟩
  | _, _, i + 1, _, .cons h a, e => by
    obtain ⟨v, h1, h2⟩ := dpa_getV (i := i) a (by simpa using e)
    exact ⟨v, by simpa using h1, h2⟩
theorem startM_get {n : Nat} {ds : List D} {i : Nat} {d : D} (h : (startM n ds)[i]? = some (some d)) : ds[i]? = some d := by
  unfold startM at h
  by_cases hi : i < ds.length
  · rw [List.getElem?_append_left (by simpa using hi), List.getElem?_map] at h
    cases e : ds[i]? with
    | none => rw [e] at h; cases h
    | some a => rw [e] at h; cases h; rfl
  · rw [List.getElem?_append_right (by simpa using hi), List.getElem?_replicate] at h
    split at h <;> cases h
theorem start_get {N : List Str} {vs : List V} {i : Nat} {v : V} (h : vs[i]? = some v) : (start N vs)[i]? = some (some v) := by
  unfold L2.start
  have hi := (List.getElem?_eq_some_iff.mp h).1
  rw [List.getElem?_append_left (by simpa using hi), List.getElem?_map, h]
  rfl
theorem start_len {N : List Str} {vs : List V} {ds : List D} {n : Nat} (hn : N.length = n) (h : vs.length = ds.length) : (startM n ds).length = (start N vs).length := by
  unfold L2.start startM
  rw [List.length_append, List.length_append, List.length_map, List.length_map, List.length_replicate, List.length_replicate, hn, h]
theorem own_nil {σ : L2.St} : Own [] σ = fun _ => False := by
  funext a
  exact propext (Iff.intro (fun ⟨i, h, _⟩ => absurd h (by simp)) (fun h => False.elim h))
theorem hide_false {H : Hp} : hide (fun _ => False) H = H := by
  funext a
  unfold hide
  rw [if_neg (fun h => h)]
/-- the entry of a def that only reads -/
theorem R_start {N : List Str} {vs : List V} {ds : List D} {n : Nat} {C : Addr → Prop} (hn : N.length = n) (hC : ∀ p, C p → ∃ o, H p = some o) (hd : RpAll K (hide C H) vs ds) : R K ⟨C, [], start N vs⟩ [] (startM n ds) (start N vs) H where
  len := start_len hn (dpa_len hd)
  sh := fun i d _ h => by
    obtain ⟨v, h1, h2⟩ := dpa_get hd (startM_get h)
    exact ⟨v, start_get h1, dp_ex (ex_hide_sub fun a z => Or.elim z id fun ⟨_, q, _⟩ => nomatch q) h2⟩
  ow := fun i h => nomatch h
  nd := fun i j p h => nomatch h
  cs := hC
  th := fun i h => nomatch h
end
section
abbrev FnP (K : PySem.W.Frag) (x qual : Str) (st : Stmt) (f : Addr) (fd : FuncData) : Prop := FunD K x qual (defArgs st) (defBody st) (defScope st) [] [] f fd
variable {P : Program} {w : World} {K : PySem.W.Frag} {mg : Str → Option Value} {base : Heap} {x qual : Str} {st : Stmt} {f : Addr} {fd : FuncData} {N ps : List Str} {k a n : Nat} {m : MM}
abbrev G0 (P : Program) (w : World) (K : PySem.W.Frag) (mg : Str → Option Value) (base : Heap) (A : Around) (N : List Str) (sc : Scope) : G := ⟨P, w, K, mg, base, A, N, sc, fun _ => true⟩
theorem fn_P (F : FnP K x qual st f fd) (S : FnScope N ps (defScope st)) (ha : ps.length = a) (hn : N.length = n) (h : ∀ A, Room k A → TrSs (G0 P w K mg base A N (defScope st)) [] false [] [] [] (defBody st) m) : FnOk P w K mg base CX0 (k + 1) f fd ps (spP K (fnP a n m)) := by
  refine F.ok S (fun vs H Q E hs => ?_) (fun cdv A outer s H vs Q E hr hs => ?_)
  · obtain ⟨C, ds, d, _, hd, e, _⟩ := hs
    unfold fnP at e
    split at e
    · rw [dpa_len hd, ha]; assumption
    · cases e
  · obtain ⟨C, ds, d, hC, hd, e, q⟩ := hs
    unfold fnP at e
    split at e
    · obtain ⟨o, e1, e2⟩ := bind_of e
      obtain ⟨t, pt, st'⟩ := h _ hr
      refine ⟨t, PSs.nox (pt _ ⟨rfl, rfl, rfl, rfl, rfl, rfl, rfl, rfl, rfl, S.nd, rfl, rfl⟩), st' ⟨C, [], start N vs⟩ rfl (start N vs) H (startM n ds) (R_start hn hC hd) o e1 _ ⟨fun s' σ' H' eo r' fr => ?_, fun s' σ' H' eo r' fr => ?_, fun s' σ' H' eo r' fr => ?_, fun d' s' v H' eo rt => ?_⟩⟩
      · subst eo
        cases e2
        unfold Fr at fr
        rw [own_nil, own_nil, hide_false, hide_false] at fr
        exact q .non H' fr .non
      · subst eo; cases e2
      · subst eo; cases e2
      · subst eo
        cases e2
        have fr := rt.fr
        have hT : (Cn.mk C [] (start N vs)).T = fun _ => False := own_nil
        rw [own_nil, hT, hide_false, hide_false] at fr
        exact q v H' fr (dp_ex (ex_hide_sub fun a z => .inl z) rt.val)
    · cases e
theorem fn_L (F : FnP K x qual st f fd) (S : FnScope N ps (defScope st)) (ha : ps.length = a) (hn : N.length = n) (h : ∀ A, Room k A → TrSs (G0 P w K mg base A N (defScope st)) [] true [] [] [] (defBody st) m) : FnOk P w K mg base CX0 (k + 1) f fd ps (spL K (fnL a n m)) := by
  refine F.ok S (fun vs H Q E hs => ?_) (fun cdv A outer s H vs Q E hr hs => ?_)
  · obtain ⟨C, ds, es, _, hd, e, _⟩ := hs
    unfold fnL at e
    split at e
    · rw [dpa_len hd, ha]; assumption
    · cases e
  · obtain ⟨C, ds, es, hC, hd, e, q⟩ := hs
    unfold fnL at e
    split at e
    · obtain ⟨o, e1, e2⟩ := bind_of e
      obtain ⟨t, pt, st'⟩ := h _ hr
      refine ⟨t, PSs.nox (pt _ ⟨rfl, rfl, rfl, rfl, rfl, rfl, rfl, rfl, rfl, S.nd, rfl, rfl⟩), st' ⟨C, [], start N vs⟩ rfl (start N vs) H (startM n ds) (R_start hn hC hd) o e1 _ ⟨fun s' σ' H' eo r' fr => ?_, fun s' σ' H' eo r' fr => ?_, fun s' σ' H' eo r' fr => ?_, fun d' s' v H' eo rt => ?_⟩⟩
      · subst eo; cases e2
      · subst eo; cases e2
      · subst eo; cases e2
      · subst eo
        have fr := rt.fr
        have hT : (Cn.mk C [] (start N vs)).T = fun _ => False := own_nil
        rw [own_nil, hT, hide_false, hide_false] at fr
        obtain ⟨p, us, ds', rfl, rfl, k3, k4, k5, k6, k7⟩ := rt.fresh rfl
        cases e2
        rw [own_nil, hide_false] at k3
        refine q p us H' k3 (fun b o z => hide_of (ne_of_none z k3) (fr b o z)) k6 (dpa_ex (fun b o z => ?_) k7)
        obtain ⟨n1, z⟩ := of_hide z
        exact hide_of (fun y => n1 (.inl (.inl y))) (hide_of (fun y => n1 (.inr y)) z)
    · cases e
theorem fn_T (F : FnP K x qual st f fd) (S : FnScope N ps (defScope st)) (ha : ps.length = a) (hn : N.length = n) (h : ∀ A, Room k A → TrSs (G0 P w K mg base A N (defScope st)) [0] false [0] [0] [0] (defBody st) m) : FnOk P w K mg base CX0 (k + 1) f fd ps (spT K (fnT a n m)) := by
  refine F.ok S (fun vs H Q E hs => ?_) (fun cdv A outer s H vs Q E hr hs => ?_)
  · obtain ⟨C, p, us, ws, fs, ds, d, fs', rfl, _, _, _, _, hd, e, _⟩ := hs
    unfold fnT at e
    split at e
    · rw [List.length_cons, dpa_len hd, ha]; assumption
    · cases e
  · obtain ⟨C, p, us, ws, fs, ds, d, fs', rfl, hCp, hC, hp, hus, hd, e, q⟩ := hs
    unfold fnT at e
    split at e
    · obtain ⟨o, e1, e2⟩ := bind_of e
      obtain ⟨t, pt, st'⟩ := h _ hr
      have hs0 : (start N (.ref p :: ws))[0]? = some (some (.ref p)) := start_get rfl
      have own : ∀ b, Own [0] (start N (.ref p :: ws)) b ↔ b = p := fun b => ⟨fun ⟨i, hi, e⟩ => by
        rw [List.mem_singleton.mp hi, hs0] at e
        cases e; rfl, fun e => ⟨0, by simp, by rw [e]; exact hs0⟩⟩
      have sub : ∀ b, (Cn.mk (fun a => C a ∧ a ≠ p) [0] (start N (.ref p :: ws))).msk [0] (start N (.ref p :: ws)) b → C b := fun b z => by
        rcases z with z | z
        · exact z.1
        · rw [(own b).mp z]; exact hCp
      have R0 : R K ⟨fun a => C a ∧ a ≠ p, [0], start N (.ref p :: ws)⟩ [0] (startM n (.list fs :: ds)) (start N (.ref p :: ws)) H := by
        refine ⟨start_len hn (by rw [List.length_cons, List.length_cons, dpa_len hd]), fun i d hi e => ?_, fun i hi => ?_, fun i j _ hi hj _ _ => ?_, fun b z => hC b z.1, fun i hi => ⟨hi, rfl⟩⟩
        · have e' := startM_get e
          cases i with
          | zero => exact absurd (by simp) hi
          | succ i =>
            obtain ⟨v, h1, h2⟩ := dpa_get hd (i := i) (by simpa using e')
            exact ⟨v, start_get (by simpa using h1), dp_ex (ex_hide_sub sub) h2⟩
        · rw [List.mem_singleton.mp hi]
          exact ⟨p, us, fs, hs0, by unfold startM; rfl, hp, dpa_ex (ex_hide_sub sub) hus, fun z => z.2 rfl⟩
        · rw [List.mem_singleton.mp hi, List.mem_singleton.mp hj]
      have fin : ∀ {H' : Hp} {v : V} {d' : D} {s' : MS}, Ex (hide (Own [0] (start N (.ref p :: ws))) H) (hide (Cn.mk (fun a => C a ∧ a ≠ p) [0] (start N (.ref p :: ws))).T H') → (∃ (p' : Addr) (vs : List V) (ds : List D), (start N (.ref p :: ws))[0]? = some (some (.ref p')) ∧ s'[0]? = some (some (.list ds)) ∧ H' p' = some (.lst vs) ∧ RpAll K (hide C H') vs ds) → Rp K (hide C H') v d' →
          (match s'.getD 0 none with | some (.list fs) => some (d', fs) | _ => none) = some (d, fs') → Q v H' := fun {H' v d' s'} fr th val e => by
        obtain ⟨p', vs', ds', g1, g2, g3, g4⟩ := th
        rw [hs0] at g1
        cases g1
        rw [List.getD_eq_getElem?_getD, g2] at e
        cases e
        refine q v H' vs' (fun b o z => ?_) g3 g4 val
        obtain ⟨n1, z⟩ := of_hide z
        exact hide_of n1 (of_hide (fr b o (hide_of (fun y => n1 ((own b).mp y)) z))).2
      have big : ∀ b, C b → (C b ∧ b ≠ p) ∨ (Cn.mk (fun a => C a ∧ a ≠ p) [0] (start N (.ref p :: ws))).T b := fun b z => by
        by_cases e : b = p
        · exact .inr ((own b).mpr e)
        · exact .inl ⟨z, e⟩
      have big2 : ∀ b, (C b ∧ b ≠ p) ∨ (Cn.mk (fun a => C a ∧ a ≠ p) [0] (start N (.ref p :: ws))).T b → C b := fun b z => by
        rcases z with z | z
        · exact z.1
        · rw [(own b).mp z]; exact hCp
      refine ⟨t, PSs.nox (pt _ ⟨rfl, rfl, rfl, rfl, rfl, rfl, rfl, rfl, rfl, S.nd, rfl, rfl⟩), st' ⟨fun a => C a ∧ a ≠ p, [0], start N (.ref p :: ws)⟩ rfl (start N (.ref p :: ws)) H (startM n (.list fs :: ds)) R0 o e1 _ ⟨fun s' σ' H' eo r' fr => ?_, fun s' σ' H' eo r' fr => ?_, fun s' σ' H' eo r' fr => ?_, fun d' s' v H' eo rt => ?_⟩⟩
      · subst eo
        have f2 := rt_ex (W := []) r' (fun _ z => nomatch z) (Ex.refl _)
        obtain ⟨p', vs', ds', g1, g2, g3, g4⟩ := rt_th r' 0 (by simp)
        exact fin (s' := s') (Ex.trans fr f2) ⟨p', vs', ds', g1, g2, g3, dpa_ex (ex_hide_sub big) g4⟩ .non e2
      · subst eo; cases e2
      · subst eo; cases e2
      · subst eo
        obtain ⟨p', vs', ds', g1, g2, g3, g4⟩ := rt.th 0 (by simp)
        exact fin (s' := s') rt.fr ⟨p', vs', ds', g1, g2, g3, dpa_ex (ex_hide_sub big) g4⟩ (dp_ex (ex_hide_sub big) rt.val) e2
    · cases e
theorem fnAt {sp : Sp} (F : FnP K x qual st f fd) (G : FnOk P w K mg base CX0 k f fd ps sp) (hm : mg x = some (.ref f)) (hb : Binds K fd ps []) : FnAt P w K mg base k x ps sp := ⟨f, fd, G, hm, F.kp, hb⟩
end

/-! ## the law -/
def spLaw (K : PySem.W.Frag) : Sp := fun vs H Q _ => ∃ (a : Addr) (ns : List Int), vs = [.ref a] ∧ SqL K H a (ns.map V.int) ∧ ns.length ≤ 63 ∧ ∀ H', Q (.bl true) H'
theorem law_of {P : Program} {w : World} {K : PySem.W.Frag} {mg : Str → Option Value} {base : Heap} {k : Nat} {f : Addr} {fd : FuncData} {ps : List Str} {mf : List D → Option D} (h : FnOk P w K mg base CX0 k f fd ps (spP K mf)) (hl : ∀ ns : List Int, ns.length ≤ 63 → mf [.list (ns.map PyData.int)] = some (.bool true)) : FnOk P w K mg base CX0 k f fd ps (spLaw K) :=
  h.imp fun vs H Q E ⟨a, ns, e, hs, hn, q⟩ => by
    subst e
    refine ⟨fun _ => False, [.list (ns.map PyData.int)], .bool true, fun _ z => False.elim z, .cons (.lst (by rw [hide_false]; exact hs) (dpa_ints ns)) .nil, hl ns hn, fun v H' _ hv => ?_⟩
    cases hv
    exact q H'
end Z


namespace Z
open PySem PySem.Spec PyProof.Rows L2

/-! ## weaker judgements -/
section
variable {Γ : G} {O L L' W : List Nat} {e : Expr} {es : List Expr} {m : ME} {mf : MF} {mt : MT}
theorem own_emp {W : List Nat} {σ : L2.St} : ∀ a, Own [] σ a → Own W σ a := fun a ⟨i, h, _⟩ => absurd h (by simp)
theorem tr_wk (h : TrE Γ O L [] e m) : TrE Γ O L W e m := by
  obtain ⟨t, p, q⟩ := h
  exact ⟨t, p, fun c σ H s r d s' e Q k => q c σ H s r d s' e Q fun v H' r' x => k v H' r' (ex_wide own_emp x)⟩
theorem tt_wk (h : TrT Γ O [] e mt) : TrT Γ O W e mt := by
  obtain ⟨t, p, q⟩ := h
  exact ⟨t, p, fun c σ H s r d s' e Q k => q c σ H s r d s' e Q fun H' r' x => k H' r' (ex_wide own_emp x)⟩
theorem tf_wk (h : TrF Γ O L [] e mf) : TrF Γ O L W e mf := by
  obtain ⟨t, p, q⟩ := h
  exact ⟨t, p, fun c σ H s r d s' e Q k => q c σ H s r d s' e Q fun v vs H' n r' x => k v vs H' n r' (ex_wide own_emp x)⟩
theorem ta_wk (h : TrA Γ O L [] es mf) : TrA Γ O L W es mf := by
  obtain ⟨t, p, q⟩ := h
  exact ⟨t, p, fun c σ H s r d s' e Q k => q c σ H s r d s' e Q fun v H' r' x => k v H' r' (ex_wide own_emp x)⟩
theorem tr_lo (h : TrE Γ O L' W e m) (hL : ∀ j ∈ L, j ∈ L') : TrE Γ O L W e m := by
  obtain ⟨t, p, q⟩ := h
  exact ⟨t, p, fun c σ H s r d s' e Q k => q c σ H s r d s' e Q fun v H' r' x d => k v H' r' x (dp_ex (ex_hide_sub (msk_sub hL)) d)⟩
theorem tf_lo (h : TrF Γ O L' W e mf) (hL : ∀ j ∈ L, j ∈ L') : TrF Γ O L W e mf := by
  obtain ⟨t, p, q⟩ := h
  exact ⟨t, p, fun c σ H s r d s' e Q k => q c σ H s r d s' e Q fun v vs H' n r' x h d => k v vs H' n r' x h (dpa_ex (ex_hide_sub (msk_sub hL)) d)⟩
theorem tb_lo (h : TrB Γ O L' W e mf) (hL : ∀ j ∈ L, j ∈ L') : TrB Γ O L W e mf := by
  obtain ⟨t, p, q⟩ := h
  exact ⟨t, p, fun c σ H s r d s' e Q k => q c σ H s r d s' e Q fun v vs H' r' x h d => k v vs H' r' x h (dpa_ex (ex_hide_sub (msk_sub hL)) d)⟩
theorem tq_lo (h : TrQ Γ O L' W e mf) (hL : ∀ j ∈ L, j ∈ L') : TrQ Γ O L W e mf := by
  obtain ⟨t, p, q⟩ := h
  exact ⟨t, p, fun c σ H s r d s' e Q k => q c σ H s r d s' e Q fun v vs H' r' x h d => k v vs H' r' x h (dpa_ex (ex_hide_sub (msk_sub hL)) d)⟩
/-- a list's other way round, made anew -/
theorem tf_rev {k : Nat} {p1 p2 p3 pos : Pos} (ha : TrB Γ O L W e mf) (hW : ∀ j ∈ W, j ∈ O) : TrF Γ O L W (.Subscript e (.Slice none none (some (.UnaryOp .USub (.Constant (.int 1) k p1) p2)) p3) pos) (xfMap (fun ds => some ds.reverse) mf) := by
  obtain ⟨t, p, q⟩ := ha
  refine ⟨tRevL Γ.K t, fun X h => by rw [← h.K]; exact pe_revL (p X h), fun c σ H s r d s' e Q k => ?_⟩
  obtain ⟨es, e1, e2⟩ := xfMap_of e
  cases e2
  refine q c σ H s r _ _ e1 _ fun a vs H1 r1 x1 hs d1 => ⟨a, vs, rfl, sql_ex ex_hide0 hs, ?_⟩
  exact simF_new r1 x1 (fresh_of r1 hW x1) (dpa_rev d1) k
end

/-! ## a dict written out, and one of its values taken at once -/
section
variable {K : PySem.W.Frag} {H : Hp} {p : Addr} {k1 : List (Key × V)} {o : HO} {A : Addr → Prop}
theorem rd_dk {a : Addr} {u : HO} (hp : H p = some (.dK k1)) (hu : (∀ k, u ≠ .dK k)) (h : Rd (hide A H) a u) : Rd (hide A (upd H p o)) a u := by
  rcases h with h | ⟨q, h⟩
  · obtain ⟨n, h⟩ := of_hide h
    refine .inl (hide_of n ?_)
    rw [upd_ne (by intro e; subst e; rw [hp] at h; cases h; exact hu _ rfl)]
    exact h
  · obtain ⟨n, h⟩ := of_hide h
    refine .inr ⟨q, hide_of n ?_⟩
    rw [upd_ne (by intro e; subst e; rw [hp] at h; cases h)]
    exact h
mutual
theorem rp_dk (hp : H p = some (.dK k1)) : ∀ {v : V} {d : PyData}, Rp K (hide A H) v d → Rp K (hide A (upd H p o)) v d
  | _, _, .non => .non
  | _, _, .bl b => .bl b
  | _, _, .int i => .int i
  | _, _, .str x => .str x
  | _, _, .lst h a => .lst (h.imp (rd_dk hp (fun _ => HO.noConfusion)) id) (rpa_dk hp a)
  | _, _, .tup h a => .tup (h.imp (rd_dk hp (fun _ => HO.noConfusion)) id) (rpa_dk hp a)
theorem rpa_dk (hp : H p = some (.dK k1)) : ∀ {vs : List V} {ds : List PyData}, RpAll K (hide A H) vs ds → RpAll K (hide A (upd H p o)) vs ds
  | _, _, .nil => .nil
  | _, _, .cons h a => .cons (rp_dk hp h) (rpa_dk hp a)
end
theorem R.dk {c : Cn} {O : List Nat} {s : MS} {σ : L2.St} (r : R K c O s σ H) (hp : H p = some (.dK k1)) : R K c O s σ (upd H p o) where
  len := r.len
  sh := fun i d hi h => let ⟨v, h1, h2⟩ := r.sh i d hi h; ⟨v, h1, rp_dk hp h2⟩
  ow := fun i hi => let ⟨q, vs, ds, h1, h2, h3, h4, h5⟩ := r.ow i hi; ⟨q, vs, ds, h1, h2, by rw [upd_ne (by intro e; subst e; rw [hp] at h3; cases h3)]; exact h3, rpa_dk hp h4, h5⟩
  nd := r.nd
  cs := fun b h => by
    by_cases e : b = p
    · exact ⟨o, by rw [e]; exact upd_same⟩
    · rw [upd_ne e]; exact r.cs b h
  th := r.th
theorem R.notOwn {c : Cn} {O W : List Nat} {s : MS} {σ : L2.St} (r : R K c O s σ H) (hW : ∀ j ∈ W, j ∈ O) (hp : H p = some (.dK k1)) : ¬ Own W σ p := fun ⟨i, hi, e⟩ => by
  obtain ⟨q, vs, ds, h1, _, h3, _⟩ := r.ow i (hW i hi)
  rw [e] at h1
  cases h1
  rw [hp] at h3
  cases h3
end
def findK : List Str → List D → Str → Option D
  | k :: ks, d :: ds, z => if k = z then some d else findK ks ds z
  | _, _, _ => none
def pairsK (ks : List Str) (vs : List V) : List (Key × V) := (ks.zip vs).map fun p => (.inr p.1, p.2)
theorem findK_val {K : PySem.W.Frag} {H : Hp} : ∀ {ks : List Str} {vs : List V} {ds : List D} {z : Str} {d : D}, RpAll K H vs ds → findK ks ds z = some d → ∃ v, valV (pairsK ks vs) (.inr z) = some v ∧ Rp K H v d
  | [], _, ds, z, d, _, e => by cases ds <;> cases e
  | k :: ks, _, [], z, d, _, e => by cases e
  | k :: ks, _, d' :: ds, z, d, .cons (v := v) (vs := vs) h a, e => by
    unfold findK at e
    unfold pairsK
    rw [List.zip_cons_cons, List.map_cons]
    by_cases c : k = z
    · rw [if_pos c] at e
      cases e
      exact ⟨v, valV_pos (congrArg Sum.inr c), h⟩
    · rw [if_neg c] at e
      obtain ⟨v', h1, h2⟩ := findK_val a e
      exact ⟨v', by rw [valV_neg (by intro q; exact c (Sum.inr.inj q))]; exact h1, h2⟩
theorem merge_pairs : ∀ (ks : List Str) (vs : List V) (acc : List (Key × V)), ks.Nodup → (∀ k ∈ ks, ∀ p ∈ acc, p.1 ≠ .inr k) → mergeK acc (pairsK ks vs) = acc ++ pairsK ks vs
  | [], vs, acc, _, _ => by unfold pairsK mergeK; simp
  | k :: ks, [], acc, _, _ => by unfold pairsK mergeK; simp
  | k :: ks, v :: vs, acc, hn, hd => by
    have hn' := List.nodup_cons.mp hn
    have e1 : pairsK (k :: ks) (v :: vs) = (.inr k, v) :: pairsK ks vs := rfl
    have e2 : putK acc (.inr k) v = acc ++ [(.inr k, v)] := by
      unfold putK
      rw [if_neg]
      intro z
      obtain ⟨p, hp, e⟩ := List.any_eq_true.mp z
      exact hd k List.mem_cons_self p hp (of_decide_eq_true e)
    rw [e1]
    show mergeK (putK acc (.inr k) v) (pairsK ks vs) = _
    rw [e2, merge_pairs ks vs _ hn'.2 fun k' hk p hp => ?_, List.append_assoc]
    · rfl
    · rcases List.mem_append.mp hp with hp | hp
      · exact hd k' (List.mem_cons_of_mem _ hk) p hp
      · rw [List.mem_singleton.mp hp]
        intro e
        exact hn'.1 (by rw [Sum.inr.inj e]; exact hk)
def SimPs (K : PySem.W.Frag) (O L W : List Nat) (trs : List (TE × TE)) (ks : List Str) (m : MF) : Prop := ∀ (c : Cn) (σ : L2.St) (H : Hp) (s : MS), R K c O s σ H → ∀ ds s', m s = some (ds, s') → ∀ Q : List (V × V) → Hp → Prop,
  (∀ vs H', R K c O s' σ H' → Ex (hide (Own W σ) H) (hide (Own W σ) H') → RpAll K (hide (c.msk L σ) H') vs ds → ds.length = ks.length → Q ((ks.map V.str).zip vs) H') → tPairs trs σ H Q
def TrPs (Γ : G) (O L W : List Nat) (pos : Pos) (keys : List (Option Expr)) (values : List Expr) (ks : List Str) (m : MF) : Prop := ∃ trs, (∀ X, InG Γ X → PPs X pos keys values trs) ∧ SimPs Γ.K O L W trs ks m
section
variable {Γ : G} {O L L0 W : List Nat} {e : Expr} {keys : List (Option Expr)} {values : List Expr} {m : ME} {ms : MF} {pos dpos kpos : Pos} {ks : List Str}
theorem tp_nil : TrPs Γ O L W dpos [] [] [] xaNil := ⟨[], fun _ _ => pps_nil, fun c σ H s r ds s' e Q k => by cases e; exact k [] H r (Ex.refl _) .nil rfl⟩
theorem tp_cons {z : Str} {j : Nat} (h : TrE Γ O L W e m) (hs : TrPs Γ O L W dpos keys values ks ms) (hW : ∀ j ∈ W, j ∈ L) : TrPs Γ O L W dpos (some (.Constant (.str z) j kpos) :: keys) (e :: values) (z :: ks) (xaCons m ms) := by
  obtain ⟨t, p, q⟩ := h
  obtain ⟨trs, ps, qs⟩ := hs
  refine ⟨(tC (.str z), t) :: trs, fun X h => pps_cons pe_str (p X h) (ps X h), fun c σ H s r ds s' e Q k => ?_⟩
  obtain ⟨d, s1, es, e1, e2, rfl⟩ := xaCons_of e
  show t σ H _
  refine q c σ H s r _ _ e1 _ fun v H1 r1 x1 d1 => qs c σ H1 s1 r1 _ _ e2 _ fun vs H2 r2 x2 d2 hl => ?_
  exact k (v :: vs) H2 r2 (x1.trans x2) (.cons (dp_ex (keep hW x2) d1) d2) (by rw [List.length_cons, List.length_cons, hl])
def xDGet (ks : List Str) (m : MF) (e : ME) : ME := fun s => (m s).bind fun p => (e p.2).bind fun q => match q.1 with
  | .str z => (findK ks p.1 z).map fun d => (d, q.2)
  | _ => none
theorem zip_keys : ∀ (ks : List Str) (vs : List V), (ks.map V.str).zip vs = (pairsK ks vs).map fun kv => (kV kv.1, kv.2)
  | [], _ => rfl
  | _ :: _, [] => rfl
  | k :: ks, v :: vs => by
    show (V.str k, v) :: (ks.map V.str).zip vs = _
    rw [zip_keys ks vs]; rfl
theorem tr_dget {b : Expr} {mb : ME} (hu : Γ.A.units + 64 < cLine) (hv : TrPs Γ O L W dpos keys values ks ms) (hb : TrE Γ O L0 W b mb) (hW : ∀ j ∈ W, j ∈ L) (hO : ∀ j ∈ W, j ∈ O) (hn : ks.Nodup := by decide) (hall : keys.all (·.isSome) = true := by rfl) (hl : keys.length = values.length := by rfl) (h0 : keys ≠ [] := by intro h; cases h)
    (h15 : keys.length ≤ 15 := by decide) (k15 : ks.length ≤ 15 := by decide) (hs : NoSl b := by exact fun _ _ => rfl) : TrE Γ O L W (.Subscript (.Dict keys values dpos) b pos) (xDGet ks ms mb) := by
  obtain ⟨trs, p, q⟩ := hv
  obtain ⟨tb, pb, qb⟩ := hb
  refine ⟨tDGet (tDisp trs) tb, fun X h => ?_, fun c σ H s r d s' e Q k => ?_⟩
  · exact pe_dget (by rw [h.A]; omega) (pe_disp (p X h) hall hl h0 h15) (pb X h) hs
  · have e0 : ∃ ds s1 z, ms s = some (ds, s1) ∧ mb s1 = some (.str z, s') ∧ findK ks ds z = some d := by
      unfold xDGet at e
      obtain ⟨p1, a1, a2⟩ := bind_of e
      obtain ⟨p2, b1, b2⟩ := bind_of a2
      obtain ⟨d2, s2⟩ := p2
      cases d2 <;> first | (cases b2; done) | skip
      obtain ⟨d3, c1, c2⟩ := mapNx_of b2
      cases c2
      exact ⟨_, _, _, a1, b1, c1⟩
    obtain ⟨ds, s1, z, e1, e2, e3⟩ := e0
    intro a ha
    refine q c σ _ s (r.ex (ex_upd ha)) _ _ e1 _ fun vs H2 r2 x2 d2 hl2 => ?_
    have pa0 : (upd H a (.dK [])) a = some (.dK []) := upd_same
    have no1 : ¬ Own W σ a := (r.ex (ex_upd ha)).notOwn hO pa0
    have pa : H2 a = some (.dK []) := (of_hide (x2 _ _ (hide_of no1 pa0))).2
    refine ⟨pa, pairsK ks vs, zip_keys ks vs, ?_, ?_⟩
    · unfold pairsK
      rw [List.length_map, List.length_zip]
      exact Nat.le_trans (Nat.min_le_left _ _) k15
    rw [merge_pairs ks vs [] hn (fun _ _ _ h => absurd h (by simp)), List.nil_append]
    refine qb c σ _ s1 (r2.dk pa) _ _ e2 _ fun v H3 r3 x3 d3 => ?_
    cases d3
    obtain ⟨v', f1, f2⟩ := findK_val d2 e3
    have pb0 : (upd H2 a (.dK (pairsK ks vs))) a = some (.dK (pairsK ks vs)) := upd_same
    have no2 : ¬ Own W σ a := (r2.dk (o := .dK (pairsK ks vs)) pa).notOwn hO pb0
    have pc : H3 a = some (.dK (pairsK ks vs)) := (of_hide (x3 _ _ (hide_of no2 pb0))).2
    refine ⟨a, v', rfl, ?_, k v' H3 r3 ?_ (dp_ex (keep hW x3) (rp_dk pa f2))⟩
    · have := DGet.k (k := (.inr z : Key)) pc
      rw [f1] at this
      exact this
    · intro b o hb
      obtain ⟨n1, hb⟩ := of_hide hb
      have hne : b ≠ a := ne_of_none hb ha
      have b1 := x2 b o (hide_of n1 (by rw [upd_ne hne]; exact hb))
      obtain ⟨_, b1⟩ := of_hide b1
      exact x3 b o (hide_of n1 (by rw [upd_ne hne]; exact b1))
end
end Z


namespace Z
open PySem PySem.Spec PyProof.Rows L2
/-! ## operators by name -/
section
variable {Γ : G}
theorem u64 {k : Nat} {A : Around} (hr : Room k A) : A.units + 64 < cLine := by have := hr.un; omega
theorem ho_add : ∀ X, InG Γ X → OpR X (binaryOp .Add) rAddA := fun _ _ => op_addA
theorem ho_sub : ∀ X, InG Γ X → OpR X (binaryOp .Sub) (rI0 fun i j => .int (i - j)) := fun _ _ => op_sub
theorem ho_mul : ∀ X, InG Γ X → OpR X (binaryOp .Mult) (rI CMul fun i j => .int (i * j)) := fun _ _ => op_mul
theorem ho_mod : ∀ X, InG Γ X → OpR X (binaryOp .Mod) (rI (fun _ j => 0 < j) fun i j => .int (i % j)) := fun _ _ => op_mod
theorem ho_div : ∀ X, InG Γ X → OpR X (binaryOp .FloorDiv) (rI CDiv fun i j => .int (i / j)) := fun _ _ => op_fdiv
theorem ho_pow : ∀ X, InG Γ X → OpR X (binaryOp .Pow) (rI CPow fun i j => .int (i ^ j.toNat)) := fun _ _ => op_pow
theorem ho_lt : ∀ X, InG Γ X → OpR X (compareOp .Lt) (rI0 fun i j => .bl (decide (i < j))) := fun _ _ => op_lt
theorem ho_le : ∀ X, InG Γ X → OpR X (compareOp .LtE) (rI0 fun i j => .bl (decide (i ≤ j))) := fun _ _ => op_le
theorem ho_gt : ∀ X, InG Γ X → OpR X (compareOp .Gt) (rI0 fun i j => .bl (decide (i > j))) := fun _ _ => op_gt
theorem ho_ge : ∀ X, InG Γ X → OpR X (compareOp .GtE) (rI0 fun i j => .bl (decide (i ≥ j))) := fun _ _ => op_ge
theorem ho_eq (hu : Γ.A.units + 64 < cLine) : ∀ X, InG Γ X → OpR X (compareOp .Eq) (rEqD Γ.K) := fun X h => by rw [← h.K]; exact op_eqD (by rw [h.A]; exact hu)
theorem ho_ne (hu : Γ.A.units + 64 < cLine) : ∀ X, InG Γ X → OpR X (compareOp .NotEq) (rNeD Γ.K) := fun X h => by rw [← h.K]; exact op_neD (by rw [h.A]; exact hu)
theorem ho_in : ∀ X, InG Γ X → OpR X (compareOp .In) (rIn Γ.K false) := fun X h => by rw [← h.K]; exact op_in_seq
theorem ho_nin : ∀ X, InG Γ X → OpR X (compareOp .NotIn) (rIn Γ.K true) := fun X h => by rw [← h.K]; exact op_notIn_seq
end
def dAddI : D → D → Option D
  | .int a, .int b => some (.int (a + b))
  | _, _ => none
theorem rs_addI {K : PySem.W.Frag} : RS K (rI0 fun i j => .int (i + j)) dAddI := fun H x y dx dy dz hx hy e Q q => by
  cases dx <;> first | (cases e; done) | skip
  cases dy <;> first | (cases e; done) | skip
  cases e; cases hx; cases hy
  exact ⟨_, _, rfl, rfl, q _ fun _ => .int _⟩
section
variable {Γ : G}
theorem ho_iadd : ∀ X, InG Γ X → OpR X (inplaceOp .Add) (rI0 fun i j => .int (i + j)) := fun _ _ => iop_add
theorem ho_isub : ∀ X, InG Γ X → OpR X (inplaceOp .Sub) (rI0 fun i j => .int (i - j)) := fun _ _ => iop_sub
theorem ho_imul : ∀ X, InG Γ X → OpR X (inplaceOp .Mult) (rI CMul fun i j => .int (i * j)) := fun _ _ => iop_mul
theorem ho_imod : ∀ X, InG Γ X → OpR X (inplaceOp .Mod) (rI (fun _ j => 0 < j) fun i j => .int (i % j)) := fun _ _ => iop_mod
theorem ho_idiv : ∀ X, InG Γ X → OpR X (inplaceOp .FloorDiv) (rI CDiv fun i j => .int (i / j)) := fun _ _ => iop_fdiv
end
def dNeg : D → Option D
  | .int i => some (.int (-i))
  | _ => none
section
variable {Γ : G} {O L L0 W : List Nat} {a : Expr} {ma : ME} {pos : Pos}
theorem tr_neg (ha : TrE Γ O L0 W a ma) : TrE Γ O L W (.UnaryOp .USub a pos) (xUn dNeg ma) := by
  obtain ⟨t, p, q⟩ := ha
  refine ⟨tUn (rU fun i => .int (-i)) t, fun X h => pe_un un_neg (p X h), fun c σ H s r d s' e Q k => ?_⟩
  obtain ⟨x, e1, e2⟩ := xUn_of e
  refine q c σ H s r _ _ e1 _ fun v H1 r1 x1 d1 => ?_
  cases x <;> first | (cases e2; done) | skip
  cases e2
  cases d1
  exact ⟨_, rfl, k _ H1 r1 x1 (.int _)⟩
end
end Z


namespace Z
open PySem PySem.Spec PyProof.Rows L2
/-! ## the head's facts as the layer takes them -/
def dvD : He.Dv → Option D
  | .non => some .none
  | .bl b => some (.bool b)
  | .int i => some (.int i)
  | .str x => some (.str x)
  | _ => none
def dvK : List (Str × He.Dv) → Str → Option D
  | [], _ => none
  | q :: r, z => if q.1 = z then dvD q.2 else dvK r z
theorem dvD_rp {K : PySem.W.Frag} {v : He.Dv} {d : D} (h : dvD v = some d) (M : Hp) : Rp K M (v.v K) d := by
  cases v <;> cases h
  · exact .non
  · exact .bl _
  · exact .int _
  · exact .str _
theorem dvK_mem : ∀ {kvs : List (Str × He.Dv)} {z : Str} {d : D}, dvK kvs z = some d → ∃ q ∈ kvs, q.1 = z ∧ dvD q.2 = some d
  | [], _, _, h => by cases h
  | q :: r, z, d, h => by
    unfold dvK at h
    split at h
    · exact ⟨q, List.mem_cons_self, ‹_›, h⟩
    · obtain ⟨q', h1, h2⟩ := dvK_mem h
      exact ⟨q', List.mem_cons_of_mem _ h1, h2⟩
def dvL : List He.Dv → Option (List D)
  | [] => some []
  | v :: r => (dvD v).bind fun d => (dvL r).map fun ds => d :: ds
theorem dvL_rp {K : PySem.W.Frag} (M : Hp) : ∀ {vs : List He.Dv} {ds : List D}, dvL vs = some ds → RpAll K M (vs.map (He.Dv.v K)) ds
  | [], _, h => by cases h; exact .nil
  | v :: r, ds, h => by
    unfold dvL at h
    obtain ⟨d, e1, e2⟩ := bind_of h
    obtain ⟨es, e3, e4⟩ := mapNx_of e2
    cases e4
    exact .cons (dvD_rp e1 M) (dvL_rp M e3)
section
variable {K : PySem.W.Frag} {w : World} {h : Heap} {mg : Str → Option Value} {x : Str}
theorem kdm_of {a : Addr} {kvs : List (Str × He.Dv)} (D : ∃ es n, KDict K w a es n) (hv : He.valsB K a kvs = true) : KDm K w a (dvK kvs) := fun z d e => by
  obtain ⟨es, n, D⟩ := D
  obtain ⟨q, h1, h2, h3⟩ := dvK_mem e
  obtain ⟨u, e1, e2⟩ := He.valsB_ok hv h1
  rw [h2] at e1
  exact ⟨_, ⟨es, n, u, D.at_, D.lit, e1, e2⟩, dvD_rp h3⟩
theorem gc_int (X : K.In h) (G : h.Ns mainGlobals mg) {i : Int} (c : (He.Fa.int x i).ok K = true) : ∃ u v, mg x = some u ∧ RelV v u ∧ ∀ M, Rp K M v (.int i) := by
  obtain ⟨t, e⟩ := He.int_ok X G c
  exact ⟨_, .int i, e, ⟨t, rfl⟩, fun M => .int i⟩
theorem gc_str (X : K.In h) (G : h.Ns mainGlobals mg) {z : Str} (c : (He.Fa.str x z).ok K = true) : ∃ u v, mg x = some u ∧ RelV v u ∧ ∀ M, Rp K M v (.str z) := by
  obtain ⟨t, e⟩ := He.str_ok X G c
  exact ⟨_, .str z, e, ⟨t, rfl⟩, fun M => .str z⟩
theorem gc_lst (X : K.In h) (G : h.Ns mainGlobals mg) (c : (He.Fa.glo x).ok K = true) {vs : List He.Dv} {ds : List D} (hl : He.lstB K x vs = true) (e : dvL vs = some ds) : ∃ u v, mg x = some u ∧ RelV v u ∧ ∀ M, Rp K M v (.list ds) :=
  ⟨_, .ref (He.ga K x), He.glo_ok X G c, rfl, fun M => .lst (He.lstB_ok hl M) (dvL_rp M e)⟩
theorem gc_tup (X : K.In h) (G : h.Ns mainGlobals mg) (c : (He.Fa.glo x).ok K = true) {vs : List He.Dv} {ds : List D} (hl : He.tupB K x vs = true) (e : dvL vs = some ds) : ∃ u v, mg x = some u ∧ RelV v u ∧ ∀ M, Rp K M v (.tuple ds) :=
  ⟨_, .ref (He.ga K x), He.glo_ok X G c, rfl, fun M => .tup (He.tupB_ok hl M) (dvL_rp M e)⟩
end
theorem fnAtD {P : Program} {w : World} {K : PySem.W.Frag} {mg : Str → Option Value} {base : Heap} {k : Nat} {x : Str} {st : Stmt} {f : Addr} {fd : FuncData} {ps : List Str} {sp : Sp} (F : FnP K x x st f fd) (G : FnOk P w K mg base CX0 k f fd ps sp) (hm : mg x = some (.ref f))
    (h : ∀ (kV doc pm : Value) (an : Option Addr) (cdv ct : Value) (us : List Value), us.length = ps.length → bindArgs (PySem.W.fnOf x x (defArgs st) (defBody st) (defScope st) .none kV doc pm an cdv ct) ⟨us, []⟩ = pure (ps.zip us)) : FnAt P w K mg base k x ps sp :=
  ⟨f, fd, G, hm, F.kp, F.bindsN h⟩
def defD (x : Str) (st : Stmt) : He.DefD := ⟨(x, none), x, x, defArgs st, defBody st, defScope st, [], []⟩
def anyMem (x : Str) (xs : List Str) : Bool := xs.any (· == x)
end Z


namespace Z
open PySem PySem.Spec PyProof.Rows L2
/-! ## mirrors, run: one row a combinator; what follows is held back in a word of its own until the first part is told -/
def bE {α β : Type} (o : Option (α × MS)) (k : α → MS → Option β) : Option β := o.bind fun p => k p.1 p.2
@[simp] theorem bE_some {α β : Type} (x : α) (s : MS) (k : α → MS → Option β) : bE (some (x, s)) k = k x s := rfl
@[simp] theorem bE_none {α β : Type} (k : α → MS → Option β) : bE (none : Option (α × MS)) k = none := rfl
def ret1 {α : Type} (o : Option α) (s : MS) : Option (α × MS) := o.map fun z => (z, s)
@[simp] theorem ret1_some {α : Type} (x : α) (s : MS) : ret1 (some x) s = some (x, s) := rfl
@[simp] theorem ret1_none {α : Type} (s : MS) : ret1 (none : Option α) s = none := rfl
section
variable (f : D → D → Option D) (g : D → Option D) (h : List D → Option D) (hl : List D → Option (List D)) (a b : ME) (as bs : MF) (t u : MT) (m n : MM) (i j : Nat) (s : MS) (x y : D) (xs ys : List D) (p : Bool)
@[simp] theorem xVar_ap : xVar i s = ret1 (s.getD i none) s := rfl
@[simp] theorem xC_ap : xC x s = some (x, s) := rfl
def kOp1 : D → MS → Option (D × MS) := fun x s => bE (b s) fun y s => ret1 (f x y) s
def kOp2 : D → MS → Option (D × MS) := fun y s => ret1 (f x y) s
@[simp] theorem xOp_ap : xOp f a b s = bE (a s) (kOp1 f b) := rfl
@[simp] theorem kOp1_ap : kOp1 f b x s = bE (b s) (kOp2 f x) := rfl
@[simp] theorem kOp2_ap : kOp2 f x y s = ret1 (f x y) s := rfl
def kUn : D → MS → Option (D × MS) := fun x s => ret1 (g x) s
@[simp] theorem xUn_ap : xUn g a s = bE (a s) (kUn g) := rfl
@[simp] theorem kUn_ap : kUn g x s = ret1 (g x) s := rfl
@[simp] theorem xaNil_ap : xaNil s = some ([], s) := rfl
def kC1 : D → MS → Option (List D × MS) := fun x s => (bs s).map fun q => (x :: q.1, q.2)
def kC2 : List D → MS → Option (List D × MS) := fun ys s => some (x :: ys, s)
@[simp] theorem xaCons_ap : xaCons a bs s = bE (a s) (kC1 bs) := rfl
@[simp] theorem kC1_ap : kC1 bs x s = bE (bs s) (kC2 x) := by
  show (bs s).map _ = _
  cases bs s <;> rfl
@[simp] theorem kC2_ap : kC2 x ys s = some (x :: ys, s) := rfl
def kFn : List D → MS → Option (D × MS) := fun xs s => ret1 (h xs) s
@[simp] theorem xFn_ap : xFn h as s = bE (as s) (kFn h) := rfl
@[simp] theorem kFn_ap : kFn h xs s = ret1 (h xs) s := rfl
def kfFn : List D → MS → Option (List D × MS) := fun xs s => ret1 (hl xs) s
@[simp] theorem xfFn_ap : xfFn hl as s = bE (as s) (kfFn hl) := rfl
@[simp] theorem xfMap_ap : xfMap hl as s = bE (as s) (kfFn hl) := rfl
@[simp] theorem kfFn_ap : kfFn hl xs s = ret1 (hl xs) s := rfl
def kLst : List D → MS → Option (D × MS) := fun xs s => some (.list xs, s)
@[simp] theorem xLst_ap : xLst as s = bE (as s) kLst := by
  show (as s).map _ = _
  cases as s <;> rfl
@[simp] theorem kLst_ap : kLst xs s = some (.list xs, s) := rfl
def kTup : List D → MS → Option (D × MS) := fun xs s => if xs.length ≤ 1000 then some (.tuple xs, s) else none
@[simp] theorem xTup_ap : xTup as s = bE (as s) kTup := rfl
@[simp] theorem kTup_ap : kTup xs s = if xs.length ≤ 1000 then some (.tuple xs, s) else none := rfl
def kT : D → MS → Option (Bool × MS) := fun x s => match x with
  | .bool b => some (b, s)
  | _ => none
@[simp] theorem xT_ap : xT a s = bE (a s) kT := rfl
@[simp] theorem kT_ap : kT (.bool p) s = some (p, s) := rfl
def kB : Bool → MS → Option (D × MS) := fun p s => some (.bool p, s)
@[simp] theorem xB_ap : xB t s = bE (t s) kB := by
  show (t s).map _ = _
  cases t s <;> rfl
@[simp] theorem kB_ap : kB p s = some (.bool p, s) := rfl
def kAnd : Bool → MS → Option (Bool × MS) := fun p s => if p = true then u s else some (false, s)
def kOr : Bool → MS → Option (Bool × MS) := fun p s => if p = true then some (true, s) else u s
@[simp] theorem xAnd_ap : xAnd t u s = bE (t s) (kAnd u) := rfl
@[simp] theorem xOr_ap : xOr t u s = bE (t s) (kOr u) := rfl
@[simp] theorem kAnd_t : kAnd u true s = u s := rfl
@[simp] theorem kAnd_f : kAnd u false s = some (false, s) := rfl
@[simp] theorem kOr_t : kOr u true s = some (true, s) := rfl
@[simp] theorem kOr_f : kOr u false s = u s := rfl
def kNot : Bool → MS → Option (Bool × MS) := fun p s => some (!p, s)
@[simp] theorem xNot_ap : xNot t s = bE (t s) kNot := by
  show (t s).map _ = _
  cases t s <;> rfl
@[simp] theorem kNot_ap : kNot p s = some (!p, s) := rfl
def kIf : Bool → MS → Option (D × MS) := fun p s => if p = true then a s else b s
@[simp] theorem xIf_ap : xIf t a b s = bE (t s) (kIf a b) := rfl
@[simp] theorem kIf_t : kIf a b true s = a s := rfl
@[simp] theorem kIf_f : kIf a b false s = b s := rfl
def kSeq : D → MS → Option (List D × MS) := fun x s => ret1 (seqOf x) s
@[simp] theorem xSeq_ap : xSeq a s = bE (a s) kSeq := rfl
@[simp] theorem kSeq_ap : kSeq x s = ret1 (seqOf x) s := rfl
@[simp] theorem seqOf_l : seqOf (.list xs) = some xs := rfl
@[simp] theorem seqOf_t : seqOf (.tuple xs) = some xs := rfl
def ownO : Option D → Option (List D)
  | some (.list ds) => some ds
  | _ => none
@[simp] theorem ownO_l : ownO (some (.list xs)) = some xs := rfl
@[simp] theorem xOwn_ap : xOwn i s = ret1 (ownO (s.getD i none)) s := by
  unfold xOwn ret1 ownO
  cases s.getD i none with
  | none => rfl
  | some d => cases d <;> rfl
def kIxOwn (i : Nat) : D → MS → Option (D × MS) := fun k s => match k, s.getD i none with
  | .int k, some (.list ds) => (atI ds k).map fun z => (z, s)
  | _, _ => none
@[simp] theorem xIxOwn_ap : xIxOwn i b s = bE (b s) (kIxOwn i) := rfl
def ixL (k : Int) : Option D → Option D
  | some (.list ds) => atI ds k
  | _ => none
@[simp] theorem ixL_l (k : Int) : ixL k (some (.list xs)) = atI xs k := rfl
@[simp] theorem kIxOwn_ap (k : Int) : kIxOwn i (.int k) s = ret1 (ixL k (s.getD i none)) s := by
  unfold kIxOwn ret1 ixL
  cases s.getD i none with
  | none => rfl
  | some d => cases d <;> rfl
def kList : D → MS → Option (List D × MS) := fun x s => match x with
  | .list ds => some (ds, s)
  | _ => none
@[simp] theorem xList_ap : xList a s = bE (a s) kList := rfl
@[simp] theorem kList_ap : kList (.list xs) s = some (xs, s) := rfl
def kDisp : List D → MS → Option (List D × MS) := fun xs s => if xs.length ≤ 1000 then some (xs, s) else none
@[simp] theorem xDisp_ap : xDisp as s = bE (as s) kDisp := rfl
@[simp] theorem kDisp_ap : kDisp xs s = if xs.length ≤ 1000 then some (xs, s) else none := rfl
def kCat1 : List D → MS → Option (List D × MS) := fun xs s => (bs s).bind fun q => if xs.length + q.1.length ≤ 1000000 then some (xs ++ q.1, q.2) else none
def kCat2 : List D → MS → Option (List D × MS) := fun ys s => if xs.length + ys.length ≤ 1000000 then some (xs ++ ys, s) else none
@[simp] theorem xCat_ap : xCat as bs s = bE (as s) (kCat1 bs) := rfl
@[simp] theorem kCat1_ap : kCat1 bs xs s = bE (bs s) (kCat2 xs) := rfl
@[simp] theorem kCat2_ap : kCat2 xs ys s = if xs.length + ys.length ≤ 1000000 then some (xs ++ ys, s) else none := rfl
def kRg1 : D → MS → Option (List D × MS) := fun x s => match x with
  | .int n => if n ≤ 1000000 ∧ -1000000 ≤ n then some (dRg 0 n, s) else none
  | _ => none
@[simp] theorem xRg1_ap : xRg1 a s = bE (a s) kRg1 := rfl
@[simp] theorem kRg1_ap (n : Int) : kRg1 (.int n) s = if n ≤ 1000000 ∧ -1000000 ≤ n then some (dRg 0 n, s) else none := rfl
def kRg21 : D → MS → Option (List D × MS) := fun x s => (b s).bind fun q => match x, q.1 with
  | .int x, .int n => if (n ≤ 1000000 ∧ -1000000 ≤ n) ∧ (x ≤ 1000000 ∧ -1000000 ≤ x) then some (dRg x n, q.2) else none
  | _, _ => none
def kRg22 : D → MS → Option (List D × MS) := fun y s => match x, y with
  | .int x, .int n => if (n ≤ 1000000 ∧ -1000000 ≤ n) ∧ (x ≤ 1000000 ∧ -1000000 ≤ x) then some (dRg x n, s) else none
  | _, _ => none
@[simp] theorem xRg2_ap : xRg2 a b s = bE (a s) (kRg21 b) := rfl
@[simp] theorem kRg21_ap : kRg21 b x s = bE (b s) (kRg22 x) := rfl
@[simp] theorem kRg22_ap (x n : Int) : kRg22 (.int x) (.int n) s = if (n ≤ 1000000 ∧ -1000000 ≤ n) ∧ (x ≤ 1000000 ∧ -1000000 ≤ x) then some (dRg x n, s) else none := rfl
@[simp] theorem xoNone_ap : xoNone s = some (none, s) := rfl
def kSm : D → MS → Option (Option Int × MS) := fun x s => match x with
  | .int n => some (some n, s)
  | _ => none
@[simp] theorem xoSome_ap : xoSome a s = bE (a s) kSm := rfl
@[simp] theorem kSm_ap (n : Int) : kSm (.int n) s = some (some n, s) := rfl
def kSl1 (f : List D → Option Int → Option Int → List D) (l h : MS → Option (Option Int × MS)) : List D → MS → Option (List D × MS) := fun xs s => (l s).bind fun q => (h q.2).map fun w => (f xs q.1 w.1, w.2)
def kSl2 (f : List D → Option Int → Option Int → List D) (h : MS → Option (Option Int × MS)) (xs : List D) : Option Int → MS → Option (List D × MS) := fun o s => (h s).map fun w => (f xs o w.1, w.2)
def kSl3 (f : List D → Option Int → Option Int → List D) (xs : List D) (o : Option Int) : Option Int → MS → Option (List D × MS) := fun o2 s => some (f xs o o2, s)
@[simp] theorem xSl_ap (f : List D → Option Int → Option Int → List D) (l h : MS → Option (Option Int × MS)) : xSl f as l h s = bE (as s) (kSl1 f l h) := rfl
@[simp] theorem kSl1_ap (f : List D → Option Int → Option Int → List D) (l h : MS → Option (Option Int × MS)) : kSl1 f l h xs s = bE (l s) (kSl2 f h xs) := rfl
@[simp] theorem kSl2_ap (f : List D → Option Int → Option Int → List D) (h : MS → Option (Option Int × MS)) (o : Option Int) : kSl2 f h xs o s = bE (h s) (kSl3 f xs o) := by
  show (h s).map _ = _
  cases h s <;> rfl
@[simp] theorem kSl3_ap (f : List D → Option Int → Option Int → List D) (o o2 : Option Int) : kSl3 f xs o o2 s = some (f xs o o2, s) := rfl
def kSs1 (l h : MS → Option (Option Int × MS)) : D → MS → Option (D × MS) := fun x s => (l s).bind fun q => (h q.2).bind fun w => match x with
  | .str z => if z.length ≤ 1000000 then some (.str (cutS z q.1 w.1), w.2) else none
  | _ => none
def kSs2 (h : MS → Option (Option Int × MS)) (x : D) : Option Int → MS → Option (D × MS) := fun o s => (h s).bind fun w => match x with
  | .str z => if z.length ≤ 1000000 then some (.str (cutS z o w.1), w.2) else none
  | _ => none
def kSs3 (x : D) (o : Option Int) : Option Int → MS → Option (D × MS) := fun o2 s => match x with
  | .str z => if z.length ≤ 1000000 then some (.str (cutS z o o2), s) else none
  | _ => none
@[simp] theorem xSlS_ap (l h : MS → Option (Option Int × MS)) : xSlS a l h s = bE (a s) (kSs1 l h) := rfl
@[simp] theorem kSs1_ap (l h : MS → Option (Option Int × MS)) : kSs1 l h x s = bE (l s) (kSs2 h x) := rfl
@[simp] theorem kSs2_ap (h : MS → Option (Option Int × MS)) (o : Option Int) : kSs2 h x o s = bE (h s) (kSs3 x o) := rfl
@[simp] theorem kSs3_ap (z : Str) (o o2 : Option Int) : kSs3 (.str z) o o2 s = if z.length ≤ 1000000 then some (.str (cutS z o o2), s) else none := rfl
def kMt1 (f : D → List D → Option D) : D → MS → Option (D × MS) := fun x s => (as s).bind fun q => (f x q.1).map fun z => (z, q.2)
def kMt2 (f : D → List D → Option D) (x : D) : List D → MS → Option (D × MS) := fun xs s => ret1 (f x xs) s
@[simp] theorem xMt_ap (f : D → List D → Option D) : xMt f a as s = bE (a s) (kMt1 as f) := rfl
@[simp] theorem kMt1_ap (f : D → List D → Option D) : kMt1 as f x s = bE (as s) (kMt2 f x) := rfl
@[simp] theorem kMt2_ap (f : D → List D → Option D) : kMt2 f x xs s = ret1 (f x xs) s := rfl
def kfMt1 (f : D → List D → Option (List D)) : D → MS → Option (List D × MS) := fun x s => (as s).bind fun q => (f x q.1).map fun z => (z, q.2)
def kfMt2 (f : D → List D → Option (List D)) (x : D) : List D → MS → Option (List D × MS) := fun xs s => ret1 (f x xs) s
@[simp] theorem xfMt_ap (f : D → List D → Option (List D)) : xfMt f a as s = bE (a s) (kfMt1 as f) := rfl
@[simp] theorem kfMt1_ap (f : D → List D → Option (List D)) : kfMt1 as f x s = bE (as s) (kfMt2 f x) := rfl
@[simp] theorem kfMt2_ap (f : D → List D → Option (List D)) : kfMt2 f x xs s = ret1 (f x xs) s := rfl
def kTru : D → MS → Option (Bool × MS) := fun x s => ret1 (dTru x) s
@[simp] theorem xTru_ap : xTru a s = bE (a s) kTru := rfl
@[simp] theorem kTru_ap : kTru x s = ret1 (dTru x) s := rfl
def kAndV : Bool → MS → Option (D × MS) := fun p s => if p = true then b s else some (.bool false, s)
def kOrV : Bool → MS → Option (D × MS) := fun p s => if p = true then some (.bool true, s) else b s
@[simp] theorem xAndV_ap : xAndV t b s = bE (t s) (kAndV b) := rfl
@[simp] theorem xOrV_ap : xOrV t b s = bE (t s) (kOrV b) := rfl
@[simp] theorem kAndV_t : kAndV b true s = b s := rfl
@[simp] theorem kAndV_f : kAndV b false s = some (.bool false, s) := rfl
@[simp] theorem kOrV_t : kOrV b true s = some (.bool true, s) := rfl
@[simp] theorem kOrV_f : kOrV b false s = b s := rfl
def kCT (i : Nat) (f : List D → List D → Option (D × List D)) : List D → MS → Option (D × MS) := fun xs s => match s.getD i none with
  | some (.list fs) => (f fs xs).map fun q => (q.1, s.set i (some (.list q.2)))
  | _ => none
@[simp] theorem xCallT_ap (f : List D → List D → Option (D × List D)) : xCallT i f as s = bE (as s) (kCT i f) := rfl
def ctO (f : List D → List D → Option (D × List D)) (xs : List D) : Option D → Option (D × List D)
  | some (.list fs) => f fs xs
  | _ => none
@[simp] theorem ctO_l (f : List D → List D → Option (D × List D)) : ctO f xs (some (.list ys)) = f ys xs := rfl
def retT (i : Nat) (o : Option (D × List D)) (s : MS) : Option (D × MS) := o.map fun q => (q.1, s.set i (some (.list q.2)))
@[simp] theorem retT_some : retT i (some (x, xs)) s = some (x, s.set i (some (.list xs))) := rfl
@[simp] theorem kCT_ap (f : List D → List D → Option (D × List D)) : kCT i f xs s = retT i (ctO f xs (s.getD i none)) s := by
  unfold kCT ctO retT
  cases s.getD i none with
  | none => rfl
  | some d => cases d <;> rfl
def kEnum : List D → MS → Option (List D × MS) := fun xs s => some (xs.mapIdx fun i d => .tuple [.int (i : Nat), d], s)
@[simp] theorem xEnum_ap : xEnum as s = bE (as s) kEnum := by
  show (as s).map _ = _
  cases as s <;> rfl
@[simp] theorem kEnum_ap : kEnum xs s = some (xs.mapIdx fun i d => .tuple [.int (i : Nat), d], s) := rfl
def kZip1 : List D → MS → Option (List D × MS) := fun xs s => (bs s).map fun q => ((xs.zip q.1).map fun w => .tuple [w.1, w.2], q.2)
def kZip2 : List D → MS → Option (List D × MS) := fun ys s => some ((xs.zip ys).map fun w => .tuple [w.1, w.2], s)
@[simp] theorem xZip_ap : xZip as bs s = bE (as s) (kZip1 bs) := rfl
@[simp] theorem kZip1_ap : kZip1 bs xs s = bE (bs s) (kZip2 xs) := by
  show (bs s).map _ = _
  cases bs s <;> rfl
@[simp] theorem kZip2_ap : kZip2 xs ys s = some ((xs.zip ys).map fun w => .tuple [w.1, w.2], s) := rfl
def kSigns : D → MS → Option (List D × MS) := fun x s => match x with
  | .str z => some (z.cps.toList.map fun k => .str ⟨#[k]⟩, s)
  | _ => none
@[simp] theorem xSigns_ap : xSigns a s = bE (a s) kSigns := rfl
@[simp] theorem kSigns_ap (z : Str) : kSigns (.str z) s = some (z.cps.toList.map fun k => .str ⟨#[k]⟩, s) := rfl
@[simp] theorem bName_ap : bName i x s = some (s.set i (some x)) := rfl
@[simp] theorem bNil_ap : bNil [] s = some s := rfl
def bO (o : Option MS) (k : MS → Option MS) : Option MS := o.bind k
@[simp] theorem bO_some (k : MS → Option MS) : bO (some s) k = k s := rfl
@[simp] theorem bCons_ap (b : D → MS → Option MS) (r : List D → MS → Option MS) : bCons b r (x :: xs) s = bO (b x s) (r xs) := rfl
@[simp] theorem bTup_ap (r : List D → MS → Option MS) : bTup i r (.tuple xs) s = if xs.length = i then r xs s else none := rfl
@[simp] theorem xYes_ap : xYes s = some (true, s) := rfl
/-! statements -/
def thenM (o : Option Out) (b : MM) : Option Out := o.bind fun o => match o with
  | .nx s' => b s'
  | o => some o
@[simp] theorem mSeq_ap : mSeq m n s = thenM (m s) n := rfl
@[simp] theorem then_nx : thenM (some (.nx s)) n = n s := rfl
@[simp] theorem then_rt : thenM (some (.rt x s)) n = some (.rt x s) := rfl
@[simp] theorem then_bk : thenM (some (.bk s)) n = some (.bk s) := rfl
@[simp] theorem then_ct : thenM (some (.ct s)) n = some (.ct s) := rfl
@[simp] theorem mSkip_ap : mSkip s = some (.nx s) := rfl
def kSet (i : Nat) : D → MS → Option Out := fun x s => some (.nx (s.set i (some x)))
@[simp] theorem mSet_ap : mSet i a s = bE (a s) (kSet i) := by
  show (a s).map _ = _
  cases a s <;> rfl
@[simp] theorem kSet_ap : kSet i x s = some (.nx (s.set i (some x))) := rfl
def kSetF (i : Nat) : List D → MS → Option Out := fun xs s => if i < s.length then some (.nx (s.set i (some (.list xs)))) else none
@[simp] theorem mSetF_ap : mSetF i as s = bE (as s) (kSetF i) := rfl
@[simp] theorem kSetF_ap : kSetF i xs s = if i < s.length then some (.nx (s.set i (some (.list xs)))) else none := rfl
def kAsg (b : D → MS → Option MS) : D → MS → Option Out := fun x s => (b x s).map .nx
@[simp] theorem mAsg_ap (b : D → MS → Option MS) : mAsg a b s = bE (a s) (kAsg b) := rfl
@[simp] theorem kAsg_ap (b : D → MS → Option MS) : kAsg b x s = (b x s).map .nx := rfl
def kPar (i j : Nat) : List D → MS → Option Out := fun xs s => match xs with
  | [x, y] => some (.nx ((s.set i (some x)).set j (some y)))
  | _ => none
@[simp] theorem mPar_ap : mPar i j as s = bE (as s) (kPar i j) := rfl
@[simp] theorem kPar_ap : kPar i j [x, y] s = some (.nx ((s.set i (some x)).set j (some y))) := rfl
def kIfM : Bool → MS → Option Out := fun p s => if p = true then m s else n s
@[simp] theorem mIf_ap : mIf t m n s = bE (t s) (kIfM m n) := rfl
@[simp] theorem kIfM_t : kIfM m n true s = m s := rfl
@[simp] theorem kIfM_f : kIfM m n false s = n s := rfl
def kRet : D → MS → Option Out := fun x s => some (.rt x s)
@[simp] theorem mRet_ap : mRet a s = bE (a s) kRet := by
  show (a s).map _ = _
  cases a s <;> rfl
@[simp] theorem kRet_ap : kRet x s = some (.rt x s) := rfl
def kRetF : List D → MS → Option Out := fun xs s => some (.rt (.list xs) s)
@[simp] theorem mRetF_ap : mRetF as s = bE (as s) kRetF := by
  show (as s).map _ = _
  cases as s <;> rfl
@[simp] theorem kRetF_ap : kRetF xs s = some (.rt (.list xs) s) := rfl
@[simp] theorem mRetN_ap : mRetN s = some (.rt .none s) := rfl
def kDrop : D → MS → Option Out := fun _ s => some (.nx s)
@[simp] theorem mDrop_ap : mDrop a s = bE (a s) kDrop := by
  show (a s).map _ = _
  cases a s <;> rfl
@[simp] theorem kDrop_ap : kDrop x s = some (.nx s) := rfl
@[simp] theorem mBrk_ap : mBrk s = some (.bk s) := rfl
@[simp] theorem mCt_ap : mCt s = some (.ct s) := rfl
def fgt (vs : List Nat) (o : Option Out) : Option Out := o.map fun o => match o with
  | .nx s' => .nx (wipeM s' vs)
  | o => o
@[simp] theorem mForget_ap (vs : List Nat) : mForget vs m s = fgt vs (m s) := rfl
@[simp] theorem fgt_nx (vs : List Nat) : fgt vs (some (.nx s)) = some (.nx (wipeM s vs)) := rfl
@[simp] theorem fgt_rt (vs : List Nat) : fgt vs (some (.rt x s)) = some (.rt x s) := rfl
@[simp] theorem fgt_bk (vs : List Nat) : fgt vs (some (.bk s)) = some (.bk s) := rfl
@[simp] theorem fgt_ct (vs : List Nat) : fgt vs (some (.ct s)) = some (.ct s) := rfl
@[simp] theorem wipeM_nil : wipeM s [] = s := rfl
@[simp] theorem wipeM_cons (v : Nat) (vs : List Nat) : wipeM s (v :: vs) = (wipeM s vs).set v none := rfl
@[simp] theorem unwipe_nil (s0 : MS) : unwipe s0 s [] = s := rfl
@[simp] theorem unwipe_cons (s0 : MS) (v : Nat) (vs : List Nat) : unwipe s0 s (v :: vs) = (unwipe s0 s vs).set v (s0.getD v none) := rfl
def kApp (i : Nat) : D → MS → Option Out := fun x s => match s.getD i none with
  | some (.list ds) => if ds.length ≤ 1000000 then some (.nx (s.set i (some (.list (ds ++ [x]))))) else none
  | _ => none
def appO (i : Nat) (x : D) (s : MS) : Option D → Option Out
  | some (.list ds) => if ds.length ≤ 1000000 then some (.nx (s.set i (some (.list (ds ++ [x]))))) else none
  | _ => none
@[simp] theorem mApp_ap : mApp i a s = bE (a s) (kApp i) := rfl
@[simp] theorem kApp_ap : kApp i x s = appO i x s (s.getD i none) := by
  unfold kApp appO
  cases s.getD i none with
  | none => rfl
  | some d => cases d <;> rfl
@[simp] theorem appO_l : appO i x s (some (.list xs)) = if xs.length ≤ 1000000 then some (.nx (s.set i (some (.list (xs ++ [x]))))) else none := rfl
def kExt (i : Nat) : List D → MS → Option Out := fun ys s => match s.getD i none with
  | some (.list ds) => if ds.length + ys.length ≤ 1000000 then some (.nx (s.set i (some (.list (ds ++ ys))))) else none
  | _ => none
def extO (i : Nat) (ys : List D) (s : MS) : Option D → Option Out
  | some (.list ds) => if ds.length + ys.length ≤ 1000000 then some (.nx (s.set i (some (.list (ds ++ ys))))) else none
  | _ => none
@[simp] theorem mExt_ap : mExt i as s = bE (as s) (kExt i) := rfl
@[simp] theorem kExt_ap : kExt i ys s = extO i ys s (s.getD i none) := by
  unfold kExt extO
  cases s.getD i none with
  | none => rfl
  | some d => cases d <;> rfl
@[simp] theorem extO_l : extO i ys s (some (.list xs)) = if xs.length + ys.length ≤ 1000000 then some (.nx (s.set i (some (.list (xs ++ ys))))) else none := rfl
def kSI1 (i : Nat) (k : ME) : D → MS → Option Out := fun x s => (k s).bind fun q => match q.1, q.2.getD i none with
  | .int n, some (.list ds) => (ixN ds.length n).map fun j => .nx (q.2.set i (some (.list (ds.set j x))))
  | _, _ => none
def siO (i : Nat) (x : D) (n : Int) (s : MS) : Option D → Option Out
  | some (.list ds) => (ixN ds.length n).map fun j => .nx (s.set i (some (.list (ds.set j x))))
  | _ => none
def kSI2 (i : Nat) (x : D) : D → MS → Option Out := fun y s => match y with
  | .int n => siO i x n s (s.getD i none)
  | _ => none
@[simp] theorem mSetIx_ap : mSetIx i a b s = bE (a s) (kSI1 i b) := rfl
@[simp] theorem kSI1_ap : kSI1 i b x s = bE (b s) (kSI2 i x) := by
  unfold kSI1 bE kSI2 siO
  cases b s with
  | none => rfl
  | some q =>
    obtain ⟨y, s⟩ := q
    simp only [Option.bind_some]
    cases y <;> cases s.getD i none <;> first | rfl | (rename_i d; cases d <;> rfl)
@[simp] theorem kSI2_ap (n : Int) : kSI2 i x (.int n) s = siO i x n s (s.getD i none) := rfl
@[simp] theorem siO_l (n : Int) : siO i x n s (some (.list xs)) = (ixN xs.length n).map fun j => .nx (s.set i (some (.list (xs.set j x)))) := rfl
def augO (f : D → D → Option D) (i : Nat) (n : Int) (v : ME) (s : MS) : Option D → Option Out
  | some (.list ds) => if 0 ≤ n then match ds[n.toNat]? with
      | some d => (v s).bind fun p => match p.2.getD i none with
        | some (.list es) => if n < es.length then (f d p.1).map fun z => .nx (p.2.set i (some (.list (es.set n.toNat z)))) else none
        | _ => none
      | none => none else none
  | _ => none
def kAI1 (f : D → D → Option D) (i : Nat) (v : ME) : D → MS → Option Out := fun y s => match y with
  | .int n => augO f i n v s (s.getD i none)
  | _ => none
@[simp] theorem mAugIx_ap : mAugIx f i a b s = bE (a s) (kAI1 f i b) := by
  unfold mAugIx bE kAI1 augO
  cases a s with
  | none => rfl
  | some q =>
    obtain ⟨y, s⟩ := q
    simp only [Option.bind_some]
    cases y <;> cases s.getD i none <;> first | rfl | (rename_i d; cases d <;> rfl)
@[simp] theorem kAI1_ap (n : Int) : kAI1 f i b (.int n) s = augO f i n b s (s.getD i none) := rfl
def augE (f : D → D → Option D) (i n : Nat) (v : ME) (s : MS) : Option D → Option Out
  | some d => (v s).bind fun p => match p.2.getD i none with
        | some (.list es) => if n < es.length then (f d p.1).map fun z => .nx (p.2.set i (some (.list (es.set n z)))) else none
        | _ => none
  | none => none
def augF (f : D → D → Option D) (i n : Nat) (d x : D) (s : MS) : Option D → Option Out
  | some (.list es) => if n < es.length then (f d x).map fun z => .nx (s.set i (some (.list (es.set n z)))) else none
  | _ => none
def kAI2 (f : D → D → Option D) (i n : Nat) (d : D) : D → MS → Option Out := fun x s => augF f i n d x s (s.getD i none)
theorem augO_nat (n : Nat) : augO f i ((n : Nat) : Int) b s (some (.list xs)) = augE f i n b s xs[n]? := by
  unfold augO augE
  simp only [Int.toNat_natCast]
  rw [if_pos (by omega)]
  cases xs[n]? with
  | none => rfl
  | some d =>
    cases b s with
    | none => rfl
    | some q =>
      simp only [Option.bind_some]
      cases q.2.getD i none with
      | none => rfl
      | some e =>
        cases e <;> try rfl
        simp only [Int.ofNat_lt]
@[simp] theorem augO_lit (n : Nat) : augO f i (no_index (OfNat.ofNat n : Int)) b s (some (.list xs)) = augE f i n b s xs[n]? := augO_nat f b i s xs n
@[simp] theorem augE_some (n : Nat) : augE f i n b s (some x) = bE (b s) (kAI2 f i n x) := by
  unfold augE bE kAI2 augF
  cases b s with
  | none => rfl
  | some q => simp only [Option.bind_some]
@[simp] theorem kAI2_ap (n : Nat) : kAI2 f i n x y s = augF f i n x y s (s.getD i none) := rfl
@[simp] theorem augF_l (n : Nat) : augF f i n x y s (some (.list xs)) = if n < xs.length then (f x y).map fun z => .nx (s.set i (some (.list (xs.set n z)))) else none := rfl
def kAug (f : D → D → Option D) (i : Nat) (d : D) : D → MS → Option Out := fun x s => (f d x).map fun z => .nx (s.set i (some z))
def augV (f : D → D → Option D) (i : Nat) (v : ME) (s : MS) : Option D → Option Out
  | some d => bE (v s) (kAug f i d)
  | none => none
@[simp] theorem mAug_ap : mAug f i a s = augV f i a s (s.getD i none) := by
  unfold mAug augV
  cases s.getD i none <;> rfl
@[simp] theorem augV_some : augV f i a s (some x) = bE (a s) (kAug f i x) := rfl
@[simp] theorem kAug_ap : kAug f i x y s = (f x y).map fun z => .nx (s.set i (some z)) := rfl
def popO (i : Nat) (n : Int) (s : MS) : Option D → Option (D × MS)
  | some (.list ds) => if (0 ≤ n ∧ n < ds.length) ∧ ds.length ≤ 1000000 then (ds[n.toNat]?).map fun d => (d, s.set i (some (.list (ds.eraseIdx n.toNat)))) else none
  | _ => none
def kPop (i : Nat) : D → MS → Option (D × MS) := fun y s => match y with
  | .int n => popO i n s (s.getD i none)
  | _ => none
@[simp] theorem xPopAt_ap : xPopAt i a s = bE (a s) (kPop i) := by
  unfold xPopAt bE kPop popO
  cases a s with
  | none => rfl
  | some q =>
    obtain ⟨y, s⟩ := q
    simp only [Option.bind_some]
    cases y <;> cases s.getD i none <;> first | rfl | (rename_i d; cases d <;> rfl)
@[simp] theorem kPop_ap (n : Int) : kPop i (.int n) s = popO i n s (s.getD i none) := rfl
@[simp] theorem popO_l (n : Int) : popO i n s (some (.list xs)) = if (0 ≤ n ∧ n < xs.length) ∧ xs.length ≤ 1000000 then (xs[n.toNat]?).map fun d => (d, s.set i (some (.list (xs.eraseIdx n.toNat)))) else none := rfl
def kDG1 (ks : List Str) (e : ME) : List D → MS → Option (D × MS) := fun xs s => (e s).bind fun q => match q.1 with
  | .str z => (findK ks xs z).map fun d => (d, q.2)
  | _ => none
def kDG2 (ks : List Str) (xs : List D) : D → MS → Option (D × MS) := fun y s => match y with
  | .str z => ret1 (findK ks xs z) s
  | _ => none
@[simp] theorem xDGet_ap (ks : List Str) : xDGet ks as b s = bE (as s) (kDG1 ks b) := rfl
@[simp] theorem kDG1_ap (ks : List Str) : kDG1 ks b xs s = bE (b s) (kDG2 ks xs) := rfl
@[simp] theorem kDG2_ap (ks : List Str) (z : Str) : kDG2 ks xs (.str z) s = ret1 (findK ks xs z) s := rfl
/-! loops: their sources first -/
def kFor (b : D → MS → Option MS) (m : MM) : List D → MS → Option Out := fun xs s => forL b m xs s
theorem mFor_ap (b : D → MS → Option MS) : mFor as b m s = bE (as s) (kFor b m) := rfl
theorem kFor_ap (b : D → MS → Option MS) : kFor b m xs s = forL b m xs s := rfl
def kLc (vs : List Nat) (b : D → MS → Option MS) (t : MT) (e : ME) : List D → MS → Option (List D × MS) := fun xs s => if xs.length ≤ 1000000 then (lcL vs b t e xs (wipeM s vs)).map fun q => (q.1, unwipe s q.2 vs) else none
theorem xLc_ap (vs : List Nat) (b : D → MS → Option MS) : xLc as vs b t a s = bE (as s) (kLc vs b t a) := rfl
end
/-! ## data -/
section
variable (a b : Int) (x y : Str) (p q : Bool) (xs ys : List D)
@[simp] theorem dAdd_ii : dAdd (.int a) (.int b) = some (.int (a + b)) := rfl
theorem dAdd_ss : dAdd (.str x) (.str y) = if x.length + y.length ≤ sizeLine then some (.str (x ++ y)) else none := rfl
@[simp] theorem dAddI_ii : dAddI (.int a) (.int b) = some (.int (a + b)) := rfl
@[simp] theorem dSub_ii : dSub (.int a) (.int b) = some (.int (a - b)) := rfl
@[simp] theorem dMul_ii : dMul (.int a) (.int b) = if (-(2 ^ 64) < a ∧ a < 2 ^ 64) ∨ (-(2 ^ 64) < b ∧ b < 2 ^ 64) then some (.int (a * b)) else none := rfl
@[simp] theorem dMod_ii : dMod (.int a) (.int b) = if 0 < b then some (.int (a % b)) else none := rfl
@[simp] theorem dDiv_ii : dDiv (.int a) (.int b) = if 0 < b ∧ b < 1073741824 then some (.int (a / b)) else none := rfl
@[simp] theorem dLt_ii : dLt (.int a) (.int b) = some (.bool (decide (a < b))) := rfl
@[simp] theorem dLe_ii : dLe (.int a) (.int b) = some (.bool (decide (a ≤ b))) := rfl
@[simp] theorem dGt_ii : dGt (.int a) (.int b) = some (.bool (decide (a > b))) := rfl
@[simp] theorem dGe_ii : dGe (.int a) (.int b) = some (.bool (decide (a ≥ b))) := rfl
@[simp] theorem dNeg_i : dNeg (.int a) = some (.int (-a)) := rfl
theorem shaped_i : SeqAt.shaped (.int a) = true := by simp [SeqAt.shaped, PyData.canLay0, PyData.depth]
@[simp] theorem dEq_ii : dEq (.int a) (.int b) = some (.bool (decide (a = b))) := by
  unfold dEq
  rw [if_pos ⟨shaped_i a, shaped_i b⟩]
  simp only [PyData.eqv]
  rfl
@[simp] theorem dNe_ii : dNe (.int a) (.int b) = some (.bool (!decide (a = b))) := by
  unfold dNe
  rw [if_pos ⟨shaped_i a, shaped_i b⟩]
  simp only [PyData.eqv]
  rfl
theorem shaped_s {x : Str} (h : PyData.strOk x = true) : SeqAt.shaped (.str x) = true := by simp [SeqAt.shaped, PyData.canLay0, PyData.depth, h]
theorem dEq_ss {x y : Str} (h : PyData.strOk x = true) (h2 : PyData.strOk y = true) : dEq (.str x) (.str y) = some (.bool (decide (x = y))) := by
  unfold dEq
  rw [if_pos ⟨shaped_s h, shaped_s h2⟩]
  simp only [PyData.eqv]
  rfl
@[simp] theorem dIx_li : dIx (.list xs) (.int a) = atI xs a := rfl
@[simp] theorem dIx_ti : dIx (.tuple xs) (.int a) = atI xs a := rfl
@[simp] theorem dLen_l : dLen [.list xs] = some (.int xs.length) := rfl
@[simp] theorem dLen_t : dLen [.tuple xs] = some (.int xs.length) := rfl
@[simp] theorem dAbs_i : dAbs [.int a] = some (.int (if a < 0 then -a else a)) := rfl
@[simp] theorem dInt_i : dInt [.int a] = some (.int a) := rfl
@[simp] theorem dTru_b : dTru (.bool p) = some p := rfl
@[simp] theorem dTru_l : dTru (.list xs) = some (!xs.isEmpty) := rfl
end
theorem ixN_nat (m n : Nat) : ixN m ((n : Nat) : Int) = if n < m then some n else none := by
  unfold ixN
  rw [if_pos (by omega)]
  by_cases h : n < m
  · rw [if_pos h, if_pos (by omega), Int.toNat_natCast]
  · rw [if_neg h, if_neg (by omega)]
@[simp] theorem ixN_lit (m n : Nat) : ixN m (no_index (OfNat.ofNat n : Int)) = if n < m then some n else none := ixN_nat m n
theorem atI_natq {α : Type} (xs : List α) (n : Nat) : atI xs ((n : Nat) : Int) = xs[n]? := by
  unfold atI
  rw [ixN_nat]
  by_cases h : n < xs.length
  · rw [if_pos h]; rfl
  · rw [if_neg h, List.getElem?_eq_none (by omega)]; rfl
@[simp] theorem atI_lit {α : Type} (xs : List α) (n : Nat) : atI xs (no_index (OfNat.ofNat n : Int)) = xs[n]? := atI_natq xs n
theorem atI_pos {α : Type} {xs : List α} {i : Int} (h0 : 0 ≤ i) (h : i < xs.length) : atI xs i = some (xs[i.toNat]'(by omega)) := by
  have e : i = ((i.toNat : Nat) : Int) := by omega
  have q := atI_natq xs i.toNat
  rw [← e] at q
  rw [q, List.getElem?_eq_getElem]
@[simp] theorem dPow_lit (a : Int) (n : Nat) : dPow (.int a) (.int (no_index (OfNat.ofNat n : Int))) = if n ≤ 1000000 ∧ a.natAbs < 2 ^ 64 then some (.int (a ^ n)) else none := by
  show (if (0 : Int) ≤ ((n : Nat) : Int) ∧ ((n : Nat) : Int) ≤ 1000000 ∧ a.natAbs < 2 ^ 64 then some (PyData.int (a ^ ((n : Nat) : Int).toNat)) else none) = _
  by_cases h : n ≤ 1000000 ∧ a.natAbs < 2 ^ 64
  · rw [if_pos h, if_pos ⟨by omega, by omega, h.2⟩, Int.toNat_natCast]
  · rw [if_neg h, if_neg fun z => h ⟨by omega, z.2.2⟩]
/-! equal data -/
mutual
theorem eqv_refl : ∀ d : D, d.canLay0 = true → PyData.eqv d d = true
  | .none, _ => by simp [PyData.eqv]
  | .bool b, _ => by simp [PyData.eqv]
  | .int i, _ => by simp [PyData.eqv]
  | .str x, _ => by simp [PyData.eqv]
  | .list xs, h => by
    rw [PyData.eqv]
    exact eqvAll_refl xs (by simpa [PyData.canLay0] using h)
  | .tuple xs, h => by
    rw [PyData.eqv]
    exact eqvAll_refl xs (by simpa [PyData.canLay0] using h)
  | .dict _, h => by simp [PyData.canLay0] at h
theorem eqvAll_refl : ∀ ds : List D, PyData.canLayAll0 ds = true → PyData.eqvAll ds ds = true
  | [], _ => by simp [PyData.eqvAll]
  | d :: ds, h => by
    have h2 : d.canLay0 = true ∧ PyData.canLayAll0 ds = true := by simpa [PyData.canLayAll0] using h
    rw [PyData.eqvAll, eqv_refl d h2.1, eqvAll_refl ds h2.2]
    rfl
end
theorem dEq_refl {d : D} (h : SeqAt.shaped d = true) : dEq d d = some (.bool true) := by
  unfold dEq
  rw [if_pos ⟨h, h⟩, eqv_refl d (SeqAt.canLay_of_shaped h)]
theorem dNe_refl {d : D} (h : SeqAt.shaped d = true) : dNe d d = some (.bool false) := by
  unfold dNe
  rw [if_pos ⟨h, h⟩, eqv_refl d (SeqAt.canLay_of_shaped h)]
  rfl
/-! ## loops over lists that stand for typed ones -/
section
variable {α β : Type} {vs : List Nat} {b : D → MS → Option MS} {t : MT} {e : ME} {m : MM}
/-- a comprehension that draws nothing -/
theorem lc_pure (enc : α → D) (p : α → Bool) (g : α → D) {s : MS} : ∀ xs : List α, (∀ x ∈ xs, ∃ s1, b (enc x) s = some s1 ∧ t s1 = some (p x, s1) ∧ (p x = true → e s1 = some (g x, s1)) ∧ wipeM s1 vs = s) → lcL vs b t e (xs.map enc) s = some ((xs.filter p).map g, s)
  | [], _ => rfl
  | x :: r, h => by
    obtain ⟨s1, h1, h2, h3, h4⟩ := h x List.mem_cons_self
    have ih := lc_pure enc p g r fun y hy => h y (List.mem_cons_of_mem _ hy)
    rw [List.map_cons, lcL, h1]
    simp only [Option.bind_some]
    rw [h2]
    simp only [Option.bind_some]
    cases hp : p x with
    | true =>
      rw [h3 hp]
      simp only [if_true, Option.bind_some]
      rw [h4, ih, List.filter_cons, hp]
      rfl
    | false =>
      simp only [Bool.false_eq_true, if_false]
      rw [h4, ih, List.filter_cons, hp]
      rfl
/-- a comprehension that may draw: Inv at the states between -/
theorem lc_ind (enc : α → D) (Inv : List D → MS → Prop) : ∀ (xs : List α) (acc : List D) (s : MS), Inv acc s → (∀ x ∈ xs, ∀ acc s, Inv acc s → ∃ s1, b (enc x) s = some s1 ∧ ∃ c s2, t s1 = some (c, s2) ∧ (c = false → Inv acc (wipeM s2 vs)) ∧ (c = true → ∃ y s3, e s2 = some (y, s3) ∧ Inv (acc ++ [y]) (wipeM s3 vs))) →
    ∃ ys s', lcL vs b t e (xs.map enc) s = some (ys, s') ∧ Inv (acc ++ ys) s'
  | [], acc, s, h, _ => ⟨[], s, rfl, by rw [List.append_nil]; exact h⟩
  | x :: r, acc, s, h, hs => by
    obtain ⟨s1, h1, c, s2, h2, h3, h4⟩ := hs x List.mem_cons_self acc s h
    rw [List.map_cons, lcL, h1]
    simp only [Option.bind_some]
    rw [h2]
    simp only [Option.bind_some]
    cases c with
    | true =>
      obtain ⟨y, s3, h5, h6⟩ := h4 rfl
      obtain ⟨ys, s', e1, e2⟩ := lc_ind enc Inv r (acc ++ [y]) _ h6 fun z hz => hs z (List.mem_cons_of_mem _ hz)
      refine ⟨y :: ys, s', ?_, by rw [List.append_assoc] at e2; exact e2⟩
      rw [h5]
      simp only [if_true, Option.bind_some]
      rw [e1]
      rfl
    | false =>
      obtain ⟨ys, s', e1, e2⟩ := lc_ind enc Inv r acc _ (h3 rfl) fun z hz => hs z (List.mem_cons_of_mem _ hz)
      refine ⟨ys, s', ?_, e2⟩
      simp only [Bool.false_eq_true, if_false]
      exact e1
/-- a loop that comes to its end: Inv of what is done -/
theorem for_ind (enc : α → D) (Inv : List α → MS → Prop) : ∀ (xs done : List α) (s : MS), Inv done s → (∀ (d : List α) (x : α) (r : List α) (s : MS), done ++ xs = d ++ x :: r → Inv d s → ∃ s1 s2, b (enc x) s = some s1 ∧ (m s1 = some (.nx s2) ∨ m s1 = some (.ct s2)) ∧ Inv (d ++ [x]) s2) →
    ∃ s', forL b m (xs.map enc) s = some (.nx s') ∧ Inv (done ++ xs) s'
  | [], done, s, h, _ => ⟨s, rfl, by rw [List.append_nil]; exact h⟩
  | x :: r, done, s, h, hs => by
    obtain ⟨s1, s2, h1, h2, h3⟩ := hs done x r s rfl h
    obtain ⟨s', e1, e2⟩ := for_ind enc Inv r (done ++ [x]) s2 h3 fun d y r' s e => hs d y r' s (by rw [← e, List.append_assoc]; rfl)
    refine ⟨s', ?_, by rw [List.append_assoc] at e2; exact e2⟩
    rw [List.map_cons, forL, h1]
    simp only [Option.bind_some]
    rcases h2 with h2 | h2 <;> rw [h2] <;> exact e1
/-- a loop that is a fold -/
theorem for_fold (enc : α → D) (st : β → MS) (F : β → α → β) : ∀ (xs : List α) (y : β), (∀ x ∈ xs, ∀ y, ∃ s1, b (enc x) (st y) = some s1 ∧ m s1 = some (.nx (st (F y x)))) → forL b m (xs.map enc) (st y) = some (.nx (st (xs.foldl F y)))
  | [], _, _ => rfl
  | x :: r, y, h => by
    obtain ⟨s1, h1, h2⟩ := h x List.mem_cons_self y
    rw [List.map_cons, forL, h1]
    simp only [Option.bind_some]
    rw [h2]
    exact for_fold enc st F r (F y x) fun z hz => h z (List.mem_cons_of_mem _ hz)
/-- .. with a property of the states -/
theorem for_foldI (enc : α → D) (st : β → MS) (F : β → α → β) (I : β → Prop) : ∀ (xs : List α) (y : β), I y → (∀ x ∈ xs, ∀ y, I y → I (F y x) ∧ ∃ s1, b (enc x) (st y) = some s1 ∧ m s1 = some (.nx (st (F y x)))) → forL b m (xs.map enc) (st y) = some (.nx (st (xs.foldl F y))) ∧ I (xs.foldl F y)
  | [], _, hy, _ => ⟨rfl, hy⟩
  | x :: r, y, hy, h => by
    obtain ⟨hi, s1, h1, h2⟩ := h x List.mem_cons_self y hy
    have ih := for_foldI enc st F I r (F y x) hi fun z hz => h z (List.mem_cons_of_mem _ hz)
    refine ⟨?_, ih.2⟩
    rw [List.map_cons, forL, h1]
    simp only [Option.bind_some]
    rw [h2]
    exact ih.1
end
/-! ## texts -/
theorem ofString_inj {a b : String} : Str.ofString a = Str.ofString b ↔ a = b := by
  refine ⟨fun h => ?_, fun h => by rw [h]⟩
  rw [Str.ofString_eq_toList, Str.ofString_eq_toList] at h
  have h1 : (a.toList.map Char.toNat) = (b.toList.map Char.toNat) := by
    have := congrArg (fun z : Str => z.cps.toList) h
    simpa using this
  have inj : ∀ {x y : List Char}, x.map Char.toNat = y.map Char.toNat → x = y := by
    intro x
    induction x with
    | nil => intro y h; cases y with
      | nil => rfl
      | cons c r => cases h
    | cons c r ih => intro y h; cases y with
      | nil => cases h
      | cons d q =>
        simp only [List.map_cons, List.cons.injEq] at h
        have hc : c = d := by
          have := h.1
          exact Char.ext (UInt32.toNat_inj.mp this)
        rw [hc, ih h.2]
  exact String.ext (inj h1)
end Z


namespace Z
open PySem PySem.Spec PyProof.Rows L2
/-! ## numbers in lists -/
abbrev iL (ns : List Int) : D := .list (ns.map PyData.int)
abbrev sL (ss : List Str) : D := .list (ss.map PyData.str)
def rgI (a b : Int) : List Int := (List.range (b - a).toNat).map fun i => a + (i : Nat)
theorem dRg_map (a b : Int) : dRg a b = (rgI a b).map PyData.int := by
  unfold dRg rgI
  rw [List.map_map]; rfl
theorem rgI_mem {a b x : Int} : x ∈ rgI a b ↔ a ≤ x ∧ x < b := by
  unfold rgI
  rw [List.mem_map]
  constructor
  · rintro ⟨i, hi, rfl⟩
    have := List.mem_range.mp hi
    omega
  · intro h
    exact ⟨(x - a).toNat, List.mem_range.mpr (by omega), by omega⟩
theorem rgI_len (a b : Int) : (rgI a b).length = (b - a).toNat := by
  unfold rgI
  rw [List.length_map, List.length_range]
theorem rgI_lt (a b : Int) : (rgI a b).Pairwise (· < ·) := by
  unfold rgI
  rw [List.pairwise_map]
  exact List.pairwise_lt_range.imp fun h => by omega
theorem inD_ints (a : Int) (xs : List Int) : inD (.int a) (xs.map PyData.int) = decide (a ∈ xs) := by
  unfold inD
  rw [List.any_map, Bool.eq_iff_iff, List.any_eq_true, decide_eq_true_eq]
  constructor
  · rintro ⟨x, hx, h⟩
    simp only [Function.comp, PyData.eqv, beq_iff_eq] at h
    rw [← h]; exact hx
  · intro h
    exact ⟨a, h, by simp [PyData.eqv]⟩
theorem inD_strs (a : Str) (xs : List Str) : inD (.str a) (xs.map PyData.str) = decide (a ∈ xs) := by
  unfold inD
  rw [List.any_map, Bool.eq_iff_iff, List.any_eq_true, decide_eq_true_eq]
  constructor
  · rintro ⟨x, hx, h⟩
    simp only [Function.comp, PyData.eqv, beq_iff_eq] at h
    rw [← h]; exact hx
  · intro h
    exact ⟨a, h, by simp [PyData.eqv]⟩
theorem flat_ints (xs : List Int) : (xs.map PyData.int).all flatD = true := by
  rw [List.all_map]; exact List.all_eq_true.mpr fun _ _ => rfl
theorem flat_strs (xs : List Str) : (xs.map PyData.str).all flatD = true := by
  rw [List.all_map]; exact List.all_eq_true.mpr fun _ _ => rfl
@[simp] theorem dIn_ints (neg : Bool) (a : Int) (xs : List Int) : dIn neg (.int a) (iL xs) = some (.bool (if neg then !decide (a ∈ xs) else decide (a ∈ xs))) := by
  unfold dIn
  rw [seqOf_l]
  simp only [Option.bind_some]
  rw [if_pos ⟨rfl, flat_ints xs⟩, inD_ints]
@[simp] theorem dIn_strs (neg : Bool) (a : Str) (xs : List Str) : dIn neg (.str a) (sL xs) = some (.bool (if neg then !decide (a ∈ xs) else decide (a ∈ xs))) := by
  unfold dIn
  rw [seqOf_l]
  simp only [Option.bind_some]
  rw [if_pos ⟨rfl, flat_strs xs⟩, inD_strs]
@[simp] theorem dSorted_ints (xs : List Int) : dSorted (xs.map PyData.int) = some ((iSort xs).map PyData.int) := by
  unfold dSorted
  rw [asInts_map]
@[simp] theorem dSorted_ints1 (xs : List Int) (a : Int) : dSorted (xs.map PyData.int ++ [.int a]) = some ((iSort (xs ++ [a])).map PyData.int) := by
  have := dSorted_ints (xs ++ [a])
  rwa [List.map_append] at this
@[simp] theorem dSorted_one (a : Int) : dSorted [.int a] = some ((iSort [a]).map PyData.int) := dSorted_ints [a]
theorem dSorted_strs {xs : List Str} (h : xs.length < 64) : dSorted (xs.map PyData.str) = some ((sSort xs).map PyData.str) := by
  unfold dSorted
  cases xs with
  | nil =>
    have e1 : iSort [] = [] := by unfold iSort; exact List.mergeSort_nil
    have e2 : sSort [] = [] := by unfold sSort; exact List.mergeSort_nil
    rw [List.map_nil, e2]
    show some ((iSort []).map PyData.int) = _
    rw [e1]; rfl
  | cons x r =>
    have : asInts ((x :: r).map PyData.str) = none := rfl
    rw [this]
    show (match asStrs ((x :: r).map PyData.str) with
      | some ss => if ss.length < 64 then some ((sSort ss).map PyData.str) else none
      | none => none) = _
    rw [asStrs_map]
    show (if (x :: r).length < 64 then _ else _) = _
    rw [if_pos h]
theorem iSort_of {a b : List Int} (h : a.Pairwise (· ≤ ·)) (p : a.Perm b) : iSort b = a := pw_eq (iSort_pw b) h ((iSort_perm b).trans p.symm)
theorem iSort_mem {ns : List Int} {x : Int} : x ∈ iSort ns ↔ x ∈ ns := (iSort_perm ns).mem_iff
theorem iSort_len (ns : List Int) : (iSort ns).length = ns.length := (iSort_perm ns).length_eq
theorem iSort_nodup {ns : List Int} : (iSort ns).Nodup ↔ ns.Nodup := (iSort_perm ns).nodup_iff
theorem lt_of_le_nodup {ns : List Int} (h : ns.Pairwise (· ≤ ·)) (n : ns.Nodup) : ns.Pairwise (· < ·) := by
  refine (h.and n).imp fun z => ?_
  have := z.1; have := z.2; omega
theorem iSort_lt {ns : List Int} (h : ns.Nodup) : (iSort ns).Pairwise (· < ·) := lt_of_le_nodup (iSort_pw ns) (iSort_nodup.mpr h)
theorem le_of_lt_pw {ns : List Int} (h : ns.Pairwise (· < ·)) : ns.Pairwise (· ≤ ·) := h.imp fun z => Int.le_of_lt z
theorem nodup_of_lt {ns : List Int} (h : ns.Pairwise (· < ·)) : ns.Nodup := h.imp fun z => Int.ne_of_lt z
/-- two ascending lists with the same members are one -/
theorem lt_ext : ∀ {a b : List Int}, a.Pairwise (· < ·) → b.Pairwise (· < ·) → (∀ x, x ∈ a ↔ x ∈ b) → a = b := fun {a b} ha hb h => by
  have p : a.Perm b := (List.perm_ext_iff_of_nodup (nodup_of_lt ha) (nodup_of_lt hb)).mpr h
  exact pw_eq (le_of_lt_pw ha) (le_of_lt_pw hb) p
/-- as many as stand between -/
theorem lt_len : ∀ {a : List Int} {lo hi : Int}, a.Pairwise (· < ·) → (∀ x ∈ a, lo ≤ x ∧ x < hi) → lo ≤ hi → (a.length : Int) ≤ hi - lo
  | [], lo, hi, _, _, h => by simpa using h
  | x :: r, lo, hi, hp, hm, h => by
    have hp' := List.pairwise_cons.mp hp
    have hx := hm x List.mem_cons_self
    have ih := lt_len (lo := x + 1) (hi := hi) hp'.2 (fun y hy => ⟨by have := hp'.1 y hy; omega, (hm y (List.mem_cons_of_mem _ hy)).2⟩) (by omega)
    rw [List.length_cons]
    omega
def gtI {α : Type} [Inhabited α] (xs : List α) (k : Int) : α := xs.getD k.toNat default
theorem rgI_get (a b : Int) (i : Nat) (h : i < (b - a).toNat) : (rgI a b)[i]? = some (a + (i : Nat)) := by
  unfold rgI
  rw [List.getElem?_map, List.getElem?_range h]; rfl
theorem map_rg {α β : Type} [Inhabited α] (f : α → β) (xs : List α) : xs.map f = (rgI 0 xs.length).map fun k => f (gtI xs k) := by
  apply List.ext_getElem?
  intro i
  rw [List.getElem?_map, List.getElem?_map]
  by_cases h : i < xs.length
  · rw [rgI_get 0 _ i (by omega), List.getElem?_eq_getElem h]
    have e : (0 + (i : Nat) : Int).toNat = i := by omega
    unfold gtI
    simp only [Option.map_some, e]
    rw [List.getD_eq_getElem?_getD, List.getElem?_eq_getElem h]
    rfl
  · rw [List.getElem?_eq_none (by omega), List.getElem?_eq_none (by rw [rgI_len]; omega)]
    rfl
theorem getD_rg {α : Type} [Inhabited α] (xs : List α) {k : Int} (h0 : 0 ≤ k) (h : k < xs.length) : atI xs k = some (gtI xs k) := by
  unfold gtI
  rw [atI_pos h0 h, List.getD_eq_getElem?_getD, List.getElem?_eq_getElem (by omega)]
  rfl
theorem atI_mapg {α β : Type} [Inhabited α] (f : α → β) (xs : List α) {k : Int} (h0 : 0 ≤ k) (h : k < xs.length) : atI (xs.map f) k = some (f (gtI xs k)) := by
  unfold gtI
  have h' : k < (xs.map f).length := by rw [List.length_map]; exact h
  rw [atI_pos h0 h', List.getElem_map, List.getD_eq_getElem?_getD, List.getElem?_eq_getElem (by omega)]
  rfl
theorem cutD_take (xs : List D) (k : Nat) : cutD xs none (some (k : Int)) = xs.take k := by
  unfold cutD
  rw [HT.sIx_none, HT.sIx_nat, List.drop_zero, Nat.sub_zero]
  by_cases h : k ≤ xs.length
  · rw [Nat.min_eq_left h]
  · rw [Nat.min_eq_right (by omega), List.take_length, List.take_of_length_le (by omega)]
/-! ## shapes -/
theorem canLay_ints : ∀ xs : List Int, PyData.canLayAll0 (xs.map PyData.int) = true
  | [] => by simp [PyData.canLayAll0]
  | x :: r => by simp only [List.map_cons, PyData.canLayAll0, PyData.canLay0, canLay_ints r]; rfl
theorem canLay_strs : ∀ xs : List Str, (∀ x ∈ xs, PyData.strOk x = true) → PyData.canLayAll0 (xs.map PyData.str) = true
  | [], _ => by simp [PyData.canLayAll0]
  | x :: r, h => by
    simp only [List.map_cons, PyData.canLayAll0, PyData.canLay0, canLay_strs r (fun y hy => h y (List.mem_cons_of_mem _ hy)), h x List.mem_cons_self]; rfl
theorem depth_ints : ∀ xs : List Int, PyData.depthAll (xs.map PyData.int) = 0
  | [] => by simp [PyData.depthAll]
  | x :: r => by simp only [List.map_cons, PyData.depthAll, PyData.depth, depth_ints r]; rfl
theorem depth_strs : ∀ xs : List Str, PyData.depthAll (xs.map PyData.str) = 0
  | [] => by simp [PyData.depthAll]
  | x :: r => by simp only [List.map_cons, PyData.depthAll, PyData.depth, depth_strs r]; rfl
theorem shaped_ints (xs : List Int) : SeqAt.shaped (iL xs) = true := by
  simp [SeqAt.shaped, PyData.canLay0, PyData.depth, canLay_ints, depth_ints]
theorem shaped_strs {xs : List Str} (h : ∀ x ∈ xs, PyData.strOk x = true) : SeqAt.shaped (sL xs) = true := by
  simp [SeqAt.shaped, PyData.canLay0, PyData.depth, canLay_strs xs h, depth_strs]
theorem canLay_map {α : Type} (enc : α → D) : ∀ xs : List α, (∀ x ∈ xs, (enc x).canLay0 = true) → PyData.canLayAll0 (xs.map enc) = true
  | [], _ => by simp [PyData.canLayAll0]
  | x :: r, h => by
    simp only [List.map_cons, PyData.canLayAll0, canLay_map enc r (fun y hy => h y (List.mem_cons_of_mem _ hy)), h x List.mem_cons_self]; rfl
theorem depth_map {α : Type} (enc : α → D) (n : Nat) : ∀ xs : List α, (∀ x ∈ xs, (enc x).depth ≤ n) → PyData.depthAll (xs.map enc) ≤ n
  | [], _ => by simp [PyData.depthAll]
  | x :: r, h => by
    simp only [List.map_cons, PyData.depthAll]
    exact Nat.max_le.mpr ⟨h x List.mem_cons_self, depth_map enc n r fun y hy => h y (List.mem_cons_of_mem _ hy)⟩
/-! ## texts -/
theorem strOk_os (a : String) : PyData.strOk (Str.ofString a) = true := by
  unfold PyData.strOk
  rw [Str.ofString_eq_toList]
  rw [Array.all_eq_true']
  intro c hc
  have hc' : c ∈ a.toList.map Char.toNat := by simpa using hc
  obtain ⟨d, _, rfl⟩ := List.mem_map.mp hc'
  have h : d.toNat < 0x110000 := by
    have := d.valid
    rcases this with h | ⟨_, h⟩
    · have : d.val.toNat < 0xd800 := h
      show d.val.toNat < _
      omega
    · exact h
  exact decide_eq_true h
@[simp] theorem dEq_os (a b : String) : dEq (.str (Str.ofString a)) (.str (Str.ofString b)) = some (.bool (decide (a = b))) := by
  rw [dEq_ss (strOk_os a) (strOk_os b)]
  simp only [ofString_inj]
theorem strOk_app {x y : Str} (h : PyData.strOk x = true) (h2 : PyData.strOk y = true) : PyData.strOk (x ++ y) = true := by
  unfold PyData.strOk at *
  show (x.cps ++ y.cps).all _ = true
  rw [Array.all_append, h, h2]; rfl
abbrev tl (x : Str) : List Nat := TL.tl x
theorem tl_app (x y : Str) : tl (x ++ y) = tl x ++ tl y := TL.tl_append x y
theorem tl_len (x : Str) : x.length = (tl x).length := TL.len_tl x
theorem tl_ext {x y : Str} (h : tl x = tl y) : x = y := TL.ext_tl h
theorem tl_os (a : String) : tl (Str.ofString a) = a.toList.map Char.toNat := TL.tl_ofString a
@[simp] theorem len_os (a : String) : (Str.ofString a).length = a.length := by
  rw [tl_len, tl_os, List.length_map, String.length_toList]
@[simp] theorem app_os (a b : String) : Str.ofString a ++ Str.ofString b = Str.ofString (a ++ b) := by
  apply tl_ext
  rw [tl_app, tl_os, tl_os, tl_os, String.toList_append, List.map_append]
theorem dAdd_s {x y : Str} (h : x.length + y.length ≤ 1000000) : dAdd (.str x) (.str y) = some (.str (x ++ y)) := by
  rw [dAdd_ss, if_pos (sz1M h)]
@[simp] theorem dAdd_os (a b : String) (h : a.length + b.length ≤ 1000000) : dAdd (.str (Str.ofString a)) (.str (Str.ofString b)) = some (.str (Str.ofString (a ++ b))) := by
  rw [dAdd_s (by rw [len_os, len_os]; exact h), app_os]
/-- texts joined without anything between -/
theorem join_empty : ∀ xs : List Str, tl (Str.join "" xs) = xs.flatMap tl
  | [] => rfl
  | [x] => by
    show tl x = _
    simp
  | x :: y :: r => by
    show tl (x ++ ("" : Str) ++ Str.join "" (y :: r)) = _
    rw [tl_app, tl_app, join_empty (y :: r), tl_os, List.flatMap_cons]
    simp
theorem txt_join (a : Str) (xs : List Str) : Txt.join a xs = Str.join a xs := PySem.StrLaws.glued_eq_join a xs
theorem cutS_tl (z : Str) (lo hi : Nat) (h : lo ≤ hi) (h2 : hi ≤ (tl z).length) : tl (cutS z (some (lo : Int)) (some (hi : Int))) = ((tl z).drop lo).take (hi - lo) := by
  unfold cutS
  show ((z.cps.toList.drop (HT.sIx z.length 0 (some (lo : Int)))).take (HT.sIx z.length z.length (some (hi : Int)) - HT.sIx z.length 0 (some (lo : Int)))) = _
  rw [HT.sIx_nat, HT.sIx_nat]
  rw [tl_len z, Nat.min_eq_left h2, Nat.min_eq_left (Nat.le_trans h h2)]
theorem sum_len {α : Type} {f : α → Nat} {c : Nat} : ∀ xs : List α, (∀ x ∈ xs, f x = c) → (xs.map f).sum = c * xs.length
  | [], _ => rfl
  | x :: r, h => by
    rw [List.map_cons, List.sum_cons, h x List.mem_cons_self, sum_len r fun y hy => h y (List.mem_cons_of_mem _ hy), List.length_cons, Nat.mul_add]; omega
theorem sum_lens {α : Type} {f : α → Str} {c : Nat} (xs : List α) (h : ∀ x ∈ xs, (f x).length = c) : ((xs.map f).map (·.length)).sum = c * xs.length := by
  rw [List.map_map]
  exact sum_len xs h
theorem flat_len {α : Type} {f : α → List Nat} {c : Nat} : ∀ xs : List α, (∀ x ∈ xs, (f x).length = c) → (xs.flatMap f).length = c * xs.length
  | [], _ => rfl
  | x :: r, h => by
    rw [List.flatMap_cons, List.length_append, h x List.mem_cons_self, flat_len r fun y hy => h y (List.mem_cons_of_mem _ hy), List.length_cons, Nat.mul_add]; omega
theorem dJoin_s {a : Str} {xs : List Str} (h : (xs.map (·.length)).sum + xs.length * a.length ≤ 16777216) : dJoin (.str a) [sL xs] = some (.str (Str.join a xs)) := by
  show (asStrs (xs.map PyData.str)).bind _ = _
  rw [asStrs_map]
  simp only [Option.bind_some]
  rw [if_pos h, txt_join]
/-! ## comprehensions and loops, as one meets them -/
section
variable {α : Type} {vs : List Nat} {b : D → MS → Option MS} {t : MT} {e : ME} {m : MM}
theorem kLc_pure (enc : α → D) (p : α → Bool) (g : α → D) {s : MS} {xs : List α} (hl : xs.length ≤ 1000000) (h : ∀ x ∈ xs, ∃ s1, b (enc x) (wipeM s vs) = some s1 ∧ t s1 = some (p x, s1) ∧ (p x = true → e s1 = some (g x, s1)) ∧ wipeM s1 vs = wipeM s vs) :
    kLc vs b t e (xs.map enc) s = some ((xs.filter p).map g, unwipe s (wipeM s vs) vs) := by
  unfold kLc
  rw [if_pos (by rw [List.length_map]; exact hl), lc_pure enc p g xs h]
  rfl
theorem kLc_map (enc : α → D) (g : α → D) {s : MS} {xs : List α} (hl : xs.length ≤ 1000000) (h : ∀ x ∈ xs, ∃ s1, b (enc x) (wipeM s vs) = some s1 ∧ t s1 = some (true, s1) ∧ e s1 = some (g x, s1) ∧ wipeM s1 vs = wipeM s vs) :
    kLc vs b t e (xs.map enc) s = some (xs.map g, unwipe s (wipeM s vs) vs) := by
  have := kLc_pure (vs := vs) (b := b) (t := t) (e := e) enc (fun _ => true) g hl fun x hx => by
    obtain ⟨s1, h1, h2, h3, h4⟩ := h x hx
    exact ⟨s1, h1, h2, fun _ => h3, h4⟩
  rw [this, List.filter_eq_self.mpr fun _ _ => rfl]
theorem kLc_ind (enc : α → D) (Inv : List D → MS → Prop) {s : MS} {xs : List α} (hl : xs.length ≤ 1000000) (h0 : Inv [] (wipeM s vs)) (h : ∀ x ∈ xs, ∀ acc s, Inv acc s → ∃ s1, b (enc x) s = some s1 ∧ ∃ c s2, t s1 = some (c, s2) ∧ (c = false → Inv acc (wipeM s2 vs)) ∧ (c = true → ∃ y s3, e s2 = some (y, s3) ∧ Inv (acc ++ [y]) (wipeM s3 vs))) :
    ∃ ys s', kLc vs b t e (xs.map enc) s = some (ys, unwipe s s' vs) ∧ Inv ys s' := by
  obtain ⟨ys, s', h1, h2⟩ := lc_ind enc Inv xs [] _ h0 h
  refine ⟨ys, s', ?_, by rwa [List.nil_append] at h2⟩
  unfold kLc
  rw [if_pos (by rw [List.length_map]; exact hl), h1]
  rfl
/-- a loop whose states are told by what is done -/
theorem for_st (enc : α → D) (st : List α → MS) (xs : List α) (h : ∀ d x r, xs = d ++ x :: r → ∃ s1, b (enc x) (st d) = some s1 ∧ m s1 = some (.nx (st (d ++ [x])))) : forL b m (xs.map enc) (st []) = some (.nx (st xs)) := by
  obtain ⟨s', h1, h2⟩ := for_ind (b := b) (m := m) enc (fun done s => s = st done) xs [] (st []) rfl fun d x r s e hs => by
    obtain ⟨s1, h1, h2⟩ := h d x r e
    subst hs
    exact ⟨s1, _, h1, .inl h2, rfl⟩
  rw [h1, h2]; rfl
end
end Z


namespace Z
open PySem PySem.Spec PyProof.Rows L2
namespace Tk08
def c_MOST_SLOTS : D := (.int 6)
def kv_LEFT : List (Str × He.Dv) := [("cx", .str "-*-"), ("cz", .str "-*-"), ("sw", .str "-x-")]
abbrev d_LEFT : Str → Option D := dvK kv_LEFT
def kv_RIGHT : List (Str × He.Dv) := [("cx", .str "-+-"), ("cz", .str "-*-"), ("sw", .str "-x-")]
abbrev d_RIGHT : Str → Option D := dvK kv_RIGHT
section
variable {P : Program} {w : World} {K : PySem.W.Frag} {mg : Str → Option Value} {base : Heap}
def top (i : Nat) : Stmt := PySem.Challenge.pw_steadywires_k08_whole_cores_drawn.main.body.getD i (.Pass ⟨0, 0, 0, 0⟩)
/-! ### slots_of -/
abbrev s_slots_of : Stmt := top 2
abbrev N_slots_of : List Str := ["row"]
theorem sc_slots_of : FnScope N_slots_of ["row"] (defScope s_slots_of) := ⟨rfl, rfl, rfl, by decide +kernel, rfl, by decide +kernel, by decide +kernel⟩
def mb_slots_of : MM := (mSeq (mIf (xT (xOp dEq (xOp dIx (xVar 0) (xC (.int 0))) (xC (.str "turn")))) (mRet (xOp dIx (xVar 0) (xC (.int 2))))
  mSkip)
  (mSeq (mIf (xT (xOp dEq (xOp dIx (xVar 0) (xC (.int 0))) (xC (.str "fix")))) (mRet (xLst (xDisp (xaCons (xOp dIx (xVar 0) (xC (.int 2))) xaNil))))
  mSkip)
  (mRet (xLst (xDisp (xaCons (xOp dIx (xVar 0) (xC (.int 1))) xaNil))))))
def m_slots_of : List D → Option D := fnP 1 1 mb_slots_of
theorem ok_slots_of {f : Addr} {fd : FuncData} (F : FnP K "slots_of" "slots_of" s_slots_of f fd) : FnOk P w K mg base CX0 1 f fd ["row"] (spP K m_slots_of) :=
  fn_P F sc_slots_of rfl rfl fun A hr => have hu := u64 hr
  (sss_cons (O1 := []) (ss_if (W := []) (tt_cmp (L0 := []) (ho_eq hu) rs_eq (tr_ix (tr_var (i := 0) rfl rfl (by decide) (by decide)) tr_int (by decide) (by decide)) tr_str (by decide) rfl) (sss_one (ss_ret (W := []) (tr_ix (tr_var (i := 0) rfl rfl (by decide) (by decide)) tr_int (by decide) (by decide)) (by decide)))
  sss_nil (by decide))
  (sss_cons (O1 := []) (ss_if (W := []) (tt_cmp (L0 := []) (ho_eq hu) rs_eq (tr_ix (tr_var (i := 0) rfl rfl (by decide) (by decide)) tr_int (by decide) (by decide)) tr_str (by decide) rfl) (sss_one (ss_ret (W := []) (tr_F (by decide) (tf_disp (ta_cons (tr_ix (tr_var (i := 0) rfl rfl (by decide) (by decide)) tr_int (by decide) (by decide)) ta_nil (by decide)) (by decide))) (by decide)))
  sss_nil (by decide))
  (sss_one (ss_ret (W := []) (tr_F (by decide) (tf_disp (ta_cons (tr_ix (tr_var (i := 0) rfl rfl (by decide) (by decide)) tr_int (by decide) (by decide)) ta_nil (by decide)) (by decide))) (by decide)))))
/-! ### used_behind -/
abbrev s_used_behind : Stmt := top 3
abbrev N_used_behind : List Str := ["used", "row", "slot"]
theorem sc_used_behind : FnScope N_used_behind ["used", "row"] (defScope s_used_behind) := ⟨rfl, rfl, rfl, by decide +kernel, rfl, by decide +kernel, by decide +kernel⟩
def mb_used_behind : MM := (mSeq (mIf (xT (xOp dEq (xOp dIx (xVar 1) (xC (.int 0))) (xC (.str "new")))) (mRet (xLst (xfMap dSorted (xCat (xList (xVar 0)) (xDisp (xaCons (xOp dIx (xVar 1) (xC (.int 1))) xaNil))))))
  mSkip)
  (mSeq (mIf (xT (xOp dEq (xOp dIx (xVar 1) (xC (.int 0))) (xC (.str "read")))) (mRet (xLst (xLc (xSeq (xVar 0)) [2] (bName 2) (xT (xOp dNe (xVar 2) (xOp dIx (xVar 1) (xC (.int 1))))) (xVar 2))))
  mSkip)
  (mRet (xVar 0))))
def m_used_behind : List D → Option D := fnP 2 3 mb_used_behind
theorem ok_used_behind {f : Addr} {fd : FuncData} (F : FnP K "used_behind" "used_behind" s_used_behind f fd) (b_sorted : mg "sorted" = none) : FnOk P w K mg base CX0 1 f fd ["used", "row"] (spP K m_used_behind) :=
  fn_P F sc_used_behind rfl rfl fun A hr => have hu := u64 hr
  (sss_cons (O1 := []) (ss_if (W := []) (tt_cmp (L0 := []) (ho_eq hu) rs_eq (tr_ix (tr_var (i := 1) rfl rfl (by decide) (by decide)) tr_int (by decide) (by decide)) tr_str (by decide) rfl) (sss_one (ss_ret (W := []) (tr_F (by decide) (tf_sorted (L0 := []) rfl b_sorted (tb_F (by decide) (tf_cat (tb_E (by decide) (tr_var (i := 0) rfl rfl (by decide) (by decide))) (tb_F (by decide) (tf_disp (ta_cons (tr_ix (tr_var (i := 1) rfl rfl (by decide) (by decide)) tr_int (by decide) (by decide)) ta_nil (by decide)) (by decide))) (by decide) (by decide))) (by decide))) (by decide)))
  sss_nil (by decide))
  (sss_cons (O1 := []) (ss_if (W := []) (tt_cmp (L0 := []) (ho_eq hu) rs_eq (tr_ix (tr_var (i := 1) rfl rfl (by decide) (by decide)) tr_int (by decide) (by decide)) tr_str (by decide) rfl) (sss_one (ss_ret (W := []) (tr_F (by decide) (tf_lc [("slot", 2)] (ti_E (by decide) (tr_var (i := 0) rfl rfl (by decide) (by decide))) rfl (tg_name (i := 2) rfl rfl (by decide) (by decide)) (tts_one (tt_cmp (L0 := []) (ho_ne hu) rs_ne (tr_var (i := 2) rfl rfl (by decide) (by decide)) (tr_ix (tr_var (i := 1) rfl rfl (by decide) (by decide)) tr_int (by decide) (by decide)) (by decide) rfl)) (tr_var (i := 2) rfl rfl (by decide) (by decide)) (by decide) (by decide) (by decide))) (by decide)))
  sss_nil (by decide))
  (sss_one (ss_ret (W := []) (tr_var (i := 0) rfl rfl (by decide) (by decide)) (by decide)))))
/-! ### slots_after -/
abbrev s_slots_after : Stmt := top 4
abbrev N_slots_after : List Str := ["core", "k", "used", "row"]
theorem sc_slots_after : FnScope N_slots_after ["core", "k"] (defScope s_slots_after) := ⟨rfl, rfl, rfl, by decide +kernel, rfl, by decide +kernel, by decide +kernel⟩
def mb_slots_after : MM := (mSeq (mSet 2 (xLst (xRg1 (xOp dIx (xVar 0) (xC (.int 0))))))
  (mSeq (mFor (xSl cutD (xList (xOp dIx (xVar 0) (xC (.int 1)))) xoNone (xoSome (xVar 1))) (bName 3) (mForget [3] (mSet 2 (xFn m_used_behind (xaCons (xVar 2) (xaCons (xVar 3) xaNil))))))
  (mRet (xVar 2))))
def m_slots_after : List D → Option D := fnP 2 4 mb_slots_after
theorem ok_slots_after {f : Addr} {fd : FuncData} (F : FnP K "slots_after" "slots_after" s_slots_after f fd) (b_list : mg "list" = none) (b_range : mg "range" = none) (F_used_behind : FnAt P w K mg base 1 "used_behind" ["used", "row"] (spP K m_used_behind)) : FnOk P w K mg base CX0 2 f fd ["core", "k"] (spP K m_slots_after) :=
  fn_P F sc_slots_after rfl rfl fun A hr => have hu := u64 hr
  (sss_cons (O1 := []) (ss_setFu (W := []) (i := 2) (O' := []) rfl rfl (tf_listRg1 (L0 := []) rfl b_list rfl b_range (tr_ix (tr_var (i := 0) rfl rfl (by decide) (by decide)) tr_int (by decide) (by decide)) (by decide)) (by decide) (by decide) (by decide) (by decide))
  (sss_cons (O1 := []) (ss_for (W := []) (vs := [3]) (ti_F (tf_slice (tb_E (by decide) (tr_ix (tr_var (i := 0) rfl rfl (by decide) (by decide)) tr_int (by decide) (by decide))) to_none (to_some (L0 := []) (tr_var (i := 1) rfl rfl (by decide) (by decide))) (by decide) (by decide))) (tg_name (i := 3) rfl rfl (by decide) (by decide)) (sss_forget [3] (sss_one (ss_set (W := []) (i := 2) (O' := []) rfl rfl (tr_call F_used_behind (hr.mono (by decide)) rfl (ta_cons (tr_var (i := 2) rfl rfl (by decide) (by decide)) (ta_cons (tr_var (i := 3) rfl rfl (by decide) (by decide)) ta_nil (by decide)) (by decide)) (by decide)) (by decide) (by decide) (by decide) (by decide))) (by decide)) (by decide) (by decide))
  (sss_one (ss_ret (W := []) (tr_var (i := 2) rfl rfl (by decide) (by decide)) (by decide)))))
/-! ### sign_of_turn -/
abbrev s_sign_of_turn : Stmt := top 8
abbrev N_sign_of_turn : List Str := ["row", "slot", "name", "slots"]
theorem sc_sign_of_turn : FnScope N_sign_of_turn ["row", "slot"] (defScope s_sign_of_turn) := ⟨rfl, rfl, rfl, by decide +kernel, rfl, by decide +kernel, by decide +kernel⟩
def mb_sign_of_turn : MM := (mSeq (mPar 2 3 (xaCons (xOp dIx (xVar 0) (xC (.int 1))) (xaCons (xOp dIx (xVar 0) (xC (.int 2))) xaNil)))
  (mSeq (mIf (xT (xOp dEq (xFn dLen (xaCons (xVar 3) xaNil)) (xC (.int 1)))) (mRet (xOp dAdd (xOp dAdd (xC (.str "-")) (xMt dUpper (xVar 2) xaNil)) (xC (.str "-"))))
  mSkip)
  (mSeq (mIf (xT (xOp dEq (xVar 1) (xOp dIx (xVar 3) (xC (.int 0))))) (mRet (xUn (dKey d_LEFT) (xVar 2)))
  mSkip)
  (mRet (xUn (dKey d_RIGHT) (xVar 2))))))
def m_sign_of_turn : List D → Option D := fnP 2 4 mb_sign_of_turn
theorem ok_sign_of_turn {f : Addr} {fd : FuncData} (F : FnP K "sign_of_turn" "sign_of_turn" s_sign_of_turn f fd) (b_len : mg "len" = none) {q_LEFT : Addr} (g_LEFT : mg "LEFT" = some (.ref q_LEFT) ∧ KDm K w q_LEFT d_LEFT) {q_RIGHT : Addr} (g_RIGHT : mg "RIGHT" = some (.ref q_RIGHT) ∧ KDm K w q_RIGHT d_RIGHT) : FnOk P w K mg base CX0 1 f fd ["row", "slot"] (spP K m_sign_of_turn) :=
  fn_P F sc_sign_of_turn rfl rfl fun A hr => have hu := u64 hr
  (sss_cons (O1 := []) (ss_par (W := []) (i := 2) (j := 3) (O' := []) rfl rfl (by decide) rfl rfl (ta_cons (tr_ix (tr_var (i := 0) rfl rfl (by decide) (by decide)) tr_int (by decide) (by decide)) (ta_cons (tr_ix (tr_var (i := 0) rfl rfl (by decide) (by decide)) tr_int (by decide) (by decide)) ta_nil (by decide)) (by decide)) (by decide) (by decide) (by decide) (by decide) (by decide))
  (sss_cons (O1 := []) (ss_if (W := []) (tt_cmp (L0 := []) (ho_eq hu) rs_eq (tr_len (L0 := []) rfl b_len (ta_cons (tr_var (i := 3) rfl rfl (by decide) (by decide)) ta_nil (by decide))) tr_int (by decide) rfl) (sss_one (ss_ret (W := []) (tr_opS (L0 := []) ho_add rs_add (tr_opS (L0 := []) ho_add rs_add tr_str (tr_upper (L0 := []) (tr_var (i := 2) rfl rfl (by decide) (by decide))) (by decide)) tr_str (by decide)) (by decide)))
  sss_nil (by decide))
  (sss_cons (O1 := []) (ss_if (W := []) (tt_cmp (L0 := []) (ho_eq hu) rs_eq (tr_var (i := 1) rfl rfl (by decide) (by decide)) (tr_ix (tr_var (i := 3) rfl rfl (by decide) (by decide)) tr_int (by decide) (by decide)) (by decide) rfl) (sss_one (ss_ret (W := []) (tr_gdict (L0 := []) rfl g_LEFT.1 g_LEFT.2 (tr_var (i := 2) rfl rfl (by decide) (by decide))) (by decide)))
  sss_nil (by decide))
  (sss_one (ss_ret (W := []) (tr_gdict (L0 := []) rfl g_RIGHT.1 g_RIGHT.2 (tr_var (i := 2) rfl rfl (by decide) (by decide))) (by decide))))))
/-! ### sign_of -/
abbrev s_sign_of : Stmt := top 9
abbrev N_sign_of : List Str := ["row", "slot", "used"]
theorem sc_sign_of : FnScope N_sign_of ["row", "slot", "used"] (defScope s_sign_of) := ⟨rfl, rfl, rfl, by decide +kernel, rfl, by decide +kernel, by decide +kernel⟩
def mb_sign_of : MM := (mSeq (mIf (xT (xOp (dIn false) (xVar 1) (xFn m_slots_of (xaCons (xVar 0) xaNil)))) (mSeq (mIf (xT (xOp dEq (xOp dIx (xVar 0) (xC (.int 0))) (xC (.str "turn")))) (mRet (xFn m_sign_of_turn (xaCons (xVar 0) (xaCons (xVar 1) xaNil))))
  mSkip)
  (mSeq (mIf (xT (xOp dEq (xOp dIx (xVar 0) (xC (.int 0))) (xC (.str "new")))) (mRet (xC (.str "  |")))
  mSkip)
  (mSeq (mIf (xT (xOp dEq (xOp dIx (xVar 0) (xC (.int 0))) (xC (.str "read")))) (mRet (xC (.str "-M ")))
  mSkip)
  (mRet (xOp dAdd (xOp dAdd (xC (.str "-")) (xMt dLower (xOp dIx (xVar 0) (xC (.int 1))) xaNil)) (xC (.str "-")))))))
  mSkip)
  (mSeq (mIf (xT (xOp (dIn false) (xVar 1) (xVar 2))) (mRet (xC (.str "---")))
  mSkip)
  (mRet (xC (.str "   ")))))
def m_sign_of : List D → Option D := fnP 3 3 mb_sign_of
theorem ok_sign_of {f : Addr} {fd : FuncData} (F : FnP K "sign_of" "sign_of" s_sign_of f fd) (F_slots_of : FnAt P w K mg base 1 "slots_of" ["row"] (spP K m_slots_of)) (F_sign_of_turn : FnAt P w K mg base 1 "sign_of_turn" ["row", "slot"] (spP K m_sign_of_turn)) : FnOk P w K mg base CX0 2 f fd ["row", "slot", "used"] (spP K m_sign_of) :=
  fn_P F sc_sign_of rfl rfl fun A hr => have hu := u64 hr
  (sss_cons (O1 := []) (ss_if (W := []) (tt_cmp (L0 := []) ho_in (rs_in false) (tr_var (i := 1) rfl rfl (by decide) (by decide)) (tr_call F_slots_of (hr.mono (by decide)) rfl (ta_cons (tr_var (i := 0) rfl rfl (by decide) (by decide)) ta_nil (by decide)) (by decide)) (by decide) rfl) (sss_cons (O1 := []) (ss_if (W := []) (tt_cmp (L0 := []) (ho_eq hu) rs_eq (tr_ix (tr_var (i := 0) rfl rfl (by decide) (by decide)) tr_int (by decide) (by decide)) tr_str (by decide) rfl) (sss_one (ss_ret (W := []) (tr_call F_sign_of_turn (hr.mono (by decide)) rfl (ta_cons (tr_var (i := 0) rfl rfl (by decide) (by decide)) (ta_cons (tr_var (i := 1) rfl rfl (by decide) (by decide)) ta_nil (by decide)) (by decide)) (by decide)) (by decide)))
  sss_nil (by decide))
  (sss_cons (O1 := []) (ss_if (W := []) (tt_cmp (L0 := []) (ho_eq hu) rs_eq (tr_ix (tr_var (i := 0) rfl rfl (by decide) (by decide)) tr_int (by decide) (by decide)) tr_str (by decide) rfl) (sss_one (ss_ret (W := []) tr_str (by decide)))
  sss_nil (by decide))
  (sss_cons (O1 := []) (ss_if (W := []) (tt_cmp (L0 := []) (ho_eq hu) rs_eq (tr_ix (tr_var (i := 0) rfl rfl (by decide) (by decide)) tr_int (by decide) (by decide)) tr_str (by decide) rfl) (sss_one (ss_ret (W := []) tr_str (by decide)))
  sss_nil (by decide))
  (sss_one (ss_ret (W := []) (tr_opS (L0 := []) ho_add rs_add (tr_opS (L0 := []) ho_add rs_add tr_str (tr_lower (L0 := []) (tr_ix (tr_var (i := 0) rfl rfl (by decide) (by decide)) tr_int (by decide) (by decide))) (by decide)) tr_str (by decide)) (by decide))))))
  sss_nil (by decide))
  (sss_cons (O1 := []) (ss_if (W := []) (tt_cmp (L0 := []) ho_in (rs_in false) (tr_var (i := 1) rfl rfl (by decide) (by decide)) (tr_var (i := 2) rfl rfl (by decide) (by decide)) (by decide) rfl) (sss_one (ss_ret (W := []) tr_str (by decide)))
  sss_nil (by decide))
  (sss_one (ss_ret (W := []) tr_str (by decide)))))
/-! ### slots_ever -/
abbrev s_slots_ever : Stmt := top 10
abbrev N_slots_ever : List Str := ["core", "ever", "row", "slot"]
theorem sc_slots_ever : FnScope N_slots_ever ["core"] (defScope s_slots_ever) := ⟨rfl, rfl, rfl, by decide +kernel, rfl, by decide +kernel, by decide +kernel⟩
def mb_slots_ever : MM := (mSeq (mSetF 1 (xRg1 (xOp dIx (xVar 0) (xC (.int 0)))))
  (mSeq (mFor (xSeq (xOp dIx (xVar 0) (xC (.int 1)))) (bName 2) (mForget [2] (mExt 1 (xLc (xSeq (xFn m_slots_of (xaCons (xVar 2) xaNil))) [3] (bName 3) (xT (xOp (dIn true) (xVar 3) (xVar 1))) (xVar 3)))))
  (mRetF (xLc (xRg1 (xC c_MOST_SLOTS)) [3] (bName 3) (xT (xOp (dIn false) (xVar 3) (xVar 1))) (xVar 3)))))
def m_slots_ever : List D → Option (List D) := fnL 1 4 mb_slots_ever
theorem ok_slots_ever {f : Addr} {fd : FuncData} (F : FnP K "slots_ever" "slots_ever" s_slots_ever f fd) (b_list : mg "list" = none) (b_range : mg "range" = none) {u_MOST_SLOTS : Value} {v_MOST_SLOTS : V} (g_MOST_SLOTS : mg "MOST_SLOTS" = some u_MOST_SLOTS ∧ RelV v_MOST_SLOTS u_MOST_SLOTS ∧ ∀ M, Rp K M v_MOST_SLOTS c_MOST_SLOTS) (F_slots_of : FnAt P w K mg base 1 "slots_of" ["row"] (spP K m_slots_of)) : FnOk P w K mg base CX0 2 f fd ["core"] (spL K m_slots_ever) :=
  fn_L F sc_slots_ever rfl rfl fun A hr => have hu := u64 hr
  (sss_cons (O1 := [1]) (ss_setF (W := []) (i := 1) (O' := [1]) rfl rfl (tf_listRg1 (L0 := []) rfl b_list rfl b_range (tr_ix (tr_var (i := 0) rfl rfl (by decide) (by decide)) tr_int (by decide) (by decide)) (by decide)) (by decide) (by decide) (by decide) (by decide))
  (sss_cons (O1 := [1]) (ss_for (W := []) (vs := [2]) (ti_E (by decide) (tr_ix (tr_var (i := 0) rfl rfl (by decide) (by decide)) tr_int (by decide) (by decide))) (tg_name (i := 2) rfl rfl (by decide) (by decide)) (sss_forget [2] (sss_one (ss_ext (W := []) (i := 1) rfl rfl (by decide) (tf_lc [("slot", 3)] (ti_E (by decide) (tr_call F_slots_of (hr.mono (by decide)) rfl (ta_cons (tr_var (i := 2) rfl rfl (by decide) (by decide)) ta_nil (by decide)) (by decide))) rfl (tg_name (i := 3) rfl rfl (by decide) (by decide)) (tts_one (tt_cmp (L0 := []) ho_nin (rs_in true) (tr_var (i := 3) rfl rfl (by decide) (by decide)) (tr_var (i := 1) rfl rfl (by decide) (by decide)) (by decide) rfl)) (tr_var (i := 3) rfl rfl (by decide) (by decide)) (by decide) (by decide) (by decide)) (by decide))) (by decide)) (by decide) (by decide))
  (sss_free (L := []) (sss_one (ss_retF (W := []) (tf_lc [("slot", 3)] (ti_rng1 (L0 := []) rfl b_range (tr_glob rfl g_MOST_SLOTS.1 g_MOST_SLOTS.2.1 g_MOST_SLOTS.2.2)) rfl (tg_name (i := 3) rfl rfl (by decide) (by decide)) (tts_one (tt_cmp (L0 := []) ho_in (rs_in false) (tr_var (i := 3) rfl rfl (by decide) (by decide)) (tr_var (i := 1) rfl rfl (by decide) (by decide)) (by decide) rfl)) (tr_var (i := 3) rfl rfl (by decide) (by decide)) (by decide) (by decide) (by decide)) (by decide))) (by decide) (by decide))))
/-! ### draw_core -/
abbrev s_draw_core : Stmt := top 11
abbrev N_draw_core : List Str := ["core", "lines", "ahead", "slot", "signs", "k", "row", "used"]
theorem sc_draw_core : FnScope N_draw_core ["core"] (defScope s_draw_core) := ⟨rfl, rfl, rfl, by decide +kernel, rfl, by decide +kernel, by decide +kernel⟩
def mb_draw_core : MM := (mSeq (mSetF 1 (xDisp xaNil))
  (mSeq (mSet 2 (xLst (xLc (xRg1 (xFn dLen (xaCons (xOp dIx (xVar 0) (xC (.int 1))) xaNil))) [5] (bName 5) xYes (xFn m_slots_after (xaCons (xVar 0) (xaCons (xVar 5) xaNil))))))
  (mSeq (mFor (xfMap m_slots_ever (xaCons (xVar 0) xaNil)) (bName 3) (mForget [3, 4] (mSeq (mSet 4 (xLst (xLc (xZip (xList (xOp dIx (xVar 0) (xC (.int 1)))) (xList (xVar 2))) [6, 7] (bTup 2 (bCons (bName 6) (bCons (bName 7) bNil))) xYes (xFn m_sign_of (xaCons (xVar 6) (xaCons (xVar 3) (xaCons (xVar 7) xaNil)))))))
  (mApp 1 (xOp dAdd (xOp dAdd (xFn dStr (xaCons (xVar 3) xaNil)) (xC (.str ":"))) (xMt dJoin (xC (.str "")) (xaCons (xVar 4) xaNil)))))))
  (mRet (xMt dJoin (xC (.str "\n")) (xaCons (xVar 1) xaNil))))))
def m_draw_core : List D → Option D := fnP 1 8 mb_draw_core
theorem ok_draw_core {f : Addr} {fd : FuncData} (F : FnP K "draw_core" "draw_core" s_draw_core f fd) (b_range : mg "range" = none) (b_len : mg "len" = none) (b_zip : mg "zip" = none) (b_str : mg "str" = none) (F_slots_after : FnAt P w K mg base 2 "slots_after" ["core", "k"] (spP K m_slots_after)) (F_slots_ever : FnAt P w K mg base 2 "slots_ever" ["core"] (spL K m_slots_ever)) (F_sign_of : FnAt P w K mg base 2 "sign_of" ["row", "slot", "used"] (spP K m_sign_of)) : FnOk P w K mg base CX0 3 f fd ["core"] (spP K m_draw_core) :=
  fn_P F sc_draw_core rfl rfl fun A hr => have hu := u64 hr
  (sss_cons (O1 := [1]) (ss_setF (W := []) (i := 1) (O' := [1]) rfl rfl (tf_disp ta_nil (by decide)) (by decide) (by decide) (by decide) (by decide))
  (sss_cons (O1 := [1]) (ss_lcu (W := []) (O' := [1]) (setLc_t (W := []) (i := 2) [("k", 5)] rfl rfl rfl (ti_rng1 (L0 := []) rfl b_range (tr_len (L0 := []) rfl b_len (ta_cons (tr_ix (tr_var (i := 0) rfl rfl (by decide) (by decide)) tr_int (by decide) (by decide)) ta_nil (by decide)))) rfl (tg_name (i := 5) rfl rfl (by decide) (by decide)) tts_nil (tr_call F_slots_after (hr.mono (by decide)) rfl (ta_cons (tr_var (i := 0) rfl rfl (by decide) (by decide)) (ta_cons (tr_var (i := 5) rfl rfl (by decide) (by decide)) ta_nil (by decide)) (by decide)) (by decide)) (by decide) (by decide)) (by decide) (by decide) (by decide) (by decide))
  (sss_cons (O1 := [1]) (ss_for (W := []) (vs := [3]) (ti_F (tf_call F_slots_ever (hr.mono (by decide)) rfl (ta_cons (tr_var (i := 0) rfl rfl (by decide) (by decide)) ta_nil (by decide)) (by decide) (by decide))) (tg_name (i := 3) rfl rfl (by decide) (by decide)) (sss_forget [3, 4] (sss_cons (O1 := [1]) (ss_lcu (W := []) (O' := [1]) (setLc_t (W := []) (i := 4) [("row", 6), ("used", 7)] rfl rfl rfl (ti_zip rfl b_zip (tz_E (tr_ix (tr_var (i := 0) rfl rfl (by decide) (by decide)) tr_int (by decide) (by decide))) (tz_E (tr_var (i := 2) rfl rfl (by decide) (by decide))) (by decide)) rfl (tg_tup (tgs_cons (tg_name (i := 6) rfl rfl (by decide) (by decide)) (tgs_cons (tg_name (i := 7) rfl rfl (by decide) (by decide)) tgs_nil (by decide)) (by decide))) tts_nil (tr_call F_sign_of (hr.mono (by decide)) rfl (ta_cons (tr_var (i := 6) rfl rfl (by decide) (by decide)) (ta_cons (tr_var (i := 3) rfl rfl (by decide) (by decide)) (ta_cons (tr_var (i := 7) rfl rfl (by decide) (by decide)) ta_nil (by decide)) (by decide)) (by decide)) (by decide)) (by decide) (by decide)) (by decide) (by decide) (by decide) (by decide))
  (sss_one (ss_app (W := []) (i := 1) rfl rfl (by decide) (tr_opS (L0 := []) ho_add rs_add (tr_opS (L0 := []) ho_add rs_add (tr_strC (L0 := []) rfl b_str (ta_cons (tr_var (i := 3) rfl rfl (by decide) (by decide)) ta_nil (by decide))) tr_str (by decide)) (tr_join (L0 := []) tr_str (ta_cons (tr_var (i := 4) rfl rfl (by decide) (by decide)) ta_nil (by decide)) (by decide)) (by decide)) (by decide)))) (by decide)) (by decide) (by decide))
  (sss_free (L := []) (sss_one (ss_ret (W := []) (tr_join (L0 := []) tr_str (ta_cons (tr_var (i := 1) rfl rfl (by decide) (by decide)) ta_nil (by decide)) (by decide)) (by decide))) (by decide) (by decide)))))
/-! ### _law_feed -/
abbrev s__law_feed : Stmt := top 13
abbrev N__law_feed : List Str := ["script"]
theorem sc__law_feed : FnScope N__law_feed ["script"] (defScope s__law_feed) := ⟨rfl, rfl, rfl, by decide +kernel, rfl, by decide +kernel, by decide +kernel⟩
def mb__law_feed : MM := (mRetF (xDisp (xaCons (xLst (xSeq (xVar 0))) (xaCons (xC (.int 0)) (xaCons (xC (.int 0)) (xaCons (xC (.int 1)) xaNil))))))
def m__law_feed : List D → Option (List D) := fnL 1 1 mb__law_feed
theorem ok__law_feed {f : Addr} {fd : FuncData} (F : FnP K "_law_feed" "_law_feed" s__law_feed f fd) (b_list : mg "list" = none) : FnOk P w K mg base CX0 1 f fd ["script"] (spL K m__law_feed) :=
  fn_L F sc__law_feed rfl rfl fun A hr => have hu := u64 hr
  (sss_one (ss_retF (W := []) (tf_disp (ta_cons (tr_F (by decide) (tf_list rfl b_list (tq_E (by decide) (tr_var (i := 0) rfl rfl (by decide) (by decide))) (by decide))) (ta_cons tr_int (ta_cons tr_int (ta_cons tr_int ta_nil (by decide)) (by decide)) (by decide)) (by decide)) (by decide)) (by decide)))
/-! ### _law_draw -/
abbrev s__law_draw : Stmt := top 14
abbrev N__law_draw : List Str := ["feed", "many", "cell", "told", "mixed"]
theorem sc__law_draw : FnScope N__law_draw ["feed", "many"] (defScope s__law_draw) := ⟨rfl, rfl, rfl, by decide +kernel, rfl, by decide +kernel, by decide +kernel⟩
def mb__law_draw : MM := (mSeq (mIf (xAnd (xT (xOp dEq (xIxOwn 0 (xC (.int 2))) (xC (.int 0)))) (xT (xOp dLt (xIxOwn 0 (xC (.int 1))) (xFn dLen (xaCons (xIxOwn 0 (xC (.int 0))) xaNil))))) (mSeq (mSet 2 (xFn dAbs (xaCons (xFn dInt (xaCons (xOp dIx (xIxOwn 0 (xC (.int 0))) (xIxOwn 0 (xC (.int 1)))) xaNil)) xaNil)))
  (mSeq (mAugIx dAddI 0 (xC (.int 1)) (xC (.int 1)))
  (mIf (xT (xOp dGe (xVar 2) (xOp dPow (xC (.int 10)) (xC (.int 18))))) (mSetIx 0 (xVar 2) (xC (.int 2)))
  (mSetIx 0 (xOp dMod (xFn dInt (xaCons (xOp dAdd (xOp dAdd (xOp dMul (xIxOwn 0 (xC (.int 3))) (xC (.int 48271))) (xOp dMul (xVar 2) (xC (.int 69621)))) (xIxOwn 0 (xC (.int 1)))) xaNil)) (xC (.int 2147483647))) (xC (.int 3))))))
  mSkip)
  (mSeq (mIf (xT (xOp dGt (xIxOwn 0 (xC (.int 2))) (xC (.int 0)))) (mSeq (mSet 3 (xOp dMod (xFn dInt (xaCons (xIxOwn 0 (xC (.int 2))) xaNil)) (xVar 1)))
  (mSeq (mSetIx 0 (xOp dDiv (xIxOwn 0 (xC (.int 2))) (xVar 1)) (xC (.int 2)))
  (mRet (xVar 3))))
  mSkip)
  (mSeq (mSetIx 0 (xOp dMod (xFn dInt (xaCons (xOp dAdd (xOp dMul (xIxOwn 0 (xC (.int 3))) (xC (.int 16807))) (xC (.int 12345))) xaNil)) (xC (.int 2147483647))) (xC (.int 3)))
  (mSeq (mSet 4 (xOp dMod (xFn dInt (xaCons (xOp dAdd (xOp dMul (xIxOwn 0 (xC (.int 3))) (xIxOwn 0 (xC (.int 3)))) (xIxOwn 0 (xC (.int 3)))) xaNil)) (xC (.int 2147483629))))
  (mRet (xOp dMod (xOp dDiv (xVar 4) (xC (.int 11))) (xVar 1)))))))
def m__law_draw : List D → List D → Option (D × List D) := fnT 2 5 mb__law_draw
theorem ok__law_draw {f : Addr} {fd : FuncData} (F : FnP K "_law_draw" "_law_draw" s__law_draw f fd) (b_len : mg "len" = none) (b_abs : mg "abs" = none) (b_int : mg "int" = none) : FnOk P w K mg base CX0 1 f fd ["feed", "many"] (spT K m__law_draw) :=
  fn_T F sc__law_draw rfl rfl fun A hr => have hu := u64 hr
  (sss_cons (O1 := [0]) (ss_if (W := []) (tt_W (tw_and (tt_cmp (L0 := []) (ho_eq hu) rs_eq (tr_ixOwn (L0 := []) (i := 0) rfl rfl (by decide) (by decide) tr_int) tr_int (by decide) rfl) (tw_and1 (tt_cmp (L0 := []) ho_lt rs_lt (tr_ixOwn (L0 := []) (i := 0) rfl rfl (by decide) (by decide) tr_int) (tr_len (L0 := []) rfl b_len (ta_cons (tr_ixOwn (L0 := []) (i := 0) rfl rfl (by decide) (by decide) tr_int) ta_nil (by decide))) (by decide) rfl)))) (sss_cons (O1 := [0]) (ss_set (W := []) (i := 2) (O' := [0]) rfl rfl (tr_abs (L0 := []) rfl b_abs (ta_cons (tr_intC (L0 := []) rfl b_int (ta_cons (tr_ix (tr_ixOwn (L0 := []) (i := 0) rfl rfl (by decide) (by decide) tr_int) (tr_ixOwn (L0 := []) (i := 0) rfl rfl (by decide) (by decide) tr_int) (by decide) (by decide)) ta_nil (by decide))) ta_nil (by decide))) (by decide) (by decide) (by decide) (by decide))
  (sss_cons (O1 := [0]) (ss_augIx (L0 := []) (L := []) (i := 0) ho_iadd rs_addI rfl rfl (by decide) tr_int tr_int)
  (sss_one (ss_if (W := []) (tt_cmp (L0 := []) ho_ge rs_ge (tr_var (i := 2) rfl rfl (by decide) (by decide)) (tr_opS (L0 := []) ho_pow rs_pow tr_int tr_int (by decide)) (by decide) rfl) (sss_one (ss_setIx (W := []) (L0 := []) (i := 0) rfl rfl (by decide) (tr_var (i := 2) rfl rfl (by decide) (by decide)) tr_int (by decide)))
  (sss_one (ss_setIx (W := []) (L0 := []) (i := 0) rfl rfl (by decide) (tr_opS (L0 := []) ho_mod rs_mod (tr_intC (L0 := []) rfl b_int (ta_cons (tr_opS (L0 := []) ho_add rs_add (tr_opS (L0 := []) ho_add rs_add (tr_opS (L0 := []) ho_mul rs_mul (tr_ixOwn (L0 := []) (i := 0) rfl rfl (by decide) (by decide) tr_int) tr_int (by decide)) (tr_opS (L0 := []) ho_mul rs_mul (tr_var (i := 2) rfl rfl (by decide) (by decide)) tr_int (by decide)) (by decide)) (tr_ixOwn (L0 := []) (i := 0) rfl rfl (by decide) (by decide) tr_int) (by decide)) ta_nil (by decide))) tr_int (by decide)) tr_int (by decide))) (by decide)))))
  sss_nil (by decide))
  (sss_cons (O1 := [0]) (ss_if (W := []) (tt_cmp (L0 := []) ho_gt rs_gt (tr_ixOwn (L0 := []) (i := 0) rfl rfl (by decide) (by decide) tr_int) tr_int (by decide) rfl) (sss_cons (O1 := [0]) (ss_set (W := []) (i := 3) (O' := [0]) rfl rfl (tr_opS (L0 := []) ho_mod rs_mod (tr_intC (L0 := []) rfl b_int (ta_cons (tr_ixOwn (L0 := []) (i := 0) rfl rfl (by decide) (by decide) tr_int) ta_nil (by decide))) (tr_var (i := 1) rfl rfl (by decide) (by decide)) (by decide)) (by decide) (by decide) (by decide) (by decide))
  (sss_cons (O1 := [0]) (ss_setIx (W := []) (L0 := []) (i := 0) rfl rfl (by decide) (tr_opS (L0 := []) ho_div rs_div (tr_ixOwn (L0 := []) (i := 0) rfl rfl (by decide) (by decide) tr_int) (tr_var (i := 1) rfl rfl (by decide) (by decide)) (by decide)) tr_int (by decide))
  (sss_one (ss_ret (W := []) (tr_var (i := 3) rfl rfl (by decide) (by decide)) (by decide)))))
  sss_nil (by decide))
  (sss_cons (O1 := [0]) (ss_setIx (W := []) (L0 := []) (i := 0) rfl rfl (by decide) (tr_opS (L0 := []) ho_mod rs_mod (tr_intC (L0 := []) rfl b_int (ta_cons (tr_opS (L0 := []) ho_add rs_add (tr_opS (L0 := []) ho_mul rs_mul (tr_ixOwn (L0 := []) (i := 0) rfl rfl (by decide) (by decide) tr_int) tr_int (by decide)) tr_int (by decide)) ta_nil (by decide))) tr_int (by decide)) tr_int (by decide))
  (sss_cons (O1 := [0]) (ss_set (W := []) (i := 4) (O' := [0]) rfl rfl (tr_opS (L0 := []) ho_mod rs_mod (tr_intC (L0 := []) rfl b_int (ta_cons (tr_opS (L0 := []) ho_add rs_add (tr_opS (L0 := []) ho_mul rs_mul (tr_ixOwn (L0 := []) (i := 0) rfl rfl (by decide) (by decide) tr_int) (tr_ixOwn (L0 := []) (i := 0) rfl rfl (by decide) (by decide) tr_int) (by decide)) (tr_ixOwn (L0 := []) (i := 0) rfl rfl (by decide) (by decide) tr_int) (by decide)) ta_nil (by decide))) tr_int (by decide)) (by decide) (by decide) (by decide) (by decide))
  (sss_one (ss_ret (W := []) (tr_opS (L0 := []) ho_mod rs_mod (tr_opS (L0 := []) ho_div rs_div (tr_var (i := 4) rfl rfl (by decide) (by decide)) tr_int (by decide)) (tr_var (i := 1) rfl rfl (by decide) (by decide)) (by decide)) (by decide)))))))
/-! ### _law_core -/
abbrev s__law_core : Stmt := top 15
abbrev N__law_core : List Str := ["feed", "ins", "wide", "most", "slots", "rows", "bits", "step", "kind", "free", "slot", "told", "other", "outs", "order", "k", "shown"]
theorem sc__law_core : FnScope N__law_core ["feed", "ins", "wide", "most"] (defScope s__law_core) := ⟨rfl, rfl, rfl, by decide +kernel, rfl, by decide +kernel, by decide +kernel⟩
def mb__law_core : MM := (mSeq (mSet 4 (xLst (xLc (xRg1 (xVar 1)) [15] (bName 15) xYes (xVar 15))))
  (mSeq (mSetF 5 (xDisp xaNil))
  (mSeq (mSet 6 (xC (.int 0)))
  (mSeq (mFor (xRg1 (xCallT 0 m__law_draw (xaCons (xOp dAdd (xVar 3) (xC (.int 1))) xaNil))) (bName 7) (mForget [7, 8, 9, 10, 11, 12, 15] (mSeq (mSet 8 (xCallT 0 m__law_draw (xaCons (xC (.int 10)) xaNil)))
  (mSeq (mSet 9 (xLst (xLc (xRg1 (xC (.int 6))) [15] (bName 15) (xT (xOp (dIn true) (xVar 15) (xVar 4))) (xVar 15))))
  (mIf (xAnd (xOr (xT (xOp dEq (xVar 8) (xC (.int 0)))) (xT (xOp dEq (xFn dLen (xaCons (xVar 4) xaNil)) (xC (.int 0))))) (xT (xOp dLt (xFn dLen (xaCons (xVar 4) xaNil)) (xVar 2)))) (mSeq (mSet 10 (xOp dIx (xVar 9) (xCallT 0 m__law_draw (xaCons (xFn dLen (xaCons (xVar 9) xaNil)) xaNil))))
  (mSeq (mApp 5 (xTup (xaCons (xC (.str "new")) (xaCons (xVar 10) xaNil))))
  (mSet 4 (xLst (xfMap dSorted (xCat (xList (xVar 4)) (xDisp (xaCons (xVar 10) xaNil))))))))
  (mIf (xT (xOp dGt (xFn dLen (xaCons (xVar 4) xaNil)) (xC (.int 0)))) (mSeq (mSet 10 (xOp dIx (xVar 4) (xCallT 0 m__law_draw (xaCons (xFn dLen (xaCons (xVar 4) xaNil)) xaNil))))
  (mIf (xAnd (xT (xOp dEq (xVar 8) (xC (.int 1)))) (xT (xOp dLt (xVar 6) (xC (.int 4))))) (mSeq (mApp 5 (xTup (xaCons (xC (.str "read")) (xaCons (xVar 10) (xaCons (xVar 6) xaNil)))))
  (mSeq (mAug dAddI 6 (xC (.int 1)))
  (mSet 4 (xLst (xLc (xSeq (xVar 4)) [15] (bName 15) (xT (xOp dNe (xVar 15) (xVar 10))) (xVar 15))))))
  (mIf (xAnd (xT (xOp dEq (xVar 8) (xC (.int 2)))) (xT (xOp dGt (xVar 6) (xC (.int 0))))) (mSeq (mSet 11 (xLst (xLc (xRg1 (xVar 6)) [15] (bName 15) (xT (xOp dEq (xCallT 0 m__law_draw (xaCons (xC (.int 2)) xaNil)) (xC (.int 0)))) (xVar 15))))
  (mSeq (mIf (xT (xOp dEq (xFn dLen (xaCons (xVar 11) xaNil)) (xC (.int 0)))) (mSet 11 (xLst (xDisp (xaCons (xCallT 0 m__law_draw (xaCons (xVar 6) xaNil)) xaNil))))
  mSkip)
  (mApp 5 (xTup (xaCons (xC (.str "fix")) (xaCons (xOp dIx (xC (.str "XYZ")) (xCallT 0 m__law_draw (xaCons (xC (.int 3)) xaNil))) (xaCons (xVar 10) (xaCons (xVar 11) xaNil))))))))
  (mIf (xAnd (xT (xOp dGt (xVar 8) (xC (.int 6)))) (xT (xOp dGt (xFn dLen (xaCons (xVar 4) xaNil)) (xC (.int 1))))) (mSeq (mSet 12 (xOp dIx (xLst (xLc (xSeq (xVar 4)) [15] (bName 15) (xT (xOp dNe (xVar 15) (xVar 10))) (xVar 15))) (xCallT 0 m__law_draw (xaCons (xOp dSub (xFn dLen (xaCons (xVar 4) xaNil)) (xC (.int 1))) xaNil))))
  (mApp 5 (xTup (xaCons (xC (.str "turn")) (xaCons (xOp dIx (xLst (xDisp (xaCons (xC (.str "cx")) (xaCons (xC (.str "cz")) (xaCons (xC (.str "sw")) xaNil))))) (xCallT 0 m__law_draw (xaCons (xC (.int 3)) xaNil))) (xaCons (xLst (xDisp (xaCons (xVar 10) (xaCons (xVar 12) xaNil)))) xaNil))))))
  (mApp 5 (xTup (xaCons (xC (.str "turn")) (xaCons (xOp dIx (xLst (xDisp (xaCons (xC (.str "h")) (xaCons (xC (.str "s")) (xaCons (xC (.str "h")) (xaCons (xC (.str "r")) (xaCons (xC (.str "x")) (xaCons (xC (.str "y")) (xaCons (xC (.str "z")) xaNil))))))))) (xCallT 0 m__law_draw (xaCons (xC (.int 7)) xaNil))) (xaCons (xLst (xDisp (xaCons (xVar 10) xaNil))) xaNil)))))))))
  mSkip))))))
  (mSeq (mSetF 13 (xSeq (xVar 4)))
  (mSeq (mSetF 14 (xDisp xaNil))
  (mSeq (mFor (xRg1 (xFn dLen (xaCons (xVar 13) xaNil))) (bName 15) (mForget [15] (mApp 14 (xPopAt 13 (xCallT 0 m__law_draw (xaCons (xFn dLen (xaCons (xVar 13) xaNil)) xaNil))))))
  (mSeq (mSet 16 (xLst (xLc (xRg1 (xVar 6)) [15] (bName 15) (xT (xOp dGt (xCallT 0 m__law_draw (xaCons (xC (.int 3)) xaNil)) (xC (.int 0)))) (xVar 15))))
  (mSeq (mIf (xT (xOp dEq (xCallT 0 m__law_draw (xaCons (xC (.int 3)) xaNil)) (xC (.int 0)))) (mSet 16 (xLst (xfMap (fun ds => some ds.reverse) (xList (xVar 16)))))
  mSkip)
  (mRet (xTup (xaCons (xVar 1) (xaCons (xVar 5) (xaCons (xVar 14) (xaCons (xVar 16) xaNil)))))))))))))))
def m__law_core : List D → List D → Option (D × List D) := fnT 4 17 mb__law_core
theorem ok__law_core {f : Addr} {fd : FuncData} (F : FnP K "_law_core" "_law_core" s__law_core f fd) (b_range : mg "range" = none) (b_len : mg "len" = none) (b_sorted : mg "sorted" = none) (b_list : mg "list" = none) (F__law_draw : FnAt P w K mg base 1 "_law_draw" ["feed", "many"] (spT K m__law_draw)) : FnOk P w K mg base CX0 2 f fd ["feed", "ins", "wide", "most"] (spT K m__law_core) :=
  fn_T F sc__law_core rfl rfl fun A hr => have hu := u64 hr
  (sss_cons (O1 := [0]) (ss_setFu (W := []) (i := 4) (O' := [0]) rfl rfl (tf_lc [("k", 15)] (ti_rng1 (L0 := []) rfl b_range (tr_var (i := 1) rfl rfl (by decide) (by decide))) rfl (tg_name (i := 15) rfl rfl (by decide) (by decide)) tts_nil (tr_var (i := 15) rfl rfl (by decide) (by decide)) (by decide) (by decide) (by decide)) (by decide) (by decide) (by decide) (by decide))
  (sss_cons (O1 := [0, 5]) (ss_setF (W := []) (i := 5) (O' := [0, 5]) rfl rfl (tf_disp ta_nil (by decide)) (by decide) (by decide) (by decide) (by decide))
  (sss_cons (O1 := [0, 5]) (ss_set (W := []) (i := 6) (O' := [0, 5]) rfl rfl tr_int (by decide) (by decide) (by decide) (by decide))
  (sss_cons (O1 := [0, 5]) (ss_for (W := [0]) (vs := [7]) (ti_rng1 (L0 := [0]) rfl b_range (tr_callT (i := 0) F__law_draw (hr.mono (by decide)) rfl rfl rfl (by decide) (ta_wk (ta_cons (tr_opS (L0 := []) ho_add rs_add (tr_var (i := 3) rfl rfl (by decide) (by decide)) tr_int (by decide)) ta_nil (by decide))) (by decide) (by decide))) (tg_name (i := 7) rfl rfl (by decide) (by decide)) (sss_forget [7, 8, 9, 10, 11, 12, 15] (sss_cons (O1 := [0, 5]) (ss_set (W := [0]) (i := 8) (O' := [0, 5]) rfl rfl (tr_callT (i := 0) F__law_draw (hr.mono (by decide)) rfl rfl rfl (by decide) (ta_wk (ta_cons tr_int ta_nil (by decide))) (by decide) (by decide)) (by decide) (by decide) (by decide) (by decide))
  (sss_cons (O1 := [0, 5]) (ss_lcu (W := []) (O' := [0, 5]) (setLc_t (W := []) (i := 9) [("k", 15)] rfl rfl rfl (ti_rng1 (L0 := []) rfl b_range tr_int) rfl (tg_name (i := 15) rfl rfl (by decide) (by decide)) (tts_one (tt_cmp (L0 := []) ho_nin (rs_in true) (tr_var (i := 15) rfl rfl (by decide) (by decide)) (tr_var (i := 4) rfl rfl (by decide) (by decide)) (by decide) rfl)) (tr_var (i := 15) rfl rfl (by decide) (by decide)) (by decide) (by decide)) (by decide) (by decide) (by decide) (by decide))
  (sss_one (ss_if (W := []) (tt_W (tw_and (tt_W (tw_or (tt_cmp (L0 := []) (ho_eq hu) rs_eq (tr_var (i := 8) rfl rfl (by decide) (by decide)) tr_int (by decide) rfl) (tw_or1 (tt_cmp (L0 := []) (ho_eq hu) rs_eq (tr_len (L0 := []) rfl b_len (ta_cons (tr_var (i := 4) rfl rfl (by decide) (by decide)) ta_nil (by decide))) tr_int (by decide) rfl)))) (tw_and1 (tt_cmp (L0 := []) ho_lt rs_lt (tr_len (L0 := []) rfl b_len (ta_cons (tr_var (i := 4) rfl rfl (by decide) (by decide)) ta_nil (by decide))) (tr_var (i := 2) rfl rfl (by decide) (by decide)) (by decide) rfl)))) (sss_cons (O1 := [0, 5]) (ss_set (W := [0]) (i := 10) (O' := [0, 5]) rfl rfl (tr_ix (tr_wk (tr_var (i := 9) rfl rfl (by decide) (by decide))) (tr_callT (i := 0) F__law_draw (hr.mono (by decide)) rfl rfl rfl (by decide) (ta_wk (ta_cons (tr_len (L0 := []) rfl b_len (ta_cons (tr_var (i := 9) rfl rfl (by decide) (by decide)) ta_nil (by decide))) ta_nil (by decide))) (by decide) (by decide)) (by decide) (by decide)) (by decide) (by decide) (by decide) (by decide))
  (sss_cons (O1 := [0, 5]) (ss_app (W := []) (i := 5) rfl rfl (by decide) (tr_tup (ta_cons tr_str (ta_cons (tr_var (i := 10) rfl rfl (by decide) (by decide)) ta_nil (by decide)) (by decide)) (by decide)) (by decide))
  (sss_one (ss_setFu (W := []) (i := 4) (O' := [0, 5]) rfl rfl (tf_sorted (L0 := []) rfl b_sorted (tb_F (by decide) (tf_cat (tb_E (by decide) (tr_var (i := 4) rfl rfl (by decide) (by decide))) (tb_F (by decide) (tf_disp (ta_cons (tr_var (i := 10) rfl rfl (by decide) (by decide)) ta_nil (by decide)) (by decide))) (by decide) (by decide))) (by decide)) (by decide) (by decide) (by decide) (by decide)))))
  (sss_one (ss_if (W := []) (tt_cmp (L0 := []) ho_gt rs_gt (tr_len (L0 := []) rfl b_len (ta_cons (tr_var (i := 4) rfl rfl (by decide) (by decide)) ta_nil (by decide))) tr_int (by decide) rfl) (sss_cons (O1 := [0, 5]) (ss_set (W := [0]) (i := 10) (O' := [0, 5]) rfl rfl (tr_ix (tr_wk (tr_var (i := 4) rfl rfl (by decide) (by decide))) (tr_callT (i := 0) F__law_draw (hr.mono (by decide)) rfl rfl rfl (by decide) (ta_wk (ta_cons (tr_len (L0 := []) rfl b_len (ta_cons (tr_var (i := 4) rfl rfl (by decide) (by decide)) ta_nil (by decide))) ta_nil (by decide))) (by decide) (by decide)) (by decide) (by decide)) (by decide) (by decide) (by decide) (by decide))
  (sss_one (ss_if (W := []) (tt_W (tw_and (tt_cmp (L0 := []) (ho_eq hu) rs_eq (tr_var (i := 8) rfl rfl (by decide) (by decide)) tr_int (by decide) rfl) (tw_and1 (tt_cmp (L0 := []) ho_lt rs_lt (tr_var (i := 6) rfl rfl (by decide) (by decide)) tr_int (by decide) rfl)))) (sss_cons (O1 := [0, 5]) (ss_app (W := []) (i := 5) rfl rfl (by decide) (tr_tup (ta_cons tr_str (ta_cons (tr_var (i := 10) rfl rfl (by decide) (by decide)) (ta_cons (tr_var (i := 6) rfl rfl (by decide) (by decide)) ta_nil (by decide)) (by decide)) (by decide)) (by decide)) (by decide))
  (sss_cons (O1 := [0, 5]) (ss_aug (W := []) (i := 6) ho_iadd rs_addI rfl rfl (by decide) (by decide) (by decide) tr_int (by decide))
  (sss_one (ss_setFu (W := []) (i := 4) (O' := [0, 5]) rfl rfl (tf_lc [("k", 15)] (ti_E (by decide) (tr_var (i := 4) rfl rfl (by decide) (by decide))) rfl (tg_name (i := 15) rfl rfl (by decide) (by decide)) (tts_one (tt_cmp (L0 := []) (ho_ne hu) rs_ne (tr_var (i := 15) rfl rfl (by decide) (by decide)) (tr_var (i := 10) rfl rfl (by decide) (by decide)) (by decide) rfl)) (tr_var (i := 15) rfl rfl (by decide) (by decide)) (by decide) (by decide) (by decide)) (by decide) (by decide) (by decide) (by decide)))))
  (sss_one (ss_if (W := []) (tt_W (tw_and (tt_cmp (L0 := []) (ho_eq hu) rs_eq (tr_var (i := 8) rfl rfl (by decide) (by decide)) tr_int (by decide) rfl) (tw_and1 (tt_cmp (L0 := []) ho_gt rs_gt (tr_var (i := 6) rfl rfl (by decide) (by decide)) tr_int (by decide) rfl)))) (sss_cons (O1 := [0, 5]) (ss_lcu (W := [0]) (O' := [0, 5]) (setLc_t (W := [0]) (i := 11) [("k", 15)] rfl rfl rfl (ti_rng1 (L0 := [0]) rfl b_range (tr_wk (tr_var (i := 6) rfl rfl (by decide) (by decide)))) rfl (tg_name (i := 15) rfl rfl (by decide) (by decide)) (tts_one (tt_cmp (L0 := [0]) (ho_eq hu) rs_eq (tr_callT (i := 0) F__law_draw (hr.mono (by decide)) rfl rfl rfl (by decide) (ta_wk (ta_cons tr_int ta_nil (by decide))) (by decide) (by decide)) (tr_wk tr_int) (by decide) rfl)) (tr_wk (tr_var (i := 15) rfl rfl (by decide) (by decide))) (by decide) (by decide)) (by decide) (by decide) (by decide) (by decide))
  (sss_cons (O1 := [0, 5]) (ss_if (W := []) (tt_cmp (L0 := []) (ho_eq hu) rs_eq (tr_len (L0 := []) rfl b_len (ta_cons (tr_var (i := 11) rfl rfl (by decide) (by decide)) ta_nil (by decide))) tr_int (by decide) rfl) (sss_one (ss_setFu (W := [0]) (i := 11) (O' := [0, 5]) rfl rfl (tf_disp (ta_cons (tr_callT (i := 0) F__law_draw (hr.mono (by decide)) rfl rfl rfl (by decide) (ta_wk (ta_cons (tr_var (i := 6) rfl rfl (by decide) (by decide)) ta_nil (by decide))) (by decide) (by decide)) ta_nil (by decide)) (by decide)) (by decide) (by decide) (by decide) (by decide)))
  sss_nil (by decide))
  (sss_one (ss_app (W := [0]) (i := 5) rfl rfl (by decide) (tr_tup (ta_cons (tr_wk tr_str) (ta_cons (tr_ix (tr_wk tr_str) (tr_callT (i := 0) F__law_draw (hr.mono (by decide)) rfl rfl rfl (by decide) (ta_wk (ta_cons tr_int ta_nil (by decide))) (by decide) (by decide)) (by decide) (by decide)) (ta_cons (tr_wk (tr_var (i := 10) rfl rfl (by decide) (by decide))) (ta_cons (tr_wk (tr_var (i := 11) rfl rfl (by decide) (by decide))) ta_nil (by decide)) (by decide)) (by decide)) (by decide)) (by decide)) (by decide)))))
  (sss_one (ss_if (W := []) (tt_W (tw_and (tt_cmp (L0 := []) ho_gt rs_gt (tr_var (i := 8) rfl rfl (by decide) (by decide)) tr_int (by decide) rfl) (tw_and1 (tt_cmp (L0 := []) ho_gt rs_gt (tr_len (L0 := []) rfl b_len (ta_cons (tr_var (i := 4) rfl rfl (by decide) (by decide)) ta_nil (by decide))) tr_int (by decide) rfl)))) (sss_cons (O1 := [0, 5]) (ss_set (W := [0]) (i := 12) (O' := [0, 5]) rfl rfl (tr_ix (tr_wk (tr_F (by decide) (tf_lc [("k", 15)] (ti_E (by decide) (tr_var (i := 4) rfl rfl (by decide) (by decide))) rfl (tg_name (i := 15) rfl rfl (by decide) (by decide)) (tts_one (tt_cmp (L0 := []) (ho_ne hu) rs_ne (tr_var (i := 15) rfl rfl (by decide) (by decide)) (tr_var (i := 10) rfl rfl (by decide) (by decide)) (by decide) rfl)) (tr_var (i := 15) rfl rfl (by decide) (by decide)) (by decide) (by decide) (by decide)))) (tr_callT (i := 0) F__law_draw (hr.mono (by decide)) rfl rfl rfl (by decide) (ta_wk (ta_cons (tr_opS (L0 := []) ho_sub rs_sub (tr_len (L0 := []) rfl b_len (ta_cons (tr_var (i := 4) rfl rfl (by decide) (by decide)) ta_nil (by decide))) tr_int (by decide)) ta_nil (by decide))) (by decide) (by decide)) (by decide) (by decide)) (by decide) (by decide) (by decide) (by decide))
  (sss_one (ss_app (W := [0]) (i := 5) rfl rfl (by decide) (tr_tup (ta_cons (tr_wk tr_str) (ta_cons (tr_ix (tr_wk (tr_F (by decide) (tf_disp (ta_cons tr_str (ta_cons tr_str (ta_cons tr_str ta_nil (by decide)) (by decide)) (by decide)) (by decide)))) (tr_callT (i := 0) F__law_draw (hr.mono (by decide)) rfl rfl rfl (by decide) (ta_wk (ta_cons tr_int ta_nil (by decide))) (by decide) (by decide)) (by decide) (by decide)) (ta_cons (tr_wk (tr_F (by decide) (tf_disp (ta_cons (tr_var (i := 10) rfl rfl (by decide) (by decide)) (ta_cons (tr_var (i := 12) rfl rfl (by decide) (by decide)) ta_nil (by decide)) (by decide)) (by decide)))) ta_nil (by decide)) (by decide)) (by decide)) (by decide)) (by decide))))
  (sss_one (ss_app (W := [0]) (i := 5) rfl rfl (by decide) (tr_tup (ta_cons (tr_wk tr_str) (ta_cons (tr_ix (tr_wk (tr_F (by decide) (tf_disp (ta_cons tr_str (ta_cons tr_str (ta_cons tr_str (ta_cons tr_str (ta_cons tr_str (ta_cons tr_str (ta_cons tr_str ta_nil (by decide)) (by decide)) (by decide)) (by decide)) (by decide)) (by decide)) (by decide)) (by decide)))) (tr_callT (i := 0) F__law_draw (hr.mono (by decide)) rfl rfl rfl (by decide) (ta_wk (ta_cons tr_int ta_nil (by decide))) (by decide) (by decide)) (by decide) (by decide)) (ta_cons (tr_wk (tr_F (by decide) (tf_disp (ta_cons (tr_var (i := 10) rfl rfl (by decide) (by decide)) ta_nil (by decide)) (by decide)))) ta_nil (by decide)) (by decide)) (by decide)) (by decide)) (by decide))) (by decide))) (by decide))) (by decide))))
  sss_nil (by decide))) (by decide))))) (by decide)) (by decide) (by decide))
  (sss_free (L := [0]) (sss_cons (O1 := [0, 13]) (ss_setF (W := []) (i := 13) (O' := [0, 13]) rfl rfl (tf_list rfl b_list (tq_E (by decide) (tr_var (i := 4) rfl rfl (by decide) (by decide))) (by decide)) (by decide) (by decide) (by decide) (by decide))
  (sss_cons (O1 := [0, 13, 14]) (ss_setF (W := []) (i := 14) (O' := [0, 13, 14]) rfl rfl (tf_disp ta_nil (by decide)) (by decide) (by decide) (by decide) (by decide))
  (sss_cons (O1 := [0, 13, 14]) (ss_for (W := []) (vs := [15]) (ti_rng1 (L0 := []) rfl b_range (tr_len (L0 := []) rfl b_len (ta_cons (tr_var (i := 13) rfl rfl (by decide) (by decide)) ta_nil (by decide)))) (tg_name (i := 15) rfl rfl (by decide) (by decide)) (sss_forget [15] (sss_one (ss_app (W := [0, 13]) (i := 14) rfl rfl (by decide) (tr_popAt (L0 := [0, 13]) (i := 13) rfl rfl (by decide) (by decide) (tr_callT (i := 0) F__law_draw (hr.mono (by decide)) rfl rfl rfl (by decide) (ta_wk (ta_cons (tr_len (L0 := []) rfl b_len (ta_cons (tr_var (i := 13) rfl rfl (by decide) (by decide)) ta_nil (by decide))) ta_nil (by decide))) (by decide) (by decide)) (by decide) (by decide)) (by decide))) (by decide)) (by decide) (by decide))
  (sss_free (L := [0]) (sss_cons (O1 := [0]) (ss_lcu (W := [0]) (O' := [0]) (setLc_t (W := [0]) (i := 16) [("k", 15)] rfl rfl rfl (ti_rng1 (L0 := [0]) rfl b_range (tr_wk (tr_var (i := 6) rfl rfl (by decide) (by decide)))) rfl (tg_name (i := 15) rfl rfl (by decide) (by decide)) (tts_one (tt_cmp (L0 := [0]) ho_gt rs_gt (tr_callT (i := 0) F__law_draw (hr.mono (by decide)) rfl rfl rfl (by decide) (ta_wk (ta_cons tr_int ta_nil (by decide))) (by decide) (by decide)) (tr_wk tr_int) (by decide) rfl)) (tr_wk (tr_var (i := 15) rfl rfl (by decide) (by decide))) (by decide) (by decide)) (by decide) (by decide) (by decide) (by decide))
  (sss_cons (O1 := [0]) (ss_if (W := [0]) (tt_cmp (L0 := [0]) (ho_eq hu) rs_eq (tr_callT (i := 0) F__law_draw (hr.mono (by decide)) rfl rfl rfl (by decide) (ta_wk (ta_cons tr_int ta_nil (by decide))) (by decide) (by decide)) (tr_wk tr_int) (by decide) rfl) (sss_one (ss_setFu (W := []) (i := 16) (O' := [0]) rfl rfl (tf_rev (tb_E (by decide) (tr_var (i := 16) rfl rfl (by decide) (by decide))) (by decide)) (by decide) (by decide) (by decide) (by decide)))
  sss_nil (by decide))
  (sss_one (ss_ret (W := []) (tr_tup (ta_cons (tr_var (i := 1) rfl rfl (by decide) (by decide)) (ta_cons (tr_var (i := 5) rfl rfl (by decide) (by decide)) (ta_cons (tr_var (i := 14) rfl rfl (by decide) (by decide)) (ta_cons (tr_var (i := 16) rfl rfl (by decide) (by decide)) ta_nil (by decide)) (by decide)) (by decide)) (by decide)) (by decide)) (by decide))))) (by decide) (by decide))))) (by decide) (by decide))))))
/-! ### _law_signs -/
abbrev s__law_signs : Stmt := top 16
abbrev N__law_signs : List Str := ["row", "slot", "used", "at"]
theorem sc__law_signs : FnScope N__law_signs ["row", "slot", "used"] (defScope s__law_signs) := ⟨rfl, rfl, rfl, by decide +kernel, rfl, by decide +kernel, by decide +kernel⟩
def mb__law_signs : MM := (mSeq (mIf (xAnd (xT (xOp dEq (xOp dIx (xVar 0) (xC (.int 0))) (xC (.str "turn")))) (xT (xOp (dIn false) (xVar 1) (xOp dIx (xVar 0) (xC (.int 2)))))) (mSeq (mIf (xT (xOp dEq (xFn dLen (xaCons (xOp dIx (xVar 0) (xC (.int 2))) xaNil)) (xC (.int 1)))) (mRet (xOp dAdd (xOp dAdd (xC (.str "-")) (xDGet ["h", "s", "r", "x", "y", "z"] (xaCons (xC (.str "H")) (xaCons (xC (.str "S")) (xaCons (xC (.str "R")) (xaCons (xC (.str "X")) (xaCons (xC (.str "Y")) (xaCons (xC (.str "Z")) xaNil)))))) (xOp dIx (xVar 0) (xC (.int 1))))) (xC (.str "-"))))
  mSkip)
  (mSeq (mSet 3 (xMt dIndex (xOp dIx (xVar 0) (xC (.int 2))) (xaCons (xVar 1) xaNil)))
  (mRet (xOp dIx (xDGet ["cx", "cz", "sw"] (xaCons (xLst (xDisp (xaCons (xC (.str "-*-")) (xaCons (xC (.str "-+-")) xaNil)))) (xaCons (xLst (xDisp (xaCons (xC (.str "-*-")) (xaCons (xC (.str "-*-")) xaNil)))) (xaCons (xLst (xDisp (xaCons (xC (.str "-x-")) (xaCons (xC (.str "-x-")) xaNil)))) xaNil))) (xOp dIx (xVar 0) (xC (.int 1)))) (xVar 3)))))
  mSkip)
  (mSeq (mIf (xAnd (xT (xOp dEq (xOp dIx (xVar 0) (xC (.int 0))) (xC (.str "new")))) (xT (xOp dEq (xOp dIx (xVar 0) (xC (.int 1))) (xVar 1)))) (mRet (xC (.str "  |")))
  mSkip)
  (mSeq (mIf (xAnd (xT (xOp dEq (xOp dIx (xVar 0) (xC (.int 0))) (xC (.str "read")))) (xT (xOp dEq (xOp dIx (xVar 0) (xC (.int 1))) (xVar 1)))) (mRet (xC (.str "-M ")))
  mSkip)
  (mSeq (mIf (xAnd (xT (xOp dEq (xOp dIx (xVar 0) (xC (.int 0))) (xC (.str "fix")))) (xT (xOp dEq (xOp dIx (xVar 0) (xC (.int 2))) (xVar 1)))) (mRet (xOp dAdd (xOp dAdd (xC (.str "-")) (xDGet ["X", "Y", "Z"] (xaCons (xC (.str "x")) (xaCons (xC (.str "y")) (xaCons (xC (.str "z")) xaNil))) (xOp dIx (xVar 0) (xC (.int 1))))) (xC (.str "-"))))
  mSkip)
  (mSeq (mIf (xT (xOp (dIn false) (xVar 1) (xVar 2))) (mRet (xC (.str "---")))
  mSkip)
  (mRet (xC (.str "   "))))))))
def m__law_signs : List D → Option D := fnP 3 4 mb__law_signs
theorem ok__law_signs {f : Addr} {fd : FuncData} (F : FnP K "_law_signs" "_law_signs" s__law_signs f fd) (b_len : mg "len" = none) : FnOk P w K mg base CX0 1 f fd ["row", "slot", "used"] (spP K m__law_signs) :=
  fn_P F sc__law_signs rfl rfl fun A hr => have hu := u64 hr
  (sss_cons (O1 := []) (ss_if (W := []) (tt_W (tw_and (tt_cmp (L0 := []) (ho_eq hu) rs_eq (tr_ix (tr_var (i := 0) rfl rfl (by decide) (by decide)) tr_int (by decide) (by decide)) tr_str (by decide) rfl) (tw_and1 (tt_cmp (L0 := []) ho_in (rs_in false) (tr_var (i := 1) rfl rfl (by decide) (by decide)) (tr_ix (tr_var (i := 0) rfl rfl (by decide) (by decide)) tr_int (by decide) (by decide)) (by decide) rfl)))) (sss_cons (O1 := []) (ss_if (W := []) (tt_cmp (L0 := []) (ho_eq hu) rs_eq (tr_len (L0 := []) rfl b_len (ta_cons (tr_ix (tr_var (i := 0) rfl rfl (by decide) (by decide)) tr_int (by decide) (by decide)) ta_nil (by decide))) tr_int (by decide) rfl) (sss_one (ss_ret (W := []) (tr_opS (L0 := []) ho_add rs_add (tr_opS (L0 := []) ho_add rs_add tr_str (tr_dget (L0 := []) hu (tp_cons tr_str (tp_cons tr_str (tp_cons tr_str (tp_cons tr_str (tp_cons tr_str (tp_cons tr_str tp_nil (by decide)) (by decide)) (by decide)) (by decide)) (by decide)) (by decide)) (tr_ix (tr_var (i := 0) rfl rfl (by decide) (by decide)) tr_int (by decide) (by decide)) (by decide) (by decide)) (by decide)) tr_str (by decide)) (by decide)))
  sss_nil (by decide))
  (sss_cons (O1 := []) (ss_set (W := []) (i := 3) (O' := []) rfl rfl (tr_index (L0 := []) (tr_ix (tr_var (i := 0) rfl rfl (by decide) (by decide)) tr_int (by decide) (by decide)) (ta_cons (tr_var (i := 1) rfl rfl (by decide) (by decide)) ta_nil (by decide)) (by decide)) (by decide) (by decide) (by decide) (by decide))
  (sss_one (ss_ret (W := []) (tr_ix (tr_dget (L0 := []) hu (tp_cons (tr_F (by decide) (tf_disp (ta_cons tr_str (ta_cons tr_str ta_nil (by decide)) (by decide)) (by decide))) (tp_cons (tr_F (by decide) (tf_disp (ta_cons tr_str (ta_cons tr_str ta_nil (by decide)) (by decide)) (by decide))) (tp_cons (tr_F (by decide) (tf_disp (ta_cons tr_str (ta_cons tr_str ta_nil (by decide)) (by decide)) (by decide))) tp_nil (by decide)) (by decide)) (by decide)) (tr_ix (tr_var (i := 0) rfl rfl (by decide) (by decide)) tr_int (by decide) (by decide)) (by decide) (by decide)) (tr_var (i := 3) rfl rfl (by decide) (by decide)) (by decide) (by decide)) (by decide)))))
  sss_nil (by decide))
  (sss_cons (O1 := []) (ss_if (W := []) (tt_W (tw_and (tt_cmp (L0 := []) (ho_eq hu) rs_eq (tr_ix (tr_var (i := 0) rfl rfl (by decide) (by decide)) tr_int (by decide) (by decide)) tr_str (by decide) rfl) (tw_and1 (tt_cmp (L0 := []) (ho_eq hu) rs_eq (tr_ix (tr_var (i := 0) rfl rfl (by decide) (by decide)) tr_int (by decide) (by decide)) (tr_var (i := 1) rfl rfl (by decide) (by decide)) (by decide) rfl)))) (sss_one (ss_ret (W := []) tr_str (by decide)))
  sss_nil (by decide))
  (sss_cons (O1 := []) (ss_if (W := []) (tt_W (tw_and (tt_cmp (L0 := []) (ho_eq hu) rs_eq (tr_ix (tr_var (i := 0) rfl rfl (by decide) (by decide)) tr_int (by decide) (by decide)) tr_str (by decide) rfl) (tw_and1 (tt_cmp (L0 := []) (ho_eq hu) rs_eq (tr_ix (tr_var (i := 0) rfl rfl (by decide) (by decide)) tr_int (by decide) (by decide)) (tr_var (i := 1) rfl rfl (by decide) (by decide)) (by decide) rfl)))) (sss_one (ss_ret (W := []) tr_str (by decide)))
  sss_nil (by decide))
  (sss_cons (O1 := []) (ss_if (W := []) (tt_W (tw_and (tt_cmp (L0 := []) (ho_eq hu) rs_eq (tr_ix (tr_var (i := 0) rfl rfl (by decide) (by decide)) tr_int (by decide) (by decide)) tr_str (by decide) rfl) (tw_and1 (tt_cmp (L0 := []) (ho_eq hu) rs_eq (tr_ix (tr_var (i := 0) rfl rfl (by decide) (by decide)) tr_int (by decide) (by decide)) (tr_var (i := 1) rfl rfl (by decide) (by decide)) (by decide) rfl)))) (sss_one (ss_ret (W := []) (tr_opS (L0 := []) ho_add rs_add (tr_opS (L0 := []) ho_add rs_add tr_str (tr_dget (L0 := []) hu (tp_cons tr_str (tp_cons tr_str (tp_cons tr_str tp_nil (by decide)) (by decide)) (by decide)) (tr_ix (tr_var (i := 0) rfl rfl (by decide) (by decide)) tr_int (by decide) (by decide)) (by decide) (by decide)) (by decide)) tr_str (by decide)) (by decide)))
  sss_nil (by decide))
  (sss_cons (O1 := []) (ss_if (W := []) (tt_cmp (L0 := []) ho_in (rs_in false) (tr_var (i := 1) rfl rfl (by decide) (by decide)) (tr_var (i := 2) rfl rfl (by decide) (by decide)) (by decide) rfl) (sss_one (ss_ret (W := []) tr_str (by decide)))
  sss_nil (by decide))
  (sss_one (ss_ret (W := []) tr_str (by decide))))))))
/-! ### _law_read_again -/
abbrev s__law_read_again : Stmt := top 17
abbrev N__law_read_again : List Str := ["lines", "count", "rows", "k", "signs", "told", "line", "pair"]
theorem sc__law_read_again : FnScope N__law_read_again ["lines", "count"] (defScope s__law_read_again) := ⟨rfl, rfl, rfl, by decide +kernel, rfl, by decide +kernel, by decide +kernel⟩
def mb__law_read_again : MM := (mSeq (mSetF 2 (xDisp xaNil))
  (mSeq (mFor (xRg1 (xVar 1)) (bName 3) (mForget [3, 4, 5] (mSeq (mSet 4 (xLst (xLc (xSeq (xVar 0)) [6] (bName 6) xYes (xTup (xaCons (xOp dIx (xVar 6) (xC (.int 0))) (xaCons (xSlS (xVar 6) (xoSome (xOp dAdd (xC (.int 2)) (xOp dMul (xC (.int 3)) (xVar 3)))) (xoSome (xOp dAdd (xC (.int 5)) (xOp dMul (xC (.int 3)) (xVar 3))))) xaNil))))))
  (mSeq (mSet 5 (xLst (xLc (xSeq (xVar 4)) [7] (bName 7) (xT (xOp (dIn true) (xOp dIx (xVar 7) (xC (.int 1))) (xLst (xDisp (xaCons (xC (.str "---")) (xaCons (xC (.str "   ")) xaNil)))))) (xVar 7))))
  (mApp 2 (xVar 5))))))
  (mRet (xLst (xOwn 2)))))
def m__law_read_again : List D → Option (List D) := fnL 2 8 mb__law_read_again
theorem ok__law_read_again {f : Addr} {fd : FuncData} (F : FnP K "_law_read_again" "_law_read_again" s__law_read_again f fd) (b_range : mg "range" = none) : FnOk P w K mg base CX0 1 f fd ["lines", "count"] (spL K m__law_read_again) :=
  fn_L F sc__law_read_again rfl rfl fun A hr => have hu := u64 hr
  (sss_cons (O1 := [2]) (ss_setF (W := []) (i := 2) (O' := [2]) rfl rfl (tf_disp ta_nil (by decide)) (by decide) (by decide) (by decide) (by decide))
  (sss_cons (O1 := [2]) (ss_for (W := []) (vs := [3]) (ti_rng1 (L0 := []) rfl b_range (tr_var (i := 1) rfl rfl (by decide) (by decide))) (tg_name (i := 3) rfl rfl (by decide) (by decide)) (sss_forget [3, 4, 5] (sss_cons (O1 := [2]) (ss_lcu (W := []) (O' := [2]) (setLc_t (W := []) (i := 4) [("line", 6)] rfl rfl rfl (ti_E (by decide) (tr_var (i := 0) rfl rfl (by decide) (by decide))) rfl (tg_name (i := 6) rfl rfl (by decide) (by decide)) tts_nil (tr_tup (ta_cons (tr_ix (tr_var (i := 6) rfl rfl (by decide) (by decide)) tr_int (by decide) (by decide)) (ta_cons (tr_sliceS (L0 := []) (tr_var (i := 6) rfl rfl (by decide) (by decide)) (to_some (L0 := []) (tr_opS (L0 := []) ho_add rs_add tr_int (tr_opS (L0 := []) ho_mul rs_mul tr_int (tr_var (i := 3) rfl rfl (by decide) (by decide)) (by decide)) (by decide))) (to_some (L0 := []) (tr_opS (L0 := []) ho_add rs_add tr_int (tr_opS (L0 := []) ho_mul rs_mul tr_int (tr_var (i := 3) rfl rfl (by decide) (by decide)) (by decide)) (by decide)))) ta_nil (by decide)) (by decide)) (by decide)) (by decide) (by decide)) (by decide) (by decide) (by decide) (by decide))
  (sss_cons (O1 := [2]) (ss_lcu (W := []) (O' := [2]) (setLc_t (W := []) (i := 5) [("pair", 7)] rfl rfl rfl (ti_E (by decide) (tr_var (i := 4) rfl rfl (by decide) (by decide))) rfl (tg_name (i := 7) rfl rfl (by decide) (by decide)) (tts_one (tt_cmp (L0 := []) ho_nin (rs_in true) (tr_ix (tr_var (i := 7) rfl rfl (by decide) (by decide)) tr_int (by decide) (by decide)) (tr_F (by decide) (tf_disp (ta_cons tr_str (ta_cons tr_str ta_nil (by decide)) (by decide)) (by decide))) (by decide) rfl)) (tr_var (i := 7) rfl rfl (by decide) (by decide)) (by decide) (by decide)) (by decide) (by decide) (by decide) (by decide))
  (sss_one (ss_app (W := []) (i := 2) rfl rfl (by decide) (tr_var (i := 5) rfl rfl (by decide) (by decide)) (by decide))))) (by decide)) (by decide) (by decide))
  (sss_one (ss_retO (i := 2) rfl rfl (by decide) (by decide)))))
/-! ### _law_told -/
abbrev s__law_told : Stmt := top 18
abbrev N__law_told : List Str := ["row", "slot"]
theorem sc__law_told : FnScope N__law_told ["row"] (defScope s__law_told) := ⟨rfl, rfl, rfl, by decide +kernel, rfl, by decide +kernel, by decide +kernel⟩
def mb__law_told : MM := (mSeq (mIf (xT (xOp dEq (xOp dIx (xVar 0) (xC (.int 0))) (xC (.str "turn")))) (mRetF (xfMap dSorted (xLc (xSeq (xOp dIx (xVar 0) (xC (.int 2)))) [1] (bName 1) xYes (xFn dStr (xaCons (xVar 1) xaNil)))))
  mSkip)
  (mSeq (mIf (xT (xOp dEq (xOp dIx (xVar 0) (xC (.int 0))) (xC (.str "fix")))) (mRetF (xDisp (xaCons (xFn dStr (xaCons (xOp dIx (xVar 0) (xC (.int 2))) xaNil)) xaNil)))
  mSkip)
  (mRetF (xDisp (xaCons (xFn dStr (xaCons (xOp dIx (xVar 0) (xC (.int 1))) xaNil)) xaNil)))))
def m__law_told : List D → Option (List D) := fnL 1 2 mb__law_told
theorem ok__law_told {f : Addr} {fd : FuncData} (F : FnP K "_law_told" "_law_told" s__law_told f fd) (b_sorted : mg "sorted" = none) (b_str : mg "str" = none) : FnOk P w K mg base CX0 1 f fd ["row"] (spL K m__law_told) :=
  fn_L F sc__law_told rfl rfl fun A hr => have hu := u64 hr
  (sss_cons (O1 := []) (ss_if (W := []) (tt_cmp (L0 := []) (ho_eq hu) rs_eq (tr_ix (tr_var (i := 0) rfl rfl (by decide) (by decide)) tr_int (by decide) (by decide)) tr_str (by decide) rfl) (sss_one (ss_retF (W := []) (tf_sorted (L0 := []) rfl b_sorted (tb_F (by decide) (tf_lc [("slot", 1)] (ti_E (by decide) (tr_ix (tr_var (i := 0) rfl rfl (by decide) (by decide)) tr_int (by decide) (by decide))) rfl (tg_name (i := 1) rfl rfl (by decide) (by decide)) tts_nil (tr_strC (L0 := []) rfl b_str (ta_cons (tr_var (i := 1) rfl rfl (by decide) (by decide)) ta_nil (by decide))) (by decide) (by decide) (by decide))) (by decide)) (by decide)))
  sss_nil (by decide))
  (sss_cons (O1 := []) (ss_if (W := []) (tt_cmp (L0 := []) (ho_eq hu) rs_eq (tr_ix (tr_var (i := 0) rfl rfl (by decide) (by decide)) tr_int (by decide) (by decide)) tr_str (by decide) rfl) (sss_one (ss_retF (W := []) (tf_disp (ta_cons (tr_strC (L0 := []) rfl b_str (ta_cons (tr_ix (tr_var (i := 0) rfl rfl (by decide) (by decide)) tr_int (by decide) (by decide)) ta_nil (by decide))) ta_nil (by decide)) (by decide)) (by decide)))
  sss_nil (by decide))
  (sss_one (ss_retF (W := []) (tf_disp (ta_cons (tr_strC (L0 := []) rfl b_str (ta_cons (tr_ix (tr_var (i := 0) rfl rfl (by decide) (by decide)) tr_int (by decide) (by decide)) ta_nil (by decide))) ta_nil (by decide)) (by decide)) (by decide)))))
/-! ### law -/
abbrev s_law : Stmt := top 19
abbrev N_law : List Str := ["script", "feed", "turn", "core", "handed", "text", "ever", "row", "due", "slot", "line", "k", "again", "used", "pair"]
theorem sc_law : FnScope N_law ["script"] (defScope s_law) := ⟨rfl, rfl, rfl, by decide +kernel, rfl, by decide +kernel, by decide +kernel⟩
def mb_law : MM := (mSeq (mSetF 1 (xfMap m__law_feed (xaCons (xVar 0) xaNil)))
  (mSeq (mFor (xRg1 (xC (.int 3))) (bName 2) (mForget [2, 3, 4, 5, 6, 7, 8, 9, 10, 11, 12, 13] (mSeq (mSet 3 (xCallT 1 m__law_core (xaCons (xCallT 1 m__law_draw (xaCons (xC (.int 4)) xaNil)) (xaCons (xC (.int 4)) (xaCons (xC (.int 16)) xaNil)))))
  (mSeq (mSet 4 (xTup (xaCons (xOp dIx (xVar 3) (xC (.int 0))) (xaCons (xLst (xSeq (xOp dIx (xVar 3) (xC (.int 1))))) (xaCons (xLst (xSeq (xOp dIx (xVar 3) (xC (.int 2))))) (xaCons (xLst (xSeq (xOp dIx (xVar 3) (xC (.int 3))))) xaNil))))))
  (mSeq (mSet 5 (xFn m_draw_core (xaCons (xVar 4) xaNil)))
  (mSeq (mSetF 6 (xLc (xRg1 (xOp dIx (xVar 3) (xC (.int 0)))) [11] (bName 11) xYes (xVar 11)))
  (mSeq (mFor (xSeq (xOp dIx (xVar 3) (xC (.int 1)))) (bName 7) (mForget [7] (mIf (xAnd (xT (xOp dEq (xOp dIx (xVar 7) (xC (.int 0))) (xC (.str "new")))) (xT (xOp (dIn true) (xOp dIx (xVar 7) (xC (.int 1))) (xVar 6)))) (mApp 6 (xOp dIx (xVar 7) (xC (.int 1))))
  mSkip)))
  (mSeq (mSetF 8 (xDisp xaNil))
  (mSeq (mFor (xfMap dSorted (xList (xVar 6))) (bName 9) (mForget [9, 10, 11] (mSeq (mSet 10 (xOp dAdd (xFn dStr (xaCons (xVar 9) xaNil)) (xC (.str ":"))))
  (mSeq (mFor (xRg1 (xFn dLen (xaCons (xOp dIx (xVar 3) (xC (.int 1))) xaNil))) (bName 11) (mForget [11] (mSet 10 (xOp dAdd (xVar 10) (xFn m__law_signs (xaCons (xOp dIx (xOp dIx (xVar 3) (xC (.int 1))) (xVar 11)) (xaCons (xVar 9) (xaCons (xFn m_slots_after (xaCons (xVar 3) (xaCons (xVar 11) xaNil))) xaNil))))))))
  (mApp 8 (xVar 10))))))
  (mSeq (mIf (xOr (xT (xOp dNe (xVar 5) (xMt dJoin (xC (.str "\n")) (xaCons (xVar 8) xaNil)))) (xT (xOp dNe (xVar 4) (xVar 3)))) (mRet (xC (.bool false)))
  mSkip)
  (mIf (xT (xOp dGt (xFn dLen (xaCons (xVar 6) xaNil)) (xC (.int 0)))) (mSeq (mSet 12 (xLst (xfMap m__law_read_again (xaCons (xLst (xfMt (fun d ds => (dSplit d ds).map (·.map PyData.str)) (xVar 5) (xaCons (xC (.str "\n")) xaNil))) (xaCons (xFn dLen (xaCons (xOp dIx (xVar 3) (xC (.int 1))) xaNil)) xaNil)))))
  (mFor (xRg1 (xFn dLen (xaCons (xOp dIx (xVar 3) (xC (.int 1))) xaNil))) (bName 11) (mForget [10, 11, 13] (mSeq (mIf (xT (xOp dNe (xLst (xfMap dSorted (xLc (xSeq (xOp dIx (xVar 12) (xVar 11))) [14] (bName 14) xYes (xOp dIx (xVar 14) (xC (.int 0)))))) (xLst (xfMap m__law_told (xaCons (xOp dIx (xOp dIx (xVar 3) (xC (.int 1))) (xVar 11)) xaNil))))) (mRet (xC (.bool false)))
  mSkip)
  (mSeq (mSet 13 (xLst (xLc (xfMt (fun d ds => (dSplit d ds).map (·.map PyData.str)) (xVar 5) (xaCons (xC (.str "\n")) xaNil)) [10] (bName 10) (xT (xOp (dIn true) (xSlS (xVar 10) (xoSome (xOp dAdd (xC (.int 2)) (xOp dMul (xC (.int 3)) (xVar 11)))) (xoSome (xOp dAdd (xC (.int 5)) (xOp dMul (xC (.int 3)) (xVar 11))))) (xLst (xDisp (xaCons (xC (.str "   ")) (xaCons (xC (.str "  |")) xaNil)))))) (xFn dInt (xaCons (xOp dIx (xVar 10) (xC (.int 0))) xaNil)))))
  (mIf (xT (xOp dNe (xVar 13) (xFn m_slots_after (xaCons (xVar 3) (xaCons (xVar 11) xaNil))))) (mRet (xC (.bool false)))
  mSkip))))))
  mSkip)))))))))))
  (mRet (xAndV (xT (xOp dEq (xFn m_draw_core (xaCons (xTup (xaCons (xC (.int 1)) (xaCons (xLst (xDisp (xaCons (xTup (xaCons (xC (.str "new")) (xaCons (xC (.int 2)) xaNil))) (xaCons (xTup (xaCons (xC (.str "turn")) (xaCons (xC (.str "cx")) (xaCons (xLst (xDisp (xaCons (xC (.int 2)) (xaCons (xC (.int 0)) xaNil)))) xaNil)))) (xaCons (xTup (xaCons (xC (.str "read")) (xaCons (xC (.int 0)) (xaCons (xC (.int 0)) xaNil)))) (xaCons (xTup (xaCons (xC (.str "fix")) (xaCons (xC (.str "X")) (xaCons (xC (.int 2)) (xaCons (xLst (xDisp (xaCons (xC (.int 0)) xaNil))) xaNil))))) xaNil)))))) (xaCons (xLst (xDisp (xaCons (xC (.int 2)) xaNil))) (xaCons (xLst (xDisp xaNil)) xaNil))))) xaNil)) (xC (.str "0:----+--M    \n2:  |-*-----x-")))) (xOp dEq (xFn m_draw_core (xaCons (xTup (xaCons (xC (.int 0)) (xaCons (xLst (xDisp xaNil)) (xaCons (xLst (xDisp xaNil)) (xaCons (xLst (xDisp xaNil)) xaNil))))) xaNil)) (xC (.str "")))))))
def m_law : List D → Option D := fnP 1 15 mb_law
theorem ok_law {f : Addr} {fd : FuncData} (F : FnP K "law" "law" s_law f fd) (b_range : mg "range" = none) (b_list : mg "list" = none) (b_sorted : mg "sorted" = none) (b_str : mg "str" = none) (b_len : mg "len" = none) (b_int : mg "int" = none) (F__law_feed : FnAt P w K mg base 1 "_law_feed" ["script"] (spL K m__law_feed)) (F__law_core : FnAt P w K mg base 2 "_law_core" ["feed", "ins", "wide", "most"] (spT K m__law_core)) (F__law_draw : FnAt P w K mg base 1 "_law_draw" ["feed", "many"] (spT K m__law_draw)) (F_draw_core : FnAt P w K mg base 3 "draw_core" ["core"] (spP K m_draw_core)) (F__law_signs : FnAt P w K mg base 1 "_law_signs" ["row", "slot", "used"] (spP K m__law_signs)) (F_slots_after : FnAt P w K mg base 2 "slots_after" ["core", "k"] (spP K m_slots_after)) (F__law_read_again : FnAt P w K mg base 1 "_law_read_again" ["lines", "count"] (spL K m__law_read_again)) (F__law_told : FnAt P w K mg base 1 "_law_told" ["row"] (spL K m__law_told)) : FnOk P w K mg base CX0 4 f fd ["script"] (spP K m_law) :=
  fn_P F sc_law rfl rfl fun A hr => have hu := u64 hr
  (sss_cons (O1 := [1]) (ss_setF (W := []) (i := 1) (O' := [1]) rfl rfl (tf_call F__law_feed (hr.mono (by decide)) rfl (ta_cons (tr_var (i := 0) rfl rfl (by decide) (by decide)) ta_nil (by decide)) (by decide) (by decide)) (by decide) (by decide) (by decide) (by decide))
  (sss_cons (O1 := [1]) (ss_for (W := []) (vs := [2]) (ti_rng1 (L0 := []) rfl b_range tr_int) (tg_name (i := 2) rfl rfl (by decide) (by decide)) (sss_forget [2, 3, 4, 5, 6, 7, 8, 9, 10, 11, 12, 13] (sss_cons (O1 := [1]) (ss_set (W := [1]) (i := 3) (O' := [1]) rfl rfl (tr_callT (i := 1) F__law_core (hr.mono (by decide)) rfl rfl rfl (by decide) (ta_cons (tr_callT (i := 1) F__law_draw (hr.mono (by decide)) rfl rfl rfl (by decide) (ta_wk (ta_cons tr_int ta_nil (by decide))) (by decide) (by decide)) (ta_cons (tr_wk tr_int) (ta_cons (tr_wk tr_int) ta_nil (by decide)) (by decide)) (by decide)) (by decide) (by decide)) (by decide) (by decide) (by decide) (by decide))
  (sss_cons (O1 := [1]) (ss_set (W := []) (i := 4) (O' := [1]) rfl rfl (tr_tup (ta_cons (tr_ix (tr_var (i := 3) rfl rfl (by decide) (by decide)) tr_int (by decide) (by decide)) (ta_cons (tr_F (by decide) (tf_list rfl b_list (tq_E (by decide) (tr_ix (tr_var (i := 3) rfl rfl (by decide) (by decide)) tr_int (by decide) (by decide))) (by decide))) (ta_cons (tr_F (by decide) (tf_list rfl b_list (tq_E (by decide) (tr_ix (tr_var (i := 3) rfl rfl (by decide) (by decide)) tr_int (by decide) (by decide))) (by decide))) (ta_cons (tr_F (by decide) (tf_list rfl b_list (tq_E (by decide) (tr_ix (tr_var (i := 3) rfl rfl (by decide) (by decide)) tr_int (by decide) (by decide))) (by decide))) ta_nil (by decide)) (by decide)) (by decide)) (by decide)) (by decide)) (by decide) (by decide) (by decide) (by decide))
  (sss_cons (O1 := [1]) (ss_set (W := []) (i := 5) (O' := [1]) rfl rfl (tr_call F_draw_core (hr.mono (by decide)) rfl (ta_cons (tr_var (i := 4) rfl rfl (by decide) (by decide)) ta_nil (by decide)) (by decide)) (by decide) (by decide) (by decide) (by decide))
  (sss_cons (O1 := [1, 6]) (ss_lc (W := []) (O' := [1, 6]) (setLc_t (W := []) (i := 6) [("k", 11)] rfl rfl rfl (ti_rng1 (L0 := []) rfl b_range (tr_ix (tr_var (i := 3) rfl rfl (by decide) (by decide)) tr_int (by decide) (by decide))) rfl (tg_name (i := 11) rfl rfl (by decide) (by decide)) tts_nil (tr_var (i := 11) rfl rfl (by decide) (by decide)) (by decide) (by decide)) (by decide) (by decide) (by decide) (by decide))
  (sss_cons (O1 := [1, 6]) (ss_for (W := []) (vs := [7]) (ti_E (by decide) (tr_ix (tr_var (i := 3) rfl rfl (by decide) (by decide)) tr_int (by decide) (by decide))) (tg_name (i := 7) rfl rfl (by decide) (by decide)) (sss_forget [7] (sss_one (ss_if (W := []) (tt_W (tw_and (tt_cmp (L0 := []) (ho_eq hu) rs_eq (tr_ix (tr_var (i := 7) rfl rfl (by decide) (by decide)) tr_int (by decide) (by decide)) tr_str (by decide) rfl) (tw_and1 (tt_cmp (L0 := []) ho_nin (rs_in true) (tr_ix (tr_var (i := 7) rfl rfl (by decide) (by decide)) tr_int (by decide) (by decide)) (tr_var (i := 6) rfl rfl (by decide) (by decide)) (by decide) rfl)))) (sss_one (ss_app (W := []) (i := 6) rfl rfl (by decide) (tr_ix (tr_var (i := 7) rfl rfl (by decide) (by decide)) tr_int (by decide) (by decide)) (by decide)))
  sss_nil (by decide))) (by decide)) (by decide) (by decide))
  (sss_free (L := [1]) (sss_cons (O1 := [1, 8]) (ss_setF (W := []) (i := 8) (O' := [1, 8]) rfl rfl (tf_disp ta_nil (by decide)) (by decide) (by decide) (by decide) (by decide))
  (sss_cons (O1 := [1, 8]) (ss_for (W := []) (vs := [9]) (ti_F (tf_sorted (L0 := []) rfl b_sorted (tb_E (by decide) (tr_var (i := 6) rfl rfl (by decide) (by decide))) (by decide))) (tg_name (i := 9) rfl rfl (by decide) (by decide)) (sss_forget [9, 10, 11] (sss_cons (O1 := [1, 8]) (ss_set (W := []) (i := 10) (O' := [1, 8]) rfl rfl (tr_opS (L0 := []) ho_add rs_add (tr_strC (L0 := []) rfl b_str (ta_cons (tr_var (i := 9) rfl rfl (by decide) (by decide)) ta_nil (by decide))) tr_str (by decide)) (by decide) (by decide) (by decide) (by decide))
  (sss_cons (O1 := [1, 8]) (ss_for (W := []) (vs := [11]) (ti_rng1 (L0 := []) rfl b_range (tr_len (L0 := []) rfl b_len (ta_cons (tr_ix (tr_var (i := 3) rfl rfl (by decide) (by decide)) tr_int (by decide) (by decide)) ta_nil (by decide)))) (tg_name (i := 11) rfl rfl (by decide) (by decide)) (sss_forget [11] (sss_one (ss_set (W := []) (i := 10) (O' := [1, 8]) rfl rfl (tr_opS (L0 := []) ho_add rs_add (tr_var (i := 10) rfl rfl (by decide) (by decide)) (tr_call F__law_signs (hr.mono (by decide)) rfl (ta_cons (tr_ix (tr_ix (tr_var (i := 3) rfl rfl (by decide) (by decide)) tr_int (by decide) (by decide)) (tr_var (i := 11) rfl rfl (by decide) (by decide)) (by decide) (by decide)) (ta_cons (tr_var (i := 9) rfl rfl (by decide) (by decide)) (ta_cons (tr_call F_slots_after (hr.mono (by decide)) rfl (ta_cons (tr_var (i := 3) rfl rfl (by decide) (by decide)) (ta_cons (tr_var (i := 11) rfl rfl (by decide) (by decide)) ta_nil (by decide)) (by decide)) (by decide)) ta_nil (by decide)) (by decide)) (by decide)) (by decide)) (by decide)) (by decide) (by decide) (by decide) (by decide))) (by decide)) (by decide) (by decide))
  (sss_one (ss_app (W := []) (i := 8) rfl rfl (by decide) (tr_var (i := 10) rfl rfl (by decide) (by decide)) (by decide))))) (by decide)) (by decide) (by decide))
  (sss_free (L := [1]) (sss_cons (O1 := [1]) (ss_if (W := []) (tt_W (tw_or (tt_cmp (L0 := []) (ho_ne hu) rs_ne (tr_var (i := 5) rfl rfl (by decide) (by decide)) (tr_join (L0 := []) tr_str (ta_cons (tr_var (i := 8) rfl rfl (by decide) (by decide)) ta_nil (by decide)) (by decide)) (by decide) rfl) (tw_or1 (tt_cmp (L0 := []) (ho_ne hu) rs_ne (tr_var (i := 4) rfl rfl (by decide) (by decide)) (tr_var (i := 3) rfl rfl (by decide) (by decide)) (by decide) rfl)))) (sss_free (L := []) (sss_one (ss_ret (W := []) tr_bl (by decide))) (by decide) (by decide))
  sss_nil (by decide))
  (sss_one (ss_if (W := []) (tt_cmp (L0 := []) ho_gt rs_gt (tr_len (L0 := []) rfl b_len (ta_cons (tr_var (i := 6) rfl rfl (by decide) (by decide)) ta_nil (by decide))) tr_int (by decide) rfl) (sss_cons (O1 := [1]) (ss_setFu (W := []) (i := 12) (O' := [1]) rfl rfl (tf_call F__law_read_again (hr.mono (by decide)) rfl (ta_cons (tr_F (by decide) (tf_split (L0 := []) (tr_var (i := 5) rfl rfl (by decide) (by decide)) (ta_cons tr_str ta_nil (by decide)) (by decide) (by decide))) (ta_cons (tr_len (L0 := []) rfl b_len (ta_cons (tr_ix (tr_var (i := 3) rfl rfl (by decide) (by decide)) tr_int (by decide) (by decide)) ta_nil (by decide))) ta_nil (by decide)) (by decide)) (by decide) (by decide)) (by decide) (by decide) (by decide) (by decide))
  (sss_one (ss_for (W := []) (vs := [11]) (ti_rng1 (L0 := []) rfl b_range (tr_len (L0 := []) rfl b_len (ta_cons (tr_ix (tr_var (i := 3) rfl rfl (by decide) (by decide)) tr_int (by decide) (by decide)) ta_nil (by decide)))) (tg_name (i := 11) rfl rfl (by decide) (by decide)) (sss_forget [10, 11, 13] (sss_cons (O1 := [1]) (ss_if (W := []) (tt_cmp (L0 := []) (ho_ne hu) rs_ne (tr_F (by decide) (tf_sorted (L0 := []) rfl b_sorted (tb_F (by decide) (tf_lc [("pair", 14)] (ti_E (by decide) (tr_ix (tr_var (i := 12) rfl rfl (by decide) (by decide)) (tr_var (i := 11) rfl rfl (by decide) (by decide)) (by decide) (by decide))) rfl (tg_name (i := 14) rfl rfl (by decide) (by decide)) tts_nil (tr_ix (tr_var (i := 14) rfl rfl (by decide) (by decide)) tr_int (by decide) (by decide)) (by decide) (by decide) (by decide))) (by decide))) (tr_F (by decide) (tf_call F__law_told (hr.mono (by decide)) rfl (ta_cons (tr_ix (tr_ix (tr_var (i := 3) rfl rfl (by decide) (by decide)) tr_int (by decide) (by decide)) (tr_var (i := 11) rfl rfl (by decide) (by decide)) (by decide) (by decide)) ta_nil (by decide)) (by decide) (by decide))) (by decide) rfl) (sss_free (L := []) (sss_one (ss_ret (W := []) tr_bl (by decide))) (by decide) (by decide))
  sss_nil (by decide))
  (sss_cons (O1 := [1]) (ss_lcu (W := []) (O' := [1]) (setLc_t (W := []) (i := 13) [("line", 10)] rfl rfl rfl (ti_F (tf_split (L0 := []) (tr_var (i := 5) rfl rfl (by decide) (by decide)) (ta_cons tr_str ta_nil (by decide)) (by decide) (by decide))) rfl (tg_name (i := 10) rfl rfl (by decide) (by decide)) (tts_one (tt_cmp (L0 := []) ho_nin (rs_in true) (tr_sliceS (L0 := []) (tr_var (i := 10) rfl rfl (by decide) (by decide)) (to_some (L0 := []) (tr_opS (L0 := []) ho_add rs_add tr_int (tr_opS (L0 := []) ho_mul rs_mul tr_int (tr_var (i := 11) rfl rfl (by decide) (by decide)) (by decide)) (by decide))) (to_some (L0 := []) (tr_opS (L0 := []) ho_add rs_add tr_int (tr_opS (L0 := []) ho_mul rs_mul tr_int (tr_var (i := 11) rfl rfl (by decide) (by decide)) (by decide)) (by decide)))) (tr_F (by decide) (tf_disp (ta_cons tr_str (ta_cons tr_str ta_nil (by decide)) (by decide)) (by decide))) (by decide) rfl)) (tr_intC (L0 := []) rfl b_int (ta_cons (tr_ix (tr_var (i := 10) rfl rfl (by decide) (by decide)) tr_int (by decide) (by decide)) ta_nil (by decide))) (by decide) (by decide)) (by decide) (by decide) (by decide) (by decide))
  (sss_one (ss_if (W := []) (tt_cmp (L0 := []) (ho_ne hu) rs_ne (tr_var (i := 13) rfl rfl (by decide) (by decide)) (tr_call F_slots_after (hr.mono (by decide)) rfl (ta_cons (tr_var (i := 3) rfl rfl (by decide) (by decide)) (ta_cons (tr_var (i := 11) rfl rfl (by decide) (by decide)) ta_nil (by decide)) (by decide)) (by decide)) (by decide) rfl) (sss_free (L := []) (sss_one (ss_ret (W := []) tr_bl (by decide))) (by decide) (by decide))
  sss_nil (by decide))))) (by decide)) (by decide) (by decide))))
  sss_nil (by decide)))) (by decide) (by decide)))) (by decide) (by decide))))))) (by decide)) (by decide) (by decide))
  (sss_free (L := []) (sss_one (ss_ret (W := []) (tr_and (L0 := []) (tr_cmp (L0 := []) (ho_eq hu) rs_eq (tr_call F_draw_core (hr.mono (by decide)) rfl (ta_cons (tr_tup (ta_cons tr_int (ta_cons (tr_F (by decide) (tf_disp (ta_cons (tr_tup (ta_cons tr_str (ta_cons tr_int ta_nil (by decide)) (by decide)) (by decide)) (ta_cons (tr_tup (ta_cons tr_str (ta_cons tr_str (ta_cons (tr_F (by decide) (tf_disp (ta_cons tr_int (ta_cons tr_int ta_nil (by decide)) (by decide)) (by decide))) ta_nil (by decide)) (by decide)) (by decide)) (by decide)) (ta_cons (tr_tup (ta_cons tr_str (ta_cons tr_int (ta_cons tr_int ta_nil (by decide)) (by decide)) (by decide)) (by decide)) (ta_cons (tr_tup (ta_cons tr_str (ta_cons tr_str (ta_cons tr_int (ta_cons (tr_F (by decide) (tf_disp (ta_cons tr_int ta_nil (by decide)) (by decide))) ta_nil (by decide)) (by decide)) (by decide)) (by decide)) (by decide)) ta_nil (by decide)) (by decide)) (by decide)) (by decide)) (by decide))) (ta_cons (tr_F (by decide) (tf_disp (ta_cons tr_int ta_nil (by decide)) (by decide))) (ta_cons (tr_F (by decide) (tf_disp ta_nil (by decide))) ta_nil (by decide)) (by decide)) (by decide)) (by decide)) (by decide)) ta_nil (by decide)) (by decide)) tr_str (by decide) rfl) (tr_one (tr_cmp (L0 := []) (ho_eq hu) rs_eq (tr_call F_draw_core (hr.mono (by decide)) rfl (ta_cons (tr_tup (ta_cons tr_int (ta_cons (tr_F (by decide) (tf_disp ta_nil (by decide))) (ta_cons (tr_F (by decide) (tf_disp ta_nil (by decide))) (ta_cons (tr_F (by decide) (tf_disp ta_nil (by decide))) ta_nil (by decide)) (by decide)) (by decide)) (by decide)) (by decide)) ta_nil (by decide)) (by decide)) tr_str (by decide) rfl))) (by decide))) (by decide) (by decide))))
end
end Tk08
end Z


namespace Z
open PySem PySem.Spec PyProof.Rows L2
namespace Tk08
/-! ## draws -/
inductive FeedOk : List D → Prop
  | mk (ns : List Int) (pos big st : Int) (h1 : 0 ≤ pos) (h2 : 0 ≤ big) (h3 : 0 ≤ st) (h4 : st < 2147483647) : FeedOk [.list (ns.map .int), .int pos, .int big, .int st]
theorem atI_map {ns : List Int} {i : Int} (h0 : 0 ≤ i) (h : i < ns.length) : ∃ v, atI (ns.map PyData.int) i = some (.int v) := by
  have hk : i.toNat < ns.length := by omega
  have e : i = ((i.toNat : Nat) : Int) := by omega
  exact ⟨ns[i.toNat], by
    have q : atI (ns.map PyData.int) ((i.toNat : Nat) : Int) = some (.int ns[i.toNat]) := atI_nat (by rw [List.getElem?_map, List.getElem?_eq_getElem hk] <;> rfl)
    rwa [← e] at q⟩
/-- the tail of a draw: no number is at hand -/
theorem mod_ok (a : Int) : 0 ≤ a % 2147483647 ∧ a % 2147483647 < 2147483647 := by omega
theorem draw_spec {fs : List D} (h : FeedOk fs) {n : Int} (h0 : 0 < n) (h1 : n < 1073741824) : ∃ r fs', m__law_draw fs [.int n] = some (.int r, fs') ∧ 0 ≤ r ∧ r < n ∧ FeedOk fs' := by
  obtain ⟨ns, pos, big, st, h2, h3, h4, h5⟩ := h
  unfold m__law_draw fnT mb__law_draw startM
  have c : ∀ a : Int, -18446744073709551616 < a % 2147483647 ∧ a % 2147483647 < 18446744073709551616 := fun a => by have := mod_ok a; omega
  by_cases hb : big = 0
  · by_cases hp : pos < ns.length
    · obtain ⟨v, hv⟩ := atI_map h2 hp
      have hw : ∃ w : Int, (if v < 0 then -v else v) = w ∧ 0 ≤ w := ⟨_, rfl, by split <;> omega⟩
      obtain ⟨w, ew, hw⟩ := hw
      by_cases hc : w ≥ 1000000000000000000
      · have hw' : 0 < w := by omega
        simp [hb, hp, hv, ew, hc, h0, h1, hw']
        exact ⟨_, _, rfl, Int.emod_nonneg _ (by omega), Int.emod_lt_of_pos _ h0, .mk ns _ _ _ (by omega) (Int.ediv_nonneg hw (by omega)) h4 h5⟩
      · simp [hb, hp, hv, ew, hc, c, h0]
        exact ⟨_, _, rfl, Int.emod_nonneg _ (by omega), Int.emod_lt_of_pos _ h0, .mk ns _ _ _ (by omega) (Int.le_refl _) (mod_ok _).1 (mod_ok _).2⟩
    · simp [hb, hp, c, h0]
      exact ⟨_, _, rfl, Int.emod_nonneg _ (by omega), Int.emod_lt_of_pos _ h0, .mk ns _ _ _ h2 (Int.le_refl _) (mod_ok _).1 (mod_ok _).2⟩
  · have hb' : 0 < big := by omega
    simp [hb, hb', h0, h1]
    exact ⟨_, _, rfl, Int.emod_nonneg _ (by omega), Int.emod_lt_of_pos _ h0, .mk ns _ _ _ h2 (Int.ediv_nonneg h3 (by omega)) h4 h5⟩
theorem feed_spec (ns : List Int) : ∃ fs, m__law_feed [.list (ns.map .int)] = some fs ∧ FeedOk fs := by
  refine ⟨_, ?_, .mk ns 0 0 1 (by omega) (by omega) (by omega) (by omega)⟩
  simp [m__law_feed, fnL, mb__law_feed, startM, outL]

/-! ## rows -/
inductive Rw where
  | new (s : Int)
  | read (s b : Int)
  | fix (c : String) (s : Int) (told : List Int)
  | t1 (n : String) (s : Int)
  | t2 (n : String) (a b : Int)
  deriving Inhabited
def enc : Rw → D
  | .new s => .tuple [.str "new", .int s]
  | .read s b => .tuple [.str "read", .int s, .int b]
  | .fix c s told => .tuple [.str "fix", .str c, .int s, iL told]
  | .t1 n s => .tuple [.str "turn", .str n, iL [s]]
  | .t2 n a b => .tuple [.str "turn", .str n, iL [a, b]]
def slots : Rw → List Int
  | .new s => [s]
  | .read s _ => [s]
  | .fix _ s _ => [s]
  | .t1 _ s => [s]
  | .t2 _ a b => [a, b]
def stepU (U : List Int) : Rw → List Int
  | .new s => iSort (U ++ [s])
  | .read s _ => U.filter (· ≠ s)
  | _ => U
def ok (U : List Int) : Rw → Prop
  | .new s => s ∉ U ∧ 0 ≤ s ∧ s < 6
  | .read s _ => s ∈ U
  | .fix c s _ => s ∈ U ∧ c ∈ ["X", "Y", "Z"]
  | .t1 n s => s ∈ U ∧ n ∈ ["h", "s", "r", "x", "y", "z"]
  | .t2 n a b => a ∈ U ∧ b ∈ U ∧ a ≠ b ∧ n ∈ ["cx", "cz", "sw"]
theorem slots_of_spec (r : Rw) : m_slots_of [enc r] = some (iL (slots r)) := by
  cases r <;> simp [m_slots_of, fnP, mb_slots_of, startM, enc, slots, outP]
theorem used_behind_spec {U : List Int} (h : U.length < 1000000) (r : Rw) : m_used_behind [iL U, enc r] = some (iL (stepU U r)) := by
  cases r with
  | read s b =>
    have h := kLc_pure (vs := [2]) (b := bName 2) (t := xT (xOp dNe (xVar 2) (xOp dIx (xVar 1) (xC (.int 1))))) (e := xVar 2) PyData.int (fun x => x ≠ s) PyData.int (s := [some (iL U), some (enc (.read s b)), none]) (xs := U) (by omega) fun x hx => by
      refine ⟨_, rfl, ?_⟩
      simp [enc]
    simp [enc] at h
    simp [m_used_behind, fnP, mb_used_behind, startM, enc, stepU, outP, xLc_ap, h]
  | _ => simp [m_used_behind, fnP, mb_used_behind, startM, enc, stepU, outP, h, Nat.succ_le_of_lt]

/-! ## slots in use -/
structure Sl (U : List Int) : Prop where
  lt : U.Pairwise (· < ·)
  bd : ∀ x ∈ U, 0 ≤ x ∧ x < 6
theorem Sl.len {U : List Int} (h : Sl U) : U.length ≤ 6 := by
  have := lt_len h.lt h.bd (by omega)
  omega
theorem Sl.rg {n : Int} (h : n ≤ 6) : Sl (rgI 0 n) := ⟨rgI_lt 0 n, fun x hx => by have := rgI_mem.mp hx; omega⟩
theorem Sl.step {U : List Int} (h : Sl U) {r : Rw} (hr : ok U r) : Sl (stepU U r) := by
  cases r with
  | new s =>
    obtain ⟨h1, h2, h3⟩ := hr
    refine ⟨iSort_lt ?_, fun x hx => ?_⟩
    · rw [List.nodup_append]
      refine ⟨nodup_of_lt h.lt, by simp, fun a ha b hb => ?_⟩
      rw [List.mem_singleton] at hb
      intro e
      exact h1 (by rw [← hb, ← e]; exact ha)
    · have hx' := iSort_mem.mp hx
      rcases List.mem_append.mp hx' with hx' | hx'
      · exact h.bd x hx'
      · rw [List.mem_singleton.mp hx']; exact ⟨h2, h3⟩
  | read s b => exact ⟨h.lt.filter _, fun x hx => h.bd x (List.mem_filter.mp hx).1⟩
  | fix c s t => exact h
  | t1 n s => exact h
  | t2 n a b => exact h
theorem stepU_len (U : List Int) (r : Rw) : (stepU U r).length ≤ U.length + 1 := by
  cases r with
  | new s => show (iSort (U ++ [s])).length ≤ _; rw [iSort_len, List.length_append]; exact Nat.le_refl _
  | read s b => exact Nat.le_trans (List.length_filter_le _ _) (Nat.le_succ _)
  | _ => exact Nat.le_succ _
theorem fold_len : ∀ (rs : List Rw) (U : List Int), (rs.foldl stepU U).length ≤ U.length + rs.length
  | [], U => Nat.le_refl _
  | r :: rs, U => by
    have h1 := fold_len rs (stepU U r)
    have h2 := stepU_len U r
    rw [List.foldl_cons, List.length_cons]
    omega
/-- a core as the law hands it on -/
abbrev coreD (ins : Int) (rs : List Rw) (o1 o2 : D) : D := .tuple [.int ins, .list (rs.map enc), o1, o2]
def uAt (ins : Int) (rs : List Rw) (k : Int) : List Int := (rs.take k.toNat).foldl stepU (rgI 0 ins)
theorem slots_after_spec {ins : Int} {rs : List Rw} {o1 o2 : D} {k : Int} (hi : ins ≤ 6) (hr : rs.length ≤ 1000) (hk : 0 ≤ k) (hi0 : 0 ≤ ins) : m_slots_after [coreD ins rs o1 o2, .int k] = some (iL (uAt ins rs k)) := by
  have ek : k = ((k.toNat : Nat) : Int) := by omega
  have L := fun c kk : D => for_st (b := bName 3) (m := mForget [3] (mSet 2 (xFn m_used_behind (xaCons (xVar 2) (xaCons (xVar 3) xaNil))))) enc (fun done => [some c, some kk, some (iL (done.foldl stepU (rgI 0 ins))), none]) (rs.take k.toNat) fun d x r e => by
    have l1 := congrArg List.length e
    rw [List.length_take, List.length_append, List.length_cons] at l1
    have l2 := fold_len d (rgI 0 ins)
    rw [rgI_len] at l2
    have l3 : (d.foldl stepU (rgI 0 ins)).length < 1000000 := by omega
    refine ⟨_, rfl, ?_⟩
    simp [used_behind_spec l3]
  simp only [List.foldl_nil] at L
  have c1 : cutD (rs.map enc) none (some k) = (rs.map enc).take k.toNat := by
    have := cutD_take (rs.map enc) k.toNat
    rwa [← ek] at this
  simp only [List.map_take] at L
  simp [m_slots_after, fnP, mb_slots_after, startM, dRg_map, mFor_ap, c1, kFor_ap, L, outP, uAt, show ins ≤ 1000000 ∧ -1000000 ≤ ins by omega]
def everF (E : List Int) (r : Rw) : List Int := E ++ (slots r).filter fun s => s ∉ E
theorem slots_le (r : Rw) : (slots r).length ≤ 2 := by cases r <;> simp [slots]
theorem everF_len (E : List Int) (r : Rw) : (everF E r).length ≤ E.length + 2 := by
  unfold everF
  rw [List.length_append]
  have := List.length_filter_le (fun s => decide (s ∉ E)) (slots r)
  have := slots_le r
  omega
theorem everFold_len : ∀ (rs : List Rw) (E : List Int), (rs.foldl everF E).length ≤ E.length + 2 * rs.length
  | [], E => Nat.le_refl _
  | r :: rs, E => by
    have h1 := everFold_len rs (everF E r)
    have h2 := everF_len E r
    rw [List.foldl_cons, List.length_cons]
    omega
theorem ever_mem : ∀ (rs : List Rw) (E : List Int) (x : Int), x ∈ rs.foldl everF E ↔ x ∈ E ∨ ∃ r ∈ rs, x ∈ slots r
  | [], E, x => by simp
  | r :: rs, E, x => by
    rw [List.foldl_cons, ever_mem rs]
    unfold everF
    rw [List.mem_append, List.mem_filter]
    simp only [List.mem_cons, exists_eq_or_imp, decide_eq_true_eq]
    by_cases h : x ∈ E <;> simp [h]
def everD (ins : Int) (rs : List Rw) : List Int := (rgI 0 6).filter fun s => s ∈ rs.foldl everF (rgI 0 ins)
theorem slots_ever_spec {ins : Int} {rs : List Rw} {o1 o2 : D} (hi : ins ≤ 6) (hi0 : 0 ≤ ins) (hr : rs.length ≤ 1000) : m_slots_ever [coreD ins rs o1 o2] = some ((everD ins rs).map .int) := by
  have L := fun c : D => for_st (b := bName 2) (m := mForget [2] (mExt 1 (xLc (xSeq (xFn m_slots_of (xaCons (xVar 2) xaNil))) [3] (bName 3) (xT (xOp (dIn true) (xVar 3) (xVar 1))) (xVar 3)))) enc (fun done => [some c, some (iL (done.foldl everF (rgI 0 ins))), none, none]) rs fun d x r e => by
    have l1 := congrArg List.length e
    rw [List.length_append, List.length_cons] at l1
    have l2 := everFold_len d (rgI 0 ins)
    rw [rgI_len] at l2
    have l3 := slots_le x
    have K := kLc_pure (vs := [3]) (b := bName 3) (t := xT (xOp (dIn true) (xVar 3) (xVar 1))) (e := xVar 3) PyData.int (fun y => y ∉ d.foldl everF (rgI 0 ins)) PyData.int (s := [some c, some (iL (d.foldl everF (rgI 0 ins))), some (enc x), none]) (xs := slots x) (by omega) fun y hy => by
      refine ⟨_, rfl, ?_⟩
      simp
    have l4 := List.length_filter_le (fun y => decide (y ∉ d.foldl everF (rgI 0 ins))) (slots x)
    refine ⟨_, rfl, ?_⟩
    simp at K l4
    have l5 : (d.foldl everF (rgI 0 ins)).length + ((slots x).filter fun y => !decide (y ∈ d.foldl everF (rgI 0 ins))).length ≤ 1000000 := by omega
    simp [slots_of_spec, xLc_ap, K, everF, l5]
  simp only [List.foldl_nil] at L
  have K := fun c : D => kLc_pure (vs := [3]) (b := bName 3) (t := xT (xOp (dIn false) (xVar 3) (xVar 1))) (e := xVar 3) PyData.int (fun y => y ∈ rs.foldl everF (rgI 0 ins)) PyData.int (s := [some c, some (iL (rs.foldl everF (rgI 0 ins))), none, none]) (xs := rgI 0 6) (by rw [rgI_len]; omega) fun y hy => by
    refine ⟨_, rfl, ?_⟩
    simp
  simp at K
  simp [m_slots_ever, fnL, mb_slots_ever, startM, dRg_map, mFor_ap, kFor_ap, L, xLc_ap, K, outL, c_MOST_SLOTS, show ins ≤ 1000000 ∧ -1000000 ≤ ins by omega, everD]

/-! ## signs -/
def act : Rw → Int → String
  | .new _, _ => "  |"
  | .read _ _, _ => "-M "
  | .fix c _ _, _ => if c = "X" then "-x-" else if c = "Y" then "-y-" else "-z-"
  | .t1 n _, _ => if n = "h" then "-H-" else if n = "s" then "-S-" else if n = "r" then "-R-" else if n = "x" then "-X-" else if n = "y" then "-Y-" else "-Z-"
  | .t2 n a _, s => if n = "sw" then "-x-" else if n = "cx" ∧ s ≠ a then "-+-" else "-*-"
def signS (r : Rw) (s : Int) (U : List Int) : String := if s ∈ slots r then act r s else if s ∈ U then "---" else "   "
def nm : Rw → Prop
  | .fix c _ _ => c ∈ ["X", "Y", "Z"]
  | .t1 n _ => n ∈ ["h", "s", "r", "x", "y", "z"]
  | .t2 n a b => n ∈ ["cx", "cz", "sw"] ∧ a ≠ b
  | _ => True
theorem nm_of {U : List Int} {r : Rw} (h : ok U r) : nm r := by
  cases r with
  | new s => trivial
  | read s b => trivial
  | fix c s t => exact h.2
  | t1 n s => exact h.2
  | t2 n a b => exact ⟨h.2.2.2, h.2.2.1⟩
theorem up_os : (Txt.upper "h" = ("H" : Str) ∧ Txt.upper "s" = ("S" : Str) ∧ Txt.upper "r" = ("R" : Str)) ∧ Txt.upper "x" = ("X" : Str) ∧ Txt.upper "y" = ("Y" : Str) ∧ Txt.upper "z" = ("Z" : Str) := by decide +kernel
theorem lo_os : Txt.lower "X" = ("x" : Str) ∧ Txt.lower "Y" = ("y" : Str) ∧ Txt.lower "Z" = ("z" : Str) := by decide +kernel
theorem dUpper_os (a : String) (h : a.length ≤ 5592405) : dUpper (.str (Str.ofString a)) [] = some (.str (Txt.upper (Str.ofString a))) := by
  show (if (Str.ofString a).length ≤ 5592405 then _ else _) = _
  rw [if_pos (by rw [len_os]; exact h)]
theorem dLower_os (a : String) (h : a.length ≤ 5592405) : dLower (.str (Str.ofString a)) [] = some (.str (Txt.lower (Str.ofString a))) := by
  show (if (Str.ofString a).length ≤ 5592405 then _ else _) = _
  rw [if_pos (by rw [len_os]; exact h)]
theorem turn1_spec {n : String} {a s : Int} (h : n ∈ ["h", "s", "r", "x", "y", "z"]) : m_sign_of_turn [enc (.t1 n a), .int s] = some (.str (act (.t1 n a) s)) := by
  simp only [List.mem_cons, List.not_mem_nil, or_false] at h
  obtain ⟨⟨u1, u2, u3⟩, u4, u5, u6⟩ := up_os
  rcases h with rfl | rfl | rfl | rfl | rfl | rfl <;> simp (decide := true) [m_sign_of_turn, fnP, mb_sign_of_turn, startM, enc, act, outP, dUpper_os, u1, u2, u3, u4, u5, u6]
theorem turn2_spec {n : String} {a b s : Int} (h : n ∈ ["cx", "cz", "sw"]) : m_sign_of_turn [enc (.t2 n a b), .int s] = some (.str (act (.t2 n a b) s)) := by
  simp only [List.mem_cons, List.not_mem_nil, or_false] at h
  by_cases e : s = a
  · rcases h with rfl | rfl | rfl <;> simp (decide := true) [m_sign_of_turn, fnP, mb_sign_of_turn, startM, enc, act, outP, e, dKey, dvK, d_LEFT, d_RIGHT, kv_LEFT, kv_RIGHT, ofString_inj, dvD]
  · rcases h with rfl | rfl | rfl <;> simp (decide := true) [m_sign_of_turn, fnP, mb_sign_of_turn, startM, enc, act, outP, e, dKey, dvK, d_LEFT, d_RIGHT, kv_LEFT, kv_RIGHT, ofString_inj, dvD]
theorem sign_of_spec {r : Rw} {s : Int} {U : List Int} (h : nm r) : m_sign_of [enc r, .int s, iL U] = some (.str (signS r s U)) := by
  by_cases hs : s ∈ slots r
  · cases r with
    | new a =>
      have q2 := slots_of_spec (.new a)
      simp [enc] at q2
      simp [m_sign_of, fnP, mb_sign_of, startM, q2, hs, signS, outP, enc, act]
    | read a b =>
      have q2 := slots_of_spec (.read a b)
      simp [enc] at q2
      simp [m_sign_of, fnP, mb_sign_of, startM, q2, hs, signS, outP, enc, act]
    | fix c a t =>
      obtain ⟨u1, u2, u3⟩ := lo_os
      have q2 := slots_of_spec (.fix c a t)
      simp [enc] at q2
      have h' : c = "X" ∨ c = "Y" ∨ c = "Z" := by simpa [nm] using h
      rcases h' with rfl | rfl | rfl <;> simp (decide := true) [m_sign_of, fnP, mb_sign_of, startM, q2, hs, signS, outP, enc, act, dLower_os, u1, u2, u3]
    | t1 n a =>
      have q := turn1_spec (a := a) (s := s) h
      have q2 := slots_of_spec (.t1 n a)
      simp [enc] at q q2
      simp [m_sign_of, fnP, mb_sign_of, startM, hs, signS, outP, enc, q, q2]
    | t2 n a b =>
      have q := turn2_spec (a := a) (b := b) (s := s) h.1
      have q2 := slots_of_spec (.t2 n a b)
      simp [enc] at q q2
      simp [m_sign_of, fnP, mb_sign_of, startM, hs, signS, outP, enc, q, q2]
  · by_cases hu : s ∈ U <;> simp [m_sign_of, fnP, mb_sign_of, startM, slots_of_spec, hs, signS, outP, hu]
theorem law_signs_spec {r : Rw} {s : Int} {U : List Int} (h : nm r) : m__law_signs [enc r, .int s, iL U] = some (.str (signS r s U)) := by
  have two : ∀ a b : Int, a ≠ b → s ∈ [a, b] → ∃ j : Nat, dIndex (iL [a, b]) [.int s] = some (.int j) ∧ ((j = 0 ∧ s = a) ∨ (j = 1 ∧ s ≠ a)) := fun a b hab hs => by
    by_cases e : s = a
    · exact ⟨0, by simp [dIndex, e, flatD, PyData.eqv, List.findIdx?_cons], .inl ⟨rfl, e⟩⟩
    · have e2 : s = b := by simpa [e] using hs
      have e3 : ¬ a = b := hab
      refine ⟨1, ?_, .inr ⟨rfl, e⟩⟩
      subst e2
      simp [dIndex, flatD, PyData.eqv, List.findIdx?_cons, e3]
  cases r with
  | new a =>
    by_cases hs : s = a
    · subst hs
      simp [m__law_signs, fnP, mb__law_signs, startM, signS, outP, enc, act, slots]
    · have hs' : ¬ a = s := fun z => hs z.symm
      by_cases hu : s ∈ U <;> simp [m__law_signs, fnP, mb__law_signs, startM, hs, hs', hu, signS, outP, enc, act, slots]
  | read a b =>
    by_cases hs : s = a
    · subst hs
      simp [m__law_signs, fnP, mb__law_signs, startM, signS, outP, enc, act, slots]
    · have hs' : ¬ a = s := fun z => hs z.symm
      by_cases hu : s ∈ U <;> simp [m__law_signs, fnP, mb__law_signs, startM, hs, hs', hu, signS, outP, enc, act, slots]
  | fix c a t =>
    have h' : c = "X" ∨ c = "Y" ∨ c = "Z" := by simpa [nm] using h
    by_cases hs : s = a
    · subst hs
      rcases h' with rfl | rfl | rfl <;> simp (decide := true) [m__law_signs, fnP, mb__law_signs, startM, signS, outP, enc, act, slots, findK, ofString_inj]
    · have hs' : ¬ a = s := fun z => hs z.symm
      by_cases hu : s ∈ U <;> simp [m__law_signs, fnP, mb__law_signs, startM, hs, hs', hu, signS, outP, enc, act, slots]
  | t1 n a =>
    have h' : n = "h" ∨ n = "s" ∨ n = "r" ∨ n = "x" ∨ n = "y" ∨ n = "z" := by simpa [nm] using h
    by_cases hs : s = a
    · subst hs
      rcases h' with rfl | rfl | rfl | rfl | rfl | rfl <;> simp (decide := true) [m__law_signs, fnP, mb__law_signs, startM, signS, outP, enc, act, slots, findK, ofString_inj]
    · by_cases hu : s ∈ U <;> simp [m__law_signs, fnP, mb__law_signs, startM, hs, hu, signS, outP, enc, act, slots]
  | t2 n a b =>
    have h' : n = "cx" ∨ n = "cz" ∨ n = "sw" := by simpa [nm] using h.1
    by_cases hs : s ∈ [a, b]
    · obtain ⟨j, hj, hc⟩ := two a b h.2 hs
      rcases hc with ⟨rfl, e⟩ | ⟨rfl, e⟩
      · subst e
        rcases h' with rfl | rfl | rfl <;> simp (decide := true) [m__law_signs, fnP, mb__law_signs, startM, hs, hj, signS, outP, enc, act, slots, findK, ofString_inj]
      · rcases h' with rfl | rfl | rfl <;> simp (decide := true) [m__law_signs, fnP, mb__law_signs, startM, hs, hj, e, signS, outP, enc, act, slots, findK, ofString_inj]
    · by_cases hu : s ∈ U <;> simp [m__law_signs, fnP, mb__law_signs, startM, hs, hu, signS, outP, enc, act, slots]
end Tk08
end Z


namespace Z
open PySem PySem.Spec PyProof.Rows L2
namespace Tk08
/-! ## lines -/
def dig (s : Int) : Str := Str.ofString (toString s)
theorem six {s : Int} (h : 0 ≤ s ∧ s < 6) : s = 0 ∨ s = 1 ∨ s = 2 ∨ s = 3 ∨ s = 4 ∨ s = 5 := by omega
theorem dig_len {s : Int} (h : 0 ≤ s ∧ s < 6) : (dig s).length = 1 := by
  rcases six h with rfl | rfl | rfl | rfl | rfl | rfl <;> decide +kernel
theorem dig_tl {s : Int} (h : 0 ≤ s ∧ s < 6) : tl (dig s) = [48 + s.toNat] := by
  rcases six h with rfl | rfl | rfl | rfl | rfl | rfl <;> decide +kernel
theorem dStr_s {s : Int} (h : 0 ≤ s ∧ s < 6) : dStr [.int s] = some (.str (dig s)) := by
  rcases six h with rfl | rfl | rfl | rfl | rfl | rfl <;> rfl
def sgAt (ins : Int) (rs : List Rw) (s k : Int) : Str := Str.ofString (signS (gtI rs k) s (uAt ins rs k))
def sgs (ins : Int) (rs : List Rw) (s : Int) : List Str := (rgI 0 rs.length).map (sgAt ins rs s)
def lineS (ins : Int) (rs : List Rw) (s : Int) : Str := dig s ++ ":" ++ Str.join "" (sgs ins rs s)
theorem act_len {r : Rw} (h : nm r) (s : Int) : (act r s).length = 3 := by
  cases r with
  | new a => show ("  |" : String).length = 3; decide
  | read a b => show ("-M " : String).length = 3; decide
  | fix c a t =>
    have h' : c = "X" ∨ c = "Y" ∨ c = "Z" := by simpa [nm] using h
    rcases h' with rfl | rfl | rfl <;> simp (decide := true) [act]
  | t1 n a =>
    have h' : n = "h" ∨ n = "s" ∨ n = "r" ∨ n = "x" ∨ n = "y" ∨ n = "z" := by simpa [nm] using h
    rcases h' with rfl | rfl | rfl | rfl | rfl | rfl <;> simp (decide := true) [act]
  | t2 n a b =>
    have h' : n = "cx" ∨ n = "cz" ∨ n = "sw" := by simpa [nm] using h.1
    by_cases e : s = a <;> rcases h' with rfl | rfl | rfl <;> simp (decide := true) [act, e]
theorem signS_len {r : Rw} (h : nm r) (s : Int) (U : List Int) : (signS r s U).length = 3 := by
  unfold signS
  split
  · exact act_len h s
  · split <;> decide
def NmAll (rs : List Rw) : Prop := ∀ r ∈ rs, nm r
theorem NmAll.at {rs : List Rw} (h : NmAll rs) (k : Int) : nm (gtI rs k) := by
  unfold gtI
  rw [List.getD_eq_getElem?_getD]
  cases e : rs[k.toNat]? with
  | none => trivial
  | some r => exact h r (List.mem_of_getElem? e)
theorem sgAt_len {ins : Int} {rs : List Rw} (h : NmAll rs) (s k : Int) : (tl (sgAt ins rs s k)).length = 3 := by
  unfold sgAt
  rw [← tl_len, len_os, signS_len (h.at k)]
theorem sgs_tl (ins : Int) (rs : List Rw) (s : Int) : tl (Str.join "" (sgs ins rs s)) = (rgI 0 rs.length).flatMap fun k => tl (sgAt ins rs s k) := by
  rw [join_empty]
  unfold sgs
  rw [List.flatMap_map]
theorem line_tl {ins : Int} {rs : List Rw} {s : Int} (hs : 0 ≤ s ∧ s < 6) : tl (lineS ins rs s) = [48 + s.toNat, 58] ++ (rgI 0 rs.length).flatMap fun k => tl (sgAt ins rs s k) := by
  unfold lineS
  rw [tl_app, tl_app, dig_tl hs, sgs_tl]
  rfl
theorem line_len {ins : Int} {rs : List Rw} {s : Int} (h : NmAll rs) (hs : 0 ≤ s ∧ s < 6) : (lineS ins rs s).length = 2 + 3 * rs.length := by
  rw [tl_len, line_tl hs, List.length_append, flat_len (c := 3) _ fun k _ => sgAt_len h s k, rgI_len]
  simp
theorem everD_bd {ins : Int} {rs : List Rw} {s : Int} (h : s ∈ everD ins rs) : 0 ≤ s ∧ s < 6 := rgI_mem.mp (List.mem_filter.mp h).1
theorem everD_len (ins : Int) (rs : List Rw) : (everD ins rs).length ≤ 6 := by
  have := List.length_filter_le (fun s => decide (s ∈ rs.foldl everF (rgI 0 ins))) (rgI 0 6)
  rw [rgI_len] at this
  exact this
def textS (ins : Int) (rs : List Rw) : Str := Str.join "\n" ((everD ins rs).map (lineS ins rs))
theorem join_lines {ins : Int} {rs : List Rw} {S : List Int} (h : NmAll rs) (hr : rs.length ≤ 1000) (hS : ∀ s ∈ S, 0 ≤ s ∧ s < 6) (hl : S.length ≤ 6) : dJoin (.str "\n") [sL (S.map (lineS ins rs))] = some (.str (Str.join "\n" (S.map (lineS ins rs)))) := by
  apply dJoin_s
  rw [sum_lens (c := 2 + 3 * rs.length) S fun s hs => line_len h (hS s hs), List.length_map, len_os]
  have e : ("\n" : String).length = 1 := by decide
  rw [e]
  have h1 : (2 + 3 * rs.length) * S.length ≤ 3002 * 6 := Nat.mul_le_mul (by omega) hl
  omega
theorem draw_core_spec {ins : Int} {rs : List Rw} {o1 o2 : D} (hi : ins ≤ 6) (hi0 : 0 ≤ ins) (hr : rs.length ≤ 1000) (h : NmAll rs) : m_draw_core [coreD ins rs o1 o2] = some (.str (textS ins rs)) := by
  have K1 := fun (c : D) => kLc_map (vs := [5]) (b := bName 5) (t := xYes) (e := xFn m_slots_after (xaCons (xVar 0) (xaCons (xVar 5) xaNil))) PyData.int (fun k => iL (uAt ins rs k)) (s := [some (coreD ins rs o1 o2), some c, none, none, none, none, none, none]) (xs := rgI 0 rs.length) (by rw [rgI_len]; omega) fun k hk => by
    have hk' := rgI_mem.mp hk
    refine ⟨_, rfl, rfl, ?_⟩
    simp [slots_after_spec hi hr hk'.1 hi0]
  have ez : ((rs.map enc).zip ((rgI 0 rs.length).map fun k => iL (uAt ins rs k))).map (fun w => PyData.tuple [w.1, w.2]) = (rgI 0 rs.length).map fun k => PyData.tuple [enc (gtI rs k), iL (uAt ins rs k)] := by
    rw [map_rg enc rs, List.zip_map', List.map_map]
    rfl
  have K2 := fun (c ls a x : D) (s : Int) => kLc_map (vs := [6, 7]) (b := bTup 2 (bCons (bName 6) (bCons (bName 7) bNil))) (t := xYes) (e := xFn m_sign_of (xaCons (xVar 6) (xaCons (xVar 3) (xaCons (xVar 7) xaNil)))) (fun k => PyData.tuple [enc (gtI rs k), iL (uAt ins rs k)]) (fun k => .str (sgAt ins rs s k)) (s := [some c, some ls, some a, some (.int s), none, none, none, none]) (xs := rgI 0 rs.length) (by rw [rgI_len]; omega) fun k hk => by
    refine ⟨_, by simp; rfl, rfl, ?_⟩
    simp [sign_of_spec (h.at k), sgAt]
  have L := for_st (b := bName 3) (m := mForget [3, 4] (mSeq (mSet 4 (xLst (xLc (xZip (xList (xOp dIx (xVar 0) (xC (.int 1)))) (xList (xVar 2))) [6, 7] (bTup 2 (bCons (bName 6) (bCons (bName 7) bNil))) xYes (xFn m_sign_of (xaCons (xVar 6) (xaCons (xVar 3) (xaCons (xVar 7) xaNil)))))))
    (mApp 1 (xOp dAdd (xOp dAdd (xFn dStr (xaCons (xVar 3) xaNil)) (xC (.str ":"))) (xMt dJoin (xC (.str "")) (xaCons (xVar 4) xaNil)))))) PyData.int (fun done => [some (coreD ins rs o1 o2), some (sL (done.map (lineS ins rs))), some (.list ((rgI 0 rs.length).map fun k => iL (uAt ins rs k))), none, none, none, none, none]) (everD ins rs) fun d x r e => by
    have hx : 0 ≤ x ∧ x < 6 := everD_bd (by rw [e]; simp)
    have l1 := congrArg List.length e
    rw [List.length_append, List.length_cons] at l1
    have l2 := everD_len ins rs
    have k2 := K2 (coreD ins rs o1 o2) (sL (d.map (lineS ins rs))) (.list ((rgI 0 rs.length).map fun k => iL (uAt ins rs k))) (.int x) x
    have es : ((rgI 0 rs.length).map fun k => PyData.str (sgAt ins rs x k)) = (sgs ins rs x).map PyData.str := by
      unfold sgs
      rw [List.map_map]
      rfl
    rw [es] at k2
    have dj : dJoin (.str "") [sL (sgs ins rs x)] = some (.str (Str.join "" (sgs ins rs x))) := by
      apply dJoin_s
      unfold sgs
      rw [sum_lens (c := 3) _ fun k _ => (by rw [tl_len]; exact sgAt_len h x k), List.length_map, rgI_len, len_os]
      have e : ("" : String).length = 0 := by decide
      rw [e]
      omega
    have dl := dig_len hx
    have d1 : dAdd (.str (dig x)) (.str ":") = some (.str (dig x ++ ":")) := dAdd_s (by rw [dl, len_os]; decide)
    have d2 : dAdd (.str (dig x ++ ":")) (.str (Str.join "" (sgs ins rs x))) = some (.str (lineS ins rs x)) := dAdd_s (by
      have := line_len (ins := ins) h hx
      rw [tl_len] at this
      unfold lineS at this
      rw [tl_app, List.length_append, ← tl_len, ← tl_len] at this
      omega)
    refine ⟨_, rfl, ?_⟩
    simp at k2 dj ez
    simp [xLc_ap, ez, k2, dStr_s hx, d1, d2, dj, show d.length ≤ 1000000 by omega]
  have jl := join_lines (ins := ins) (rs := rs) h hr (fun s hs => everD_bd hs) (everD_len ins rs)
  simp [sL] at K1 L jl
  simp [m_draw_core, fnP, mb_draw_core, startM, mFor_ap, kFor_ap, dRg_map, xLc_ap, K1, slots_ever_spec hi hi0 hr, L, jl, outP, textS, show (rs.length : Int) ≤ 1000000 by omega]
end Tk08
end Z


namespace Z
open PySem PySem.Spec PyProof.Rows L2
namespace Tk08
/-! ## the drawn core -/
def UU (ins : Int) (rs : List Rw) : List Int := rs.foldl stepU (rgI 0 ins)
theorem UU_snoc (ins : Int) (rs : List Rw) (r : Rw) : UU ins (rs ++ [r]) = stepU (UU ins rs) r := by
  unfold UU
  rw [List.foldl_append]; rfl
inductive Wf (ins : Int) : List Rw → Prop
  | nil : Wf ins []
  | snoc {rs : List Rw} {r : Rw} : Wf ins rs → ok (UU ins rs) r → Wf ins (rs ++ [r])
theorem Wf.sl {ins : Int} {rs : List Rw} (hi : ins ≤ 6) (h : Wf ins rs) : Sl (UU ins rs) := by
  induction h with
  | nil => exact .rg hi
  | snoc h hr ih =>
    rw [UU_snoc]
    exact ih.step hr
def stC (ins : Int) (fs : List D) (rs : List Rw) (bits : Int) : MS := [some (.list fs), some (.int ins), some (.int 4), some (.int 16), some (iL (UU ins rs)), some (.list (rs.map enc)), some (.int bits), none, none, none, none, none, none, none, none, none, none]
theorem pick {xs : List Int} {r : Int} (h0 : 0 ≤ r) (h : r < xs.length) : ∃ v ∈ xs, atI (xs.map PyData.int) r = some (.int v) := by
  have h' : r < (xs.map PyData.int).length := by rw [List.length_map]; exact h
  refine ⟨xs[r.toNat]'(by omega), List.getElem_mem _, ?_⟩
  rw [atI_pos h0 h', List.getElem_map]
theorem free_some {U : List Int} (h : Sl U) (hl : U.length < 6) : 0 < ((rgI 0 6).filter fun k => k ∉ U).length := by
  rw [List.length_pos_iff]
  intro e
  have e2 : U = rgI 0 6 := lt_ext h.lt (rgI_lt 0 6) fun x => ⟨fun hx => rgI_mem.mpr (h.bd x hx), fun hx => by
    have := List.filter_eq_nil_iff.mp e x hx
    simpa using this⟩
  rw [e2, rgI_len] at hl
  omega
/-- numbers told by draws -/
theorem told_draws {op : D → D → Option D} {n : Int} {bits : Int} {q : Int → Bool} (hop : ∀ a : Int, op (.int a) (.int 0) = some (.bool (q a))) (hn : 0 < n) (hn2 : n < 1073741824) (hb2 : bits ≤ 1000)
    (a1 a2 a3 a4 a5 a6 a7 a8 a9 b1 b2 b3 b4 b5 b6 : Option D) {fs : List D} (F : FeedOk fs) :
    ∃ (ts : List Int) (gs : List D), kLc [15] (bName 15) (xT (xOp op (xCallT 0 m__law_draw (xaCons (xC (.int n)) xaNil)) (xC (.int 0)))) (xVar 15) ((rgI 0 bits).map PyData.int) [some (.list fs), a1, a2, a3, a4, a5, a6, a7, a8, a9, b1, b2, b3, b4, b5, none, b6] = some (ts.map PyData.int, [some (.list gs), a1, a2, a3, a4, a5, a6, a7, a8, a9, b1, b2, b3, b4, b5, none, b6]) ∧ FeedOk gs ∧ (∀ t ∈ ts, 0 ≤ t ∧ t < bits) := by
  obtain ⟨ys, s', h1, gs, ts, h2, h3, h4, h5⟩ := kLc_ind (vs := [15]) (b := bName 15) (t := xT (xOp op (xCallT 0 m__law_draw (xaCons (xC (.int n)) xaNil)) (xC (.int 0)))) (e := xVar 15) PyData.int (fun acc s => ∃ (gs : List D) (ts : List Int), FeedOk gs ∧ acc = ts.map PyData.int ∧ (∀ t ∈ ts, 0 ≤ t ∧ t < bits) ∧ s = [some (.list gs), a1, a2, a3, a4, a5, a6, a7, a8, a9, b1, b2, b3, b4, b5, none, b6])
    (s := [some (.list fs), a1, a2, a3, a4, a5, a6, a7, a8, a9, b1, b2, b3, b4, b5, none, b6]) (xs := rgI 0 bits) (by rw [rgI_len]; omega) ⟨fs, [], F, rfl, by simp, rfl⟩ (fun x hx acc s ⟨gs, ts, F, e1, e2, e3⟩ => by
      subst e3
      obtain ⟨r, f1, d1, r0, r1, F1⟩ := draw_spec F hn hn2
      refine ⟨_, rfl, q r, [some (.list f1), a1, a2, a3, a4, a5, a6, a7, a8, a9, b1, b2, b3, b4, b5, some (.int x), b6], by simp [d1, hop], fun _ => ⟨f1, ts, F1, e1, e2, rfl⟩, fun _ => ⟨.int x, _, rfl, f1, ts ++ [x], F1, by rw [e1, List.map_append]; rfl, fun t ht => ?_, rfl⟩⟩
      rcases List.mem_append.mp ht with ht | ht
      · exact e2 t ht
      · rw [List.mem_singleton.mp ht]; exact rgI_mem.mp hx)
  refine ⟨ts, gs, ?_, h2, h4⟩
  rw [h1, h3, h5]
  rfl
def bodyC : MM := (mForget [7, 8, 9, 10, 11, 12, 15] (mSeq (mSet 8 (xCallT 0 m__law_draw (xaCons (xC (.int 10)) xaNil)))
  (mSeq (mSet 9 (xLst (xLc (xRg1 (xC (.int 6))) [15] (bName 15) (xT (xOp (dIn true) (xVar 15) (xVar 4))) (xVar 15))))
  (mIf (xAnd (xOr (xT (xOp dEq (xVar 8) (xC (.int 0)))) (xT (xOp dEq (xFn dLen (xaCons (xVar 4) xaNil)) (xC (.int 0))))) (xT (xOp dLt (xFn dLen (xaCons (xVar 4) xaNil)) (xVar 2)))) (mSeq (mSet 10 (xOp dIx (xVar 9) (xCallT 0 m__law_draw (xaCons (xFn dLen (xaCons (xVar 9) xaNil)) xaNil))))
  (mSeq (mApp 5 (xTup (xaCons (xC (.str "new")) (xaCons (xVar 10) xaNil))))
  (mSet 4 (xLst (xfMap dSorted (xCat (xList (xVar 4)) (xDisp (xaCons (xVar 10) xaNil))))))))
  (mIf (xT (xOp dGt (xFn dLen (xaCons (xVar 4) xaNil)) (xC (.int 0)))) (mSeq (mSet 10 (xOp dIx (xVar 4) (xCallT 0 m__law_draw (xaCons (xFn dLen (xaCons (xVar 4) xaNil)) xaNil))))
  (mIf (xAnd (xT (xOp dEq (xVar 8) (xC (.int 1)))) (xT (xOp dLt (xVar 6) (xC (.int 4))))) (mSeq (mApp 5 (xTup (xaCons (xC (.str "read")) (xaCons (xVar 10) (xaCons (xVar 6) xaNil)))))
  (mSeq (mAug dAddI 6 (xC (.int 1)))
  (mSet 4 (xLst (xLc (xSeq (xVar 4)) [15] (bName 15) (xT (xOp dNe (xVar 15) (xVar 10))) (xVar 15))))))
  (mIf (xAnd (xT (xOp dEq (xVar 8) (xC (.int 2)))) (xT (xOp dGt (xVar 6) (xC (.int 0))))) (mSeq (mSet 11 (xLst (xLc (xRg1 (xVar 6)) [15] (bName 15) (xT (xOp dEq (xCallT 0 m__law_draw (xaCons (xC (.int 2)) xaNil)) (xC (.int 0)))) (xVar 15))))
  (mSeq (mIf (xT (xOp dEq (xFn dLen (xaCons (xVar 11) xaNil)) (xC (.int 0)))) (mSet 11 (xLst (xDisp (xaCons (xCallT 0 m__law_draw (xaCons (xVar 6) xaNil)) xaNil))))
  mSkip)
  (mApp 5 (xTup (xaCons (xC (.str "fix")) (xaCons (xOp dIx (xC (.str "XYZ")) (xCallT 0 m__law_draw (xaCons (xC (.int 3)) xaNil))) (xaCons (xVar 10) (xaCons (xVar 11) xaNil))))))))
  (mIf (xAnd (xT (xOp dGt (xVar 8) (xC (.int 6)))) (xT (xOp dGt (xFn dLen (xaCons (xVar 4) xaNil)) (xC (.int 1))))) (mSeq (mSet 12 (xOp dIx (xLst (xLc (xSeq (xVar 4)) [15] (bName 15) (xT (xOp dNe (xVar 15) (xVar 10))) (xVar 15))) (xCallT 0 m__law_draw (xaCons (xOp dSub (xFn dLen (xaCons (xVar 4) xaNil)) (xC (.int 1))) xaNil))))
  (mApp 5 (xTup (xaCons (xC (.str "turn")) (xaCons (xOp dIx (xLst (xDisp (xaCons (xC (.str "cx")) (xaCons (xC (.str "cz")) (xaCons (xC (.str "sw")) xaNil))))) (xCallT 0 m__law_draw (xaCons (xC (.int 3)) xaNil))) (xaCons (xLst (xDisp (xaCons (xVar 10) (xaCons (xVar 12) xaNil)))) xaNil))))))
  (mApp 5 (xTup (xaCons (xC (.str "turn")) (xaCons (xOp dIx (xLst (xDisp (xaCons (xC (.str "h")) (xaCons (xC (.str "s")) (xaCons (xC (.str "h")) (xaCons (xC (.str "r")) (xaCons (xC (.str "x")) (xaCons (xC (.str "y")) (xaCons (xC (.str "z")) xaNil))))))))) (xCallT 0 m__law_draw (xaCons (xC (.int 7)) xaNil))) (xaCons (xLst (xDisp (xaCons (xVar 10) xaNil))) xaNil)))))))))
  mSkip)))))
/-- what a turn of the loop leaves -/
def Next (ins : Int) (rs : List Rw) (o : Option Out) : Prop := ∃ fs' rs' bits', FeedOk fs' ∧ Wf ins rs' ∧ rs'.length ≤ rs.length + 1 ∧ (0 ≤ bits' ∧ bits' ≤ 4) ∧ o = some (.nx (stC ins fs' rs' bits'))
theorem step_ok {ins : Int} {fs : List D} {rs : List Rw} {bits : Int} (hi0 : 0 ≤ ins) (hi : ins ≤ 4) (F : FeedOk fs) (hw : Wf ins rs) (hr : rs.length ≤ 1000) (hb : 0 ≤ bits ∧ bits ≤ 4) (st : D) : Next ins rs (bodyC ((stC ins fs rs bits).set 7 (some st))) := by
  have hS := hw.sl (by omega)
  have hrl : rs.length ≤ 1000000 := by omega
  obtain ⟨kind, f1, d1, k0, k1, F1⟩ := draw_spec F (n := 10) (by omega) (by omega)
  have eU : ∀ r, UU ins (rs ++ [r]) = stepU (UU ins rs) r := UU_snoc ins rs
  have hW : ∀ r, ok (UU ins rs) r → Wf ins (rs ++ [r]) := fun r h => .snoc hw h
  unfold stC
  generalize UU ins rs = U at hS eU hW ⊢
  have hl := hS.len
  have K := kLc_pure (vs := [15]) (b := bName 15) (t := xT (xOp (dIn true) (xVar 15) (xVar 4))) (e := xVar 15) PyData.int (fun y => y ∉ U) PyData.int (s := [some (.list f1), some (.int ins), some (.int 4), some (.int 16), some (iL U), some (.list (rs.map enc)), some (.int bits), some st, some (.int kind), none, none, none, none, none, none, none, none]) (xs := rgI 0 6) (by rw [rgI_len]; omega) fun y hy => by
    refine ⟨_, rfl, ?_⟩
    simp
  have hfree : ∀ v ∈ (rgI 0 6).filter (fun y => decide (y ∉ U)), ok U (.new v) := fun v hv => by
    have := List.mem_filter.mp hv
    exact ⟨by simpa using this.2, rgI_mem.mp this.1⟩
  have hfn := free_some hS
  have hf6 := List.length_filter_le (fun y => decide (y ∉ U)) (rgI 0 6)
  rw [rgI_len] at hf6
  generalize (rgI 0 6).filter (fun y => decide (y ∉ U)) = fr at K hfn hfree hf6
  simp at K
  -- a new one
  have new : U.length < 4 → (kind = 0 ∨ (¬ kind = 0 ∧ U = [])) → Next ins rs (bodyC [some (.list fs), some (.int ins), some (.int 4), some (.int 16), some (iL U), some (.list (rs.map enc)), some (.int bits), some st, none, none, none, none, none, none, none, none, none]) := fun hl4 hc => by
    have h6 : 0 < fr.length := hfn (by omega)
    obtain ⟨r, f2, d2, r0, r1, F2⟩ := draw_spec F1 (n := fr.length) (by omega) (by omega)
    obtain ⟨v, hv, ev⟩ := pick r0 r1
    refine ⟨f2, rs ++ [.new v], bits, F2, hW _ (hfree v hv), by simp, hb, ?_⟩
    unfold stC
    rw [eU]
    rcases hc with hc | ⟨hk, hc⟩
    · subst hc
      simp [bodyC, d1, dRg_map, xLc_ap, K, d2, ev, enc, hrl, hl4, stepU, show (U.length : Int) < 4 by omega, show U.length + 1 ≤ 1000000 by omega]
    · subst hc
      simp [bodyC, d1, dRg_map, xLc_ap, K, d2, ev, enc, hrl, stepU, hk]
  by_cases hA : kind = 0 ∧ U.length < 4
  · exact new hA.2 (.inl hA.1)
  by_cases hN : ¬ kind = 0 ∧ U = []
  · exact new (by rw [hN.2]; decide) (.inr hN)
  have hne : ¬ U = [] := fun e => by
    by_cases k0 : kind = 0
    · exact hA ⟨k0, by rw [e]; decide⟩
    · exact hN ⟨k0, e⟩
  have hpos : 0 < U.length := List.length_pos_iff.mpr hne
  obtain ⟨r, f2, d2, r0, r1, F2⟩ := draw_spec F1 (n := U.length) (by omega) (by omega)
  obtain ⟨v, hv, ev⟩ := pick r0 r1
  by_cases h1 : kind = 1 ∧ bits < 4
  · obtain ⟨h1, h2⟩ := h1
    refine ⟨f2, rs ++ [.read v bits], bits + 1, F2, hW (.read v bits) hv, by simp, by omega, ?_⟩
    subst h1
    have K2 := fun a b => kLc_pure (vs := [15]) (b := bName 15) (t := xT (xOp dNe (xVar 15) (xVar 10))) (e := xVar 15) PyData.int (fun x => x ≠ v) PyData.int (s := [some (.list f2), some (.int ins), some (.int 4), some (.int 16), some (iL U), some a, some b, some st, some (.int 1), some (.list (fr.map .int)), some (.int v), none, none, none, none, none, none]) (xs := U) (by omega) fun y hy => by
      refine ⟨_, rfl, ?_⟩
      simp
    simp at K2
    unfold stC
    rw [eU]
    simp [bodyC, d1, dRg_map, xLc_ap, K, d2, ev, enc, hrl, hne, hpos, stepU, h2, K2]
  by_cases h2 : kind = 2 ∧ 0 < bits
  · obtain ⟨h2, h3⟩ := h2
    subst h2
    obtain ⟨ts, f3, T1, F3, T2⟩ := told_draws (op := dEq) (n := 2) (bits := bits) (q := fun a => decide (a = 0)) (fun a => dEq_ii a 0) (by omega) (by omega) (by omega) (some (.int ins)) (some (.int 4)) (some (.int 16)) (some (iL U)) (some (.list (rs.map enc))) (some (.int bits)) (some st) (some (.int 2)) (some (.list (fr.map .int))) (some (.int v)) none none none none none F2
    -- the bits that are told, at least one
    have L : ∃ (ls : List Int) (f4 : List D), FeedOk f4 ∧ ∀ g : List D, mIf (xT (xOp dEq (xFn dLen (xaCons (xVar 11) xaNil)) (xC (.int 0)))) (mSet 11 (xLst (xDisp (xaCons (xCallT 0 m__law_draw (xaCons (xVar 6) xaNil)) xaNil)))) mSkip [some (.list f3), some (.int ins), some (.int 4), some (.int 16), some (iL U), some (.list (rs.map enc)), some (.int bits), some st, some (.int 2), some (.list (fr.map .int)), some (.int v), some (iL ts), none, none, none, none, none] = some (.nx [some (.list f4), some (.int ins), some (.int 4), some (.int 16), some (iL U), some (.list (rs.map enc)), some (.int bits), some st, some (.int 2), some (.list (fr.map .int)), some (.int v), some (iL ls), none, none, none, none, none]) := by
      by_cases e : ts = []
      · subst e
        obtain ⟨q, f4, d4, q0, q1, F4⟩ := draw_spec F3 (n := bits) (by omega) (by omega)
        exact ⟨[q], f4, F4, fun _ => by simp [d4]⟩
      · exact ⟨ts, f3, F3, fun _ => by simp [e]⟩
    obtain ⟨ls, f4, F4, L⟩ := L
    have L := L []
    simp at L
    obtain ⟨c, f5, d5, c0, c1, F5⟩ := draw_spec F4 (n := 3) (by omega) (by omega)
    have C : ∃ s : String, s ∈ ["X", "Y", "Z"] ∧ dIx (.str "XYZ") (.int c) = some (.str s) := by
      have : c = 0 ∨ c = 1 ∨ c = 2 := by omega
      rcases this with rfl | rfl | rfl
      · exact ⟨"X", by simp, rfl⟩
      · exact ⟨"Y", by simp, rfl⟩
      · exact ⟨"Z", by simp, rfl⟩
    obtain ⟨s, hs, C⟩ := C
    refine ⟨f5, rs ++ [.fix s v ls], bits, F5, hW (.fix s v ls) ⟨hv, hs⟩, by simp, hb, ?_⟩
    unfold stC
    rw [eU]
    simp [bodyC, d1, dRg_map, xLc_ap, K, d2, ev, enc, hrl, hne, hpos, stepU, h3, T1, L, d5, C, show bits ≤ 1000000 ∧ -1000000 ≤ bits by omega]
  by_cases h3 : 6 < kind ∧ 1 < U.length
  · obtain ⟨h3, h4⟩ := h3
    have hk : ¬ kind = 0 ∧ ¬ kind = 1 ∧ ¬ kind = 2 := by omega
    have K3 := fun (a b : Option D) => kLc_pure (vs := [15]) (b := bName 15) (t := xT (xOp dNe (xVar 15) (xVar 10))) (e := xVar 15) PyData.int (fun x => x ≠ v) PyData.int (s := [some (.list f2), some (.int ins), some (.int 4), some (.int 16), some (iL U), some (.list (rs.map enc)), some (.int bits), some st, some (.int kind), some (.list (fr.map .int)), some (.int v), a, b, none, none, none, none]) (xs := U) (by omega) fun y hy => by
      refine ⟨_, rfl, ?_⟩
      simp
    have ho : 0 < (U.filter fun x => decide (x ≠ v)).length ∧ (U.length : Int) - 1 = (U.filter fun x => decide (x ≠ v)).length := by
      have e1 : (U.filter fun x => decide (x ≠ v)).length + 1 = U.length := by
        have nd := nodup_of_lt hS.lt
        have := List.length_erase_of_mem hv
        rw [nd.erase_eq_filter] at this
        have e2 : (U.filter fun x => decide (x ≠ v)) = U.filter (· != v) := by
          apply List.filter_congr
          intro x _
          by_cases e : x = v <;> simp [e]
        rw [e2, this]
        omega
      omega
    have hm : ∀ x ∈ (U.filter fun x => decide (x ≠ v)), x ∈ U ∧ x ≠ v := fun x hx => by
      have := List.mem_filter.mp hx
      exact ⟨this.1, by simpa using this.2⟩
    generalize (U.filter fun x => decide (x ≠ v)) = ot at K3 ho hm
    simp at K3
    obtain ⟨q, f3, d3, q0, q1, F3⟩ := draw_spec F2 (n := (U.length : Int) - 1) (by omega) (by omega)
    obtain ⟨w, hw', ew⟩ := pick q0 (by omega : q < ot.length)
    obtain ⟨c, f4, d4, c0, c1, F4⟩ := draw_spec F3 (n := 3) (by omega) (by omega)
    have C : ∃ s : String, s ∈ ["cx", "cz", "sw"] ∧ atI [PyData.str "cx", PyData.str "cz", PyData.str "sw"] c = some (.str s) := by
      have : c = 0 ∨ c = 1 ∨ c = 2 := by omega
      rcases this with rfl | rfl | rfl
      · exact ⟨"cx", by simp, rfl⟩
      · exact ⟨"cz", by simp, rfl⟩
      · exact ⟨"sw", by simp, rfl⟩
    obtain ⟨s, hs, C⟩ := C
    refine ⟨f4, rs ++ [.t2 s v w], bits, F4, hW (.t2 s v w) ⟨hv, (hm w hw').1, fun e => (hm w hw').2 e.symm, hs⟩, by simp, hb, ?_⟩
    unfold stC
    rw [eU]
    simp [bodyC, d1, dRg_map, xLc_ap, K, d2, ev, enc, hrl, hne, hpos, stepU, h3, show (1 : Int) < U.length by omega, hk, K3, d3, ew, d4, C]
  have T : ∃ (c : Int) (f3 : List D) (s : String), m__law_draw f2 [.int 7] = some (.int c, f3) ∧ FeedOk f3 ∧ s ∈ ["h", "s", "r", "x", "y", "z"] ∧ atI [PyData.str "h", PyData.str "s", PyData.str "h", PyData.str "r", PyData.str "x", PyData.str "y", PyData.str "z"] c = some (.str s) := by
    obtain ⟨c, f3, d3, c0, c1, F3⟩ := draw_spec F2 (n := 7) (by omega) (by omega)
    refine ⟨c, f3, ?_⟩
    have : c = 0 ∨ c = 1 ∨ c = 2 ∨ c = 3 ∨ c = 4 ∨ c = 5 ∨ c = 6 := by omega
    rcases this with rfl | rfl | rfl | rfl | rfl | rfl | rfl
    · exact ⟨"h", d3, F3, by simp, rfl⟩
    · exact ⟨"s", d3, F3, by simp, rfl⟩
    · exact ⟨"h", d3, F3, by simp, rfl⟩
    · exact ⟨"r", d3, F3, by simp, rfl⟩
    · exact ⟨"x", d3, F3, by simp, rfl⟩
    · exact ⟨"y", d3, F3, by simp, rfl⟩
    · exact ⟨"z", d3, F3, by simp, rfl⟩
  obtain ⟨c, f3, s, d3, F3, hs, C⟩ := T
  refine ⟨f3, rs ++ [.t1 s v], bits, F3, hW (.t1 s v) ⟨hv, hs⟩, by simp, hb, ?_⟩
  unfold stC
  rw [eU]
  have s1 : xAnd (xT (xOp dEq (xVar 8) (xC (.int 1)))) (xT (xOp dLt (xVar 6) (xC (.int 4)))) [some (.list f2), some (.int ins), some (.int 4), some (.int 16), some (iL U), some (.list (rs.map enc)), some (.int bits), some st, some (.int kind), some (.list (fr.map .int)), some (.int v), none, none, none, none, none, none] = some (false, [some (.list f2), some (.int ins), some (.int 4), some (.int 16), some (iL U), some (.list (rs.map enc)), some (.int bits), some st, some (.int kind), some (.list (fr.map .int)), some (.int v), none, none, none, none, none, none]) := by
    by_cases e : kind = 1
    · have e2 : ¬ bits < 4 := fun z => h1 ⟨e, z⟩
      subst e
      simp [e2]
    · simp [e]
  have s2 : xAnd (xT (xOp dEq (xVar 8) (xC (.int 2)))) (xT (xOp dGt (xVar 6) (xC (.int 0)))) [some (.list f2), some (.int ins), some (.int 4), some (.int 16), some (iL U), some (.list (rs.map enc)), some (.int bits), some st, some (.int kind), some (.list (fr.map .int)), some (.int v), none, none, none, none, none, none] = some (false, [some (.list f2), some (.int ins), some (.int 4), some (.int 16), some (iL U), some (.list (rs.map enc)), some (.int bits), some st, some (.int kind), some (.list (fr.map .int)), some (.int v), none, none, none, none, none, none]) := by
    by_cases e : kind = 2
    · have e2 : ¬ 0 < bits := fun z => h2 ⟨e, z⟩
      subst e
      simp [e2]
    · simp [e]
  have s3 : xAnd (xT (xOp dGt (xVar 8) (xC (.int 6)))) (xT (xOp dGt (xFn dLen (xaCons (xVar 4) xaNil)) (xC (.int 1)))) [some (.list f2), some (.int ins), some (.int 4), some (.int 16), some (iL U), some (.list (rs.map enc)), some (.int bits), some st, some (.int kind), some (.list (fr.map .int)), some (.int v), none, none, none, none, none, none] = some (false, [some (.list f2), some (.int ins), some (.int 4), some (.int 16), some (iL U), some (.list (rs.map enc)), some (.int bits), some st, some (.int kind), some (.list (fr.map .int)), some (.int v), none, none, none, none, none, none]) := by
    by_cases e : 6 < kind
    · have e2 : (U.length : Int) ≤ 1 := by
        have : ¬ 1 < U.length := fun z => h3 ⟨e, z⟩
        omega
      simp [e, e2]
    · simp [e]
  by_cases hk : kind = 0
  · have h4 : ¬ (U.length : Int) < 4 := fun z => hA ⟨hk, by omega⟩
    subst hk
    simp at s1 s2 s3
    simp [bodyC, d1, dRg_map, xLc_ap, K, d2, ev, enc, hrl, hne, hpos, stepU, h4, s1, s2, s3, d3, C]
  · simp at s1 s2 s3
    simp [bodyC, d1, dRg_map, xLc_ap, K, d2, ev, enc, hrl, hne, hpos, stepU, hk, s1, s2, s3, d3, C]
end Tk08
end Z


namespace Z
open PySem PySem.Spec PyProof.Rows L2
namespace Tk08
theorem map_pop (f : Int → D) : ∀ (xs : List Int) (n : Nat), (xs.map f).eraseIdx n = (xs.eraseIdx n).map f
  | [], n => rfl
  | x :: r, 0 => rfl
  | x :: r, n + 1 => congrArg (f x :: ·) (map_pop f r n)
theorem UU_nil (ins : Int) : UU ins [] = rgI 0 ins := rfl
def mb_core2 : MM := (mSeq (mSet 4 (xLst (xLc (xRg1 (xVar 1)) [15] (bName 15) xYes (xVar 15))))
  (mSeq (mSetF 5 (xDisp xaNil))
  (mSeq (mSet 6 (xC (.int 0)))
  (mSeq (mFor (xRg1 (xCallT 0 m__law_draw (xaCons (xOp dAdd (xVar 3) (xC (.int 1))) xaNil))) (bName 7) bodyC)
  (mSeq (mSetF 13 (xSeq (xVar 4)))
  (mSeq (mSetF 14 (xDisp xaNil))
  (mSeq (mFor (xRg1 (xFn dLen (xaCons (xVar 13) xaNil))) (bName 15) (mForget [15] (mApp 14 (xPopAt 13 (xCallT 0 m__law_draw (xaCons (xFn dLen (xaCons (xVar 13) xaNil)) xaNil))))))
  (mSeq (mSet 16 (xLst (xLc (xRg1 (xVar 6)) [15] (bName 15) (xT (xOp dGt (xCallT 0 m__law_draw (xaCons (xC (.int 3)) xaNil)) (xC (.int 0)))) (xVar 15))))
  (mSeq (mIf (xT (xOp dEq (xCallT 0 m__law_draw (xaCons (xC (.int 3)) xaNil)) (xC (.int 0)))) (mSet 16 (xLst (xfMap (fun ds => some ds.reverse) (xList (xVar 16)))))
  mSkip)
  (mRet (xTup (xaCons (xVar 1) (xaCons (xVar 5) (xaCons (xVar 14) (xaCons (xVar 16) xaNil)))))))))))))))
theorem core_eq : mb__law_core = mb_core2 := rfl
theorem order_ok {ins : Int} (bits : D) (U : List Int) (rows : List D) (hU : U.length ≤ 1000) {fs : List D} (F : FeedOk fs) :
    ∃ (gs : List D) (o2 o : List Int), FeedOk gs ∧ forL (bName 15) (mForget [15] (mApp 14 (xPopAt 13 (xCallT 0 m__law_draw (xaCons (xFn dLen (xaCons (xVar 13) xaNil)) xaNil))))) ((rgI 0 U.length).map PyData.int) [some (.list fs), some (.int ins), some (.int 4), some (.int 16), some (iL U), some (.list rows), some bits, none, none, none, none, none, none, some (iL U), some (.list []), none, none] = some (.nx [some (.list gs), some (.int ins), some (.int 4), some (.int 16), some (iL U), some (.list rows), some bits, none, none, none, none, none, none, some (iL o2), some (iL o), none, none]) := by
  obtain ⟨s', h1, gs, o2, o, F', hl, hl2, e⟩ := for_ind (b := bName 15) (m := mForget [15] (mApp 14 (xPopAt 13 (xCallT 0 m__law_draw (xaCons (xFn dLen (xaCons (xVar 13) xaNil)) xaNil))))) PyData.int (fun done s => ∃ (gs : List D) (o2 o : List Int), FeedOk gs ∧ o2.length + done.length = U.length ∧ o.length = done.length ∧ s = [some (.list gs), some (.int ins), some (.int 4), some (.int 16), some (iL U), some (.list rows), some bits, none, none, none, none, none, none, some (iL o2), some (iL o), none, none]) (rgI 0 U.length) []
    [some (.list fs), some (.int ins), some (.int 4), some (.int 16), some (iL U), some (.list rows), some bits, none, none, none, none, none, none, some (iL U), some (.list []), none, none] ⟨fs, U, [], F, rfl, rfl, rfl⟩ fun d x r s ed ⟨gs, o2, o, F, hl, hl2, e⟩ => by
      subst e
      have l1 := congrArg List.length ed
      rw [List.nil_append, rgI_len, List.length_append, List.length_cons] at l1
      have hpos : 0 < o2.length := by omega
      obtain ⟨q, f2, d2, q0, q1, F2⟩ := draw_spec F (n := o2.length) (by omega) (by omega)
      have hq : q.toNat < o2.length := by omega
      refine ⟨_, [some (.list f2), some (.int ins), some (.int 4), some (.int 16), some (iL U), some (.list rows), some bits, none, none, none, none, none, none, some (iL (o2.eraseIdx q.toNat)), some (iL (o ++ [o2[q.toNat]])), none, none], rfl, .inl ?_, f2, o2.eraseIdx q.toNat, o ++ [o2[q.toNat]], F2, ?_, ?_, rfl⟩
      · simp [d2, q0, q1, map_pop, show o2.length ≤ 1000000 by omega, show o.length ≤ 1000000 by omega, List.getElem?_eq_getElem hq]
      · rw [List.length_eraseIdx, if_pos hq, List.length_append, List.length_singleton]; omega
      · rw [List.length_append, List.length_append, hl2]; rfl
  exact ⟨gs, o2, o, F', by rw [h1, e]⟩
theorem core_spec {ins : Int} (hi0 : 0 ≤ ins) (hi : ins ≤ 4) {fs : List D} (F : FeedOk fs) : ∃ (rs : List Rw) (o sh : List Int) (gs : List D), m__law_core fs [.int ins, .int 4, .int 16] = some (coreD ins rs (iL o) (iL sh), gs) ∧ FeedOk gs ∧ Wf ins rs ∧ rs.length ≤ 16 := by
  have K1 := kLc_map (vs := [15]) (b := bName 15) (t := xYes) (e := xVar 15) PyData.int PyData.int (s := [some (.list fs), some (.int ins), some (.int 4), some (.int 16), none, none, none, none, none, none, none, none, none, none, none, none, none]) (xs := rgI 0 ins) (by rw [rgI_len]; omega) fun k hk => ⟨_, rfl, rfl, rfl, rfl⟩
  simp at K1
  obtain ⟨n, f1, d1, n0, n1, F1⟩ := draw_spec F (n := 17) (by omega) (by omega)
  obtain ⟨s', L, f2, rs, bits, F2, hw, hr, hb, es⟩ := for_ind (b := bName 7) (m := bodyC) PyData.int (fun done s => ∃ (gs : List D) (rs : List Rw) (bits : Int), FeedOk gs ∧ Wf ins rs ∧ rs.length ≤ done.length ∧ (0 ≤ bits ∧ bits ≤ 4) ∧ s = stC ins gs rs bits) (rgI 0 n) [] (stC ins f1 [] 0) ⟨f1, [], 0, F1, .nil, Nat.le_refl _, by omega, rfl⟩ fun d x r s ed ⟨gs, rs, bits, F, hw, hr, hb, e⟩ => by
    subst e
    have l1 := congrArg List.length ed
    rw [List.nil_append, rgI_len, List.length_append, List.length_cons] at l1
    obtain ⟨f', r', b', F', w', l', b2, e'⟩ := step_ok hi0 hi F hw (by omega) hb (.int x)
    exact ⟨_, _, rfl, .inl e', f', r', b', F', w', by rw [List.length_append]; exact Nat.le_trans l' (by rw [List.length_singleton]; omega), b2, rfl⟩
  subst es
  rw [List.nil_append, rgI_len] at hr
  have hS := hw.sl (by omega)
  have hl := hS.len
  obtain ⟨f3, o2, o, F3, L2⟩ := order_ok (ins := ins) (.int bits) (UU ins rs) (rs.map enc) (by omega) F2
  obtain ⟨sh, f4, T1, F4, _⟩ := told_draws (op := dGt) (n := 3) (bits := bits) (q := fun a => decide (a > 0)) (fun a => rfl) (by omega) (by omega) (by omega) (some (.int ins)) (some (.int 4)) (some (.int 16)) (some (iL (UU ins rs))) (some (.list (rs.map enc))) (some (.int bits)) none none none none none none (some (iL o2)) (some (iL o)) none F3
  obtain ⟨q, f5, d5, q0, q1, F5⟩ := draw_spec F4 (n := 3) (by omega) (by omega)
  have fin : ∃ sh2 : List Int, m__law_core fs [.int ins, .int 4, .int 16] = some (coreD ins rs (iL o) (iL sh2), f5) := by
    unfold stC at L
    simp [UU_nil] at L L2
    have g1 : n ≤ 1000000 ∧ -1000000 ≤ n := by omega
    have g2 : ins ≤ 1000000 ∧ -1000000 ≤ ins := by omega
    have g3 : bits ≤ 1000000 ∧ -1000000 ≤ bits := by omega
    have g4 : ((UU ins rs).length : Int) ≤ 1000000 := by omega
    by_cases hq : q = 0
    · refine ⟨sh.reverse, ?_⟩
      subst hq
      simp [m__law_core, fnT, core_eq, mb_core2, startM, xLc_ap, mFor_ap, kFor_ap, dRg_map, K1, d1, L, L2, T1, d5, outT, g1, g2, g3, g4]
    · refine ⟨sh, ?_⟩
      simp [m__law_core, fnT, core_eq, mb_core2, startM, xLc_ap, mFor_ap, kFor_ap, dRg_map, K1, d1, L, L2, T1, d5, outT, hq, g1, g2, g3, g4]
  obtain ⟨sh2, fin⟩ := fin
  exact ⟨rs, o, sh2, f5, fin, F5, hw, by omega⟩
end Tk08
end Z


namespace Z
open PySem PySem.Spec PyProof.Rows L2
namespace Tk08
/-! ## what a well drawn core keeps -/
theorem Wf.take {ins : Int} {rs : List Rw} (h : Wf ins rs) (n : Nat) : Wf ins (rs.take n) := by
  induction h with
  | nil => rw [List.take_nil]; exact .nil
  | @snoc rs r h hr ih =>
    by_cases c : n ≤ rs.length
    · rw [List.take_append_of_le_length c]; exact ih
    · rw [List.take_of_length_le (by rw [List.length_append, List.length_singleton]; omega)]
      exact .snoc h hr
theorem uAt_UU (ins : Int) (rs : List Rw) (k : Int) : uAt ins rs k = UU ins (rs.take k.toNat) := rfl
theorem Wf.at {ins : Int} {rs : List Rw} (h : Wf ins rs) : ∀ k : Int, 0 ≤ k → k < rs.length → ok (uAt ins rs k) (gtI rs k) := by
  induction h with
  | nil => intro k h0 h1; exact absurd h1 (by simp; omega)
  | @snoc rs r h hr ih =>
    intro k h0 h1
    rw [List.length_append, List.length_singleton] at h1
    unfold gtI
    rw [uAt_UU, List.getD_eq_getElem?_getD]
    by_cases c : k < rs.length
    · have := ih k h0 c
      unfold gtI at this
      rw [uAt_UU, List.getD_eq_getElem?_getD] at this
      rw [List.take_append_of_le_length (by omega), List.getElem?_append_left (by omega)]
      exact this
    · have e : k.toNat = rs.length := by omega
      rw [e, List.take_left', List.getElem?_append_right (Nat.le_refl _)]
      · simpa using hr
      · rfl
theorem Wf.nm {ins : Int} {rs : List Rw} (h : Wf ins rs) : NmAll rs := by
  induction h with
  | nil => intro r hr; cases hr
  | snoc h hr ih =>
    intro r hr'
    rcases List.mem_append.mp hr' with z | z
    · exact ih r z
    · rw [List.mem_singleton.mp z]; exact nm_of hr
theorem UU_from {ins : Int} {rs : List Rw} (h : Wf ins rs) : ∀ x ∈ UU ins rs, x ∈ rgI 0 ins ∨ .new x ∈ rs := by
  induction h with
  | nil => intro x hx; exact .inl hx
  | @snoc rs r h hr ih =>
    intro x hx
    rw [UU_snoc] at hx
    have up : x ∈ UU ins rs → x ∈ rgI 0 ins ∨ Rw.new x ∈ rs ++ [r] := fun z => (ih x z).imp id fun z => List.mem_append_left _ z
    cases r with
    | new s =>
      have hx' := iSort_mem.mp hx
      rcases List.mem_append.mp hx' with z | z
      · exact up z
      · rw [List.mem_singleton.mp z]; exact .inr (by simp)
    | read s b => exact up (List.mem_filter.mp hx).1
    | fix c s t => exact up hx
    | t1 n s => exact up hx
    | t2 n a b => exact up hx
theorem slots_from {ins : Int} {rs : List Rw} (h : Wf ins rs) : ∀ r ∈ rs, ∀ x ∈ slots r, x ∈ rgI 0 ins ∨ .new x ∈ rs := by
  induction h with
  | nil => intro r hr; cases hr
  | @snoc rs r h hr ih =>
    intro r' hr' x hx
    rcases List.mem_append.mp hr' with z | z
    · exact (ih r' z x hx).imp id fun z => List.mem_append_left _ z
    · rw [List.mem_singleton.mp z] at hx
      have up : x ∈ UU ins rs → x ∈ rgI 0 ins ∨ Rw.new x ∈ rs ++ [r] := fun z => (UU_from h x z).imp id fun z => List.mem_append_left _ z
      cases r with
      | new s => rw [List.mem_singleton.mp hx]; exact .inr (by simp)
      | read s b => exact up (by rw [List.mem_singleton.mp hx]; exact hr)
      | fix c s t => exact up (by rw [List.mem_singleton.mp hx]; exact hr.1)
      | t1 n s => exact up (by rw [List.mem_singleton.mp hx]; exact hr.1)
      | t2 n a b =>
        have hx' : x = a ∨ x = b := by simpa [slots] using hx
        rcases hx' with e | e
        · exact up (e ▸ hr.1)
        · exact up (e ▸ hr.2.1)
theorem new_bd {ins : Int} {rs : List Rw} (h : Wf ins rs) : ∀ x, .new x ∈ rs → 0 ≤ x ∧ x < 6 := by
  induction h with
  | nil => intro x hx; cases hx
  | @snoc rs r h hr ih =>
    intro x hx
    rcases List.mem_append.mp hx with z | z
    · exact ih x z
    · have e := List.mem_singleton.mp z
      subst e
      exact hr.2
/-- the law's own list of slots ever in use -/
def newF (E : List Int) (r : Rw) : List Int := match r with
  | .new s => if s ∈ E then E else E ++ [s]
  | _ => E
def EL (ins : Int) (rs : List Rw) : List Int := rs.foldl newF (rgI 0 ins)
theorem newF_nd {E : List Int} (h : E.Nodup) (r : Rw) : (newF E r).Nodup := by
  cases r with
  | new s =>
    show (if s ∈ E then E else E ++ [s]).Nodup
    by_cases c : s ∈ E
    · rw [if_pos c]; exact h
    · rw [if_neg c, List.nodup_append]
      exact ⟨h, by simp, fun a ha b hb e => c (by rw [← List.mem_singleton.mp hb, ← e]; exact ha)⟩
  | _ => exact h
theorem fold_nd : ∀ (rs : List Rw) {E : List Int}, E.Nodup → (rs.foldl newF E).Nodup
  | [], _, h => h
  | r :: rs, _, h => fold_nd rs (newF_nd h r)
theorem fold_mem : ∀ (rs : List Rw) (E : List Int) (x : Int), x ∈ rs.foldl newF E ↔ x ∈ E ∨ .new x ∈ rs
  | [], E, x => by simp
  | r :: rs, E, x => by
    rw [List.foldl_cons, fold_mem rs]
    cases r with
    | new s =>
      show x ∈ (if s ∈ E then E else E ++ [s]) ∨ _ ↔ _
      by_cases c : s ∈ E
      · rw [if_pos c]
        simp only [List.mem_cons, Rw.new.injEq]
        constructor
        · rintro (h | h)
          · exact .inl h
          · exact .inr (.inr h)
        · rintro (h | h | h)
          · exact .inl h
          · exact .inl (h ▸ c)
          · exact .inr h
      · rw [if_neg c]
        simp only [List.mem_append, List.mem_cons, List.not_mem_nil, Rw.new.injEq, or_assoc, false_or]
    | _ => simp [newF]
theorem newF_len (E : List Int) (r : Rw) : (newF E r).length ≤ E.length + 1 := by
  cases r with
  | new s =>
    show (if s ∈ E then E else E ++ [s]).length ≤ _
    split
    · omega
    · rw [List.length_append]; exact Nat.le_refl _
  | _ => exact Nat.le_succ _
theorem newFold_len : ∀ (rs : List Rw) (E : List Int), (rs.foldl newF E).length ≤ E.length + rs.length
  | [], E => Nat.le_refl _
  | r :: rs, E => by
    have h1 := newFold_len rs (newF E r)
    have h2 := newF_len E r
    rw [List.foldl_cons, List.length_cons]
    omega
theorem ever_same {ins : Int} {rs : List Rw} (hi : ins ≤ 6) (h : Wf ins rs) : iSort (EL ins rs) = everD ins rs := by
  refine lt_ext (iSort_lt (fold_nd rs (nodup_of_lt (rgI_lt 0 ins)))) ((rgI_lt 0 6).filter _) fun x => ?_
  rw [iSort_mem]
  unfold EL everD
  rw [fold_mem, List.mem_filter, decide_eq_true_eq, ever_mem]
  constructor
  · rintro (z | z)
    · have := rgI_mem.mp z
      exact ⟨rgI_mem.mpr (by omega), .inl z⟩
    · exact ⟨rgI_mem.mpr (new_bd h x z), .inr ⟨_, z, by simp [slots]⟩⟩
  · rintro ⟨_, z | ⟨r, hr, z⟩⟩
    · exact .inl z
    · exact slots_from h r hr x z
theorem uAt_ever {ins : Int} {rs : List Rw} (hi : ins ≤ 6) (h : Wf ins rs) {k : Int} {x : Int} (hx : x ∈ uAt ins rs k) : x ∈ everD ins rs := by
  rw [← ever_same hi h, iSort_mem]
  unfold EL
  rw [fold_mem]
  exact (UU_from (h.take _) x hx).imp id fun z => List.mem_of_mem_take z
theorem slots_ever {ins : Int} {rs : List Rw} (hi : ins ≤ 6) (h : Wf ins rs) {k : Int} (h0 : 0 ≤ k) (hk : k < rs.length) {x : Int} (hx : x ∈ slots (gtI rs k)) : x ∈ everD ins rs := by
  rw [← ever_same hi h, iSort_mem]
  unfold EL
  rw [fold_mem]
  refine slots_from h (gtI rs k) ?_ x hx
  unfold gtI
  rw [List.getD_eq_getElem?_getD, List.getElem?_eq_getElem (by omega)]
  exact List.getElem_mem _
theorem uAt_sl {ins : Int} {rs : List Rw} (hi : ins ≤ 6) (h : Wf ins rs) (k : Int) : Sl (uAt ins rs k) := (h.take _).sl hi
/-! ## what a sign tells -/
theorem act_ne {r : Rw} (h : nm r) (s : Int) : act r s ≠ "---" ∧ act r s ≠ "   " := by
  cases r with
  | new a => simp [act]
  | read a b => simp [act]
  | fix c a t =>
    have h' : c = "X" ∨ c = "Y" ∨ c = "Z" := by simpa [nm] using h
    rcases h' with rfl | rfl | rfl <;> simp [act]
  | t1 n a =>
    have h' : n = "h" ∨ n = "s" ∨ n = "r" ∨ n = "x" ∨ n = "y" ∨ n = "z" := by simpa [nm] using h
    rcases h' with rfl | rfl | rfl | rfl | rfl | rfl <;> simp [act]
  | t2 n a b =>
    have h' : n = "cx" ∨ n = "cz" ∨ n = "sw" := by simpa [nm] using h.1
    by_cases e : s = a <;> rcases h' with rfl | rfl | rfl <;> simp [act, e]
theorem told_iff {r : Rw} (h : nm r) (s : Int) (U : List Int) : Str.ofString (signS r s U) ∈ [("---" : Str), "   "] ↔ s ∉ slots r := by
  simp only [List.mem_cons, List.not_mem_nil, or_false, ofString_inj]
  unfold signS
  by_cases c : s ∈ slots r
  · rw [if_pos c]
    have := act_ne h s
    simp [c, this]
  · rw [if_neg c]
    by_cases u : s ∈ U <;> simp [c, u]
theorem used_iff {r : Rw} {U : List Int} (h : ok U r) (s : Int) : Str.ofString (signS r s U) ∈ [("   " : Str), "  |"] ↔ s ∉ U := by
  simp only [List.mem_cons, List.not_mem_nil, or_false, ofString_inj]
  unfold signS
  by_cases c : s ∈ slots r
  · rw [if_pos c]
    have a2 := (act_ne (nm_of h) s).2
    cases r with
    | new a =>
      have e := List.mem_singleton.mp c
      subst e
      simp [act, h.1]
    | read a b =>
      have e := List.mem_singleton.mp c
      subst e
      have : s ∈ U := h
      simp [act, this]
    | fix c' a t =>
      have e := List.mem_singleton.mp c
      subst e
      have h' : c' = "X" ∨ c' = "Y" ∨ c' = "Z" := by simpa using h.2
      rcases h' with rfl | rfl | rfl <;> simp [act, h.1]
    | t1 n a =>
      have e := List.mem_singleton.mp c
      subst e
      have h' : n = "h" ∨ n = "s" ∨ n = "r" ∨ n = "x" ∨ n = "y" ∨ n = "z" := by simpa using h.2
      rcases h' with rfl | rfl | rfl | rfl | rfl | rfl <;> simp [act, h.1]
    | t2 n a b =>
      have e : s = a ∨ s = b := by simpa [slots] using c
      have hu : s ∈ U := by
        rcases e with e | e
        · exact e ▸ h.1
        · exact e ▸ h.2.1
      have h' : n = "cx" ∨ n = "cz" ∨ n = "sw" := by simpa using h.2.2.2
      by_cases e : s = a <;> rcases h' with rfl | rfl | rfl <;> simp [act, e] <;> first | exact e ▸ hu | exact hu
  · rw [if_neg c]
    by_cases u : s ∈ U <;> simp [u]
end Tk08
end Z


namespace Z
open PySem PySem.Spec PyProof.Rows L2
namespace Tk08
def newB : MM := (mForget [7] (mIf (xAnd (xT (xOp dEq (xOp dIx (xVar 7) (xC (.int 0))) (xC (.str "new")))) (xT (xOp (dIn true) (xOp dIx (xVar 7) (xC (.int 1))) (xVar 6)))) (mApp 6 (xOp dIx (xVar 7) (xC (.int 1))))
  mSkip))
def lineB : MM := (mForget [11] (mSet 10 (xOp dAdd (xVar 10) (xFn m__law_signs (xaCons (xOp dIx (xOp dIx (xVar 3) (xC (.int 1))) (xVar 11)) (xaCons (xVar 9) (xaCons (xFn m_slots_after (xaCons (xVar 3) (xaCons (xVar 11) xaNil))) xaNil)))))))
def slotB : MM := (mForget [9, 10, 11] (mSeq (mSet 10 (xOp dAdd (xFn dStr (xaCons (xVar 9) xaNil)) (xC (.str ":"))))
  (mSeq (mFor (xRg1 (xFn dLen (xaCons (xOp dIx (xVar 3) (xC (.int 1))) xaNil))) (bName 11) lineB)
  (mApp 8 (xVar 10)))))
def backB : MM := (mForget [10, 11, 13] (mSeq (mIf (xT (xOp dNe (xLst (xfMap dSorted (xLc (xSeq (xOp dIx (xVar 12) (xVar 11))) [14] (bName 14) xYes (xOp dIx (xVar 14) (xC (.int 0)))))) (xLst (xfMap m__law_told (xaCons (xOp dIx (xOp dIx (xVar 3) (xC (.int 1))) (xVar 11)) xaNil))))) (mRet (xC (.bool false)))
  mSkip)
  (mSeq (mSet 13 (xLst (xLc (xfMt (fun d ds => (dSplit d ds).map (·.map PyData.str)) (xVar 5) (xaCons (xC (.str "\n")) xaNil)) [10] (bName 10) (xT (xOp (dIn true) (xSlS (xVar 10) (xoSome (xOp dAdd (xC (.int 2)) (xOp dMul (xC (.int 3)) (xVar 11)))) (xoSome (xOp dAdd (xC (.int 5)) (xOp dMul (xC (.int 3)) (xVar 11))))) (xLst (xDisp (xaCons (xC (.str "   ")) (xaCons (xC (.str "  |")) xaNil)))))) (xFn dInt (xaCons (xOp dIx (xVar 10) (xC (.int 0))) xaNil)))))
  (mIf (xT (xOp dNe (xVar 13) (xFn m_slots_after (xaCons (xVar 3) (xaCons (xVar 11) xaNil))))) (mRet (xC (.bool false)))
  mSkip))))
def turnB : MM := (mForget [2, 3, 4, 5, 6, 7, 8, 9, 10, 11, 12, 13] (mSeq (mSet 3 (xCallT 1 m__law_core (xaCons (xCallT 1 m__law_draw (xaCons (xC (.int 4)) xaNil)) (xaCons (xC (.int 4)) (xaCons (xC (.int 16)) xaNil)))))
  (mSeq (mSet 4 (xTup (xaCons (xOp dIx (xVar 3) (xC (.int 0))) (xaCons (xLst (xSeq (xOp dIx (xVar 3) (xC (.int 1))))) (xaCons (xLst (xSeq (xOp dIx (xVar 3) (xC (.int 2))))) (xaCons (xLst (xSeq (xOp dIx (xVar 3) (xC (.int 3))))) xaNil))))))
  (mSeq (mSet 5 (xFn m_draw_core (xaCons (xVar 4) xaNil)))
  (mSeq (mSetF 6 (xLc (xRg1 (xOp dIx (xVar 3) (xC (.int 0)))) [11] (bName 11) xYes (xVar 11)))
  (mSeq (mFor (xSeq (xOp dIx (xVar 3) (xC (.int 1)))) (bName 7) newB)
  (mSeq (mSetF 8 (xDisp xaNil))
  (mSeq (mFor (xfMap dSorted (xList (xVar 6))) (bName 9) slotB)
  (mSeq (mIf (xOr (xT (xOp dNe (xVar 5) (xMt dJoin (xC (.str "\n")) (xaCons (xVar 8) xaNil)))) (xT (xOp dNe (xVar 4) (xVar 3)))) (mRet (xC (.bool false)))
  mSkip)
  (mIf (xT (xOp dGt (xFn dLen (xaCons (xVar 6) xaNil)) (xC (.int 0)))) (mSeq (mSet 12 (xLst (xfMap m__law_read_again (xaCons (xLst (xfMt (fun d ds => (dSplit d ds).map (·.map PyData.str)) (xVar 5) (xaCons (xC (.str "\n")) xaNil))) (xaCons (xFn dLen (xaCons (xOp dIx (xVar 3) (xC (.int 1))) xaNil)) xaNil)))))
  (mFor (xRg1 (xFn dLen (xaCons (xOp dIx (xVar 3) (xC (.int 1))) xaNil))) (bName 11) backB))
  mSkip))))))))))
def mb_law2 : MM := (mSeq (mSetF 1 (xfMap m__law_feed (xaCons (xVar 0) xaNil)))
  (mSeq (mFor (xRg1 (xC (.int 3))) (bName 2) turnB)
  (mRet (xAndV (xT (xOp dEq (xFn m_draw_core (xaCons (xTup (xaCons (xC (.int 1)) (xaCons (xLst (xDisp (xaCons (xTup (xaCons (xC (.str "new")) (xaCons (xC (.int 2)) xaNil))) (xaCons (xTup (xaCons (xC (.str "turn")) (xaCons (xC (.str "cx")) (xaCons (xLst (xDisp (xaCons (xC (.int 2)) (xaCons (xC (.int 0)) xaNil)))) xaNil)))) (xaCons (xTup (xaCons (xC (.str "read")) (xaCons (xC (.int 0)) (xaCons (xC (.int 0)) xaNil)))) (xaCons (xTup (xaCons (xC (.str "fix")) (xaCons (xC (.str "X")) (xaCons (xC (.int 2)) (xaCons (xLst (xDisp (xaCons (xC (.int 0)) xaNil))) xaNil))))) xaNil)))))) (xaCons (xLst (xDisp (xaCons (xC (.int 2)) xaNil))) (xaCons (xLst (xDisp xaNil)) xaNil))))) xaNil)) (xC (.str "0:----+--M    \n2:  |-*-----x-")))) (xOp dEq (xFn m_draw_core (xaCons (xTup (xaCons (xC (.int 0)) (xaCons (xLst (xDisp xaNil)) (xaCons (xLst (xDisp xaNil)) (xaCons (xLst (xDisp xaNil)) xaNil))))) xaNil)) (xC (.str "")))))))
theorem law_eq : mb_law = mb_law2 := rfl
def raB : MM := (mForget [3, 4, 5] (mSeq (mSet 4 (xLst (xLc (xSeq (xVar 0)) [6] (bName 6) xYes (xTup (xaCons (xOp dIx (xVar 6) (xC (.int 0))) (xaCons (xSlS (xVar 6) (xoSome (xOp dAdd (xC (.int 2)) (xOp dMul (xC (.int 3)) (xVar 3)))) (xoSome (xOp dAdd (xC (.int 5)) (xOp dMul (xC (.int 3)) (xVar 3))))) xaNil))))))
  (mSeq (mSet 5 (xLst (xLc (xSeq (xVar 4)) [7] (bName 7) (xT (xOp (dIn true) (xOp dIx (xVar 7) (xC (.int 1))) (xLst (xDisp (xaCons (xC (.str "---")) (xaCons (xC (.str "   ")) xaNil)))))) (xVar 7))))
  (mApp 2 (xVar 5)))))
def mb_ra2 : MM := (mSeq (mSetF 2 (xDisp xaNil))
  (mSeq (mFor (xRg1 (xVar 1)) (bName 3) raB)
  (mRet (xLst (xOwn 2)))))
theorem ra_eq : mb__law_read_again = mb_ra2 := rfl

/-! ## the law's own lines -/
theorem join_snoc (b : Str) (xs : List Str) (x : Str) : b ++ Str.join "" (xs ++ [x]) = b ++ Str.join "" xs ++ x := by
  apply tl_ext
  rw [tl_app, tl_app, tl_app, join_empty, join_empty, List.flatMap_append, List.append_assoc]
  simp
theorem line_loop {ins : Int} {rs : List Rw} {o1 o2 : D} (hi : ins ≤ 6) (hi0 : 0 ≤ ins) (hr : rs.length ≤ 1000) (h : NmAll rs) {s : Int} (hs : 0 ≤ s ∧ s < 6) (a0 a1 a2 a4 a5 a6 a7 a8 b1 b2 b3 : Option D) :
    forL (bName 11) lineB ((rgI 0 rs.length).map PyData.int) [a0, a1, a2, some (coreD ins rs o1 o2), a4, a5, a6, a7, a8, some (.int s), some (.str (dig s ++ ":")), none, b1, b2, b3] = some (.nx [a0, a1, a2, some (coreD ins rs o1 o2), a4, a5, a6, a7, a8, some (.int s), some (.str (lineS ins rs s)), none, b1, b2, b3]) := by
  have L := for_st (b := bName 11) (m := lineB) PyData.int (fun done => [a0, a1, a2, some (coreD ins rs o1 o2), a4, a5, a6, a7, a8, some (.int s), some (.str (dig s ++ ":" ++ Str.join "" (done.map (sgAt ins rs s)))), none, b1, b2, b3]) (rgI 0 rs.length) fun d k r e => by
    have hk := rgI_mem.mp (show k ∈ rgI 0 rs.length by rw [e]; simp)
    have l1 := congrArg List.length e
    rw [rgI_len, List.length_append, List.length_cons] at l1
    have dl := dig_len hs
    have z : (dig s ++ ":" ++ Str.join "" (d.map (sgAt ins rs s))).length + (sgAt ins rs s k).length ≤ 1000000 := by
      rw [tl_len, tl_len, tl_app, tl_app, join_empty, List.length_append, List.length_append, List.flatMap_map, flat_len (c := 3) d fun k _ => sgAt_len h s k, sgAt_len h s k, ← tl_len, dl, tl_os]
      have : (":" : String).toList.length = 1 := by decide
      rw [List.length_map, this]
      omega
    have a1' := dAdd_s z
    have g := atI_mapg enc rs hk.1 hk.2
    have ls : m__law_signs [enc (gtI rs k), .int s, iL (uAt ins rs k)] = some (.str (sgAt ins rs s k)) := law_signs_spec (h.at k)
    refine ⟨_, rfl, ?_⟩
    rw [List.map_append, List.map_cons, List.map_nil, join_snoc]
    simp [lineB, g, slots_after_spec hi hr hk.1 hi0, ls, a1']
  have e0 : dig s ++ ":" ++ Str.join "" (([] : List Int).map (sgAt ins rs s)) = dig s ++ ":" := by
    apply tl_ext
    rw [tl_app, join_empty]
    simp
  simp only [e0] at L
  rw [L]
  rfl
theorem slot_loop {ins : Int} {rs : List Rw} {o1 o2 : D} (hi : ins ≤ 6) (hi0 : 0 ≤ ins) (hr : rs.length ≤ 1000) (h : NmAll rs) (a0 a1 a2 a4 a5 a6 a7 b1 b2 b3 : Option D) :
    forL (bName 9) slotB ((everD ins rs).map PyData.int) [a0, a1, a2, some (coreD ins rs o1 o2), a4, a5, a6, a7, some (.list []), none, none, none, b1, b2, b3] = some (.nx [a0, a1, a2, some (coreD ins rs o1 o2), a4, a5, a6, a7, some (sL ((everD ins rs).map (lineS ins rs))), none, none, none, b1, b2, b3]) := by
  have L := for_st (b := bName 9) (m := slotB) PyData.int (fun done => [a0, a1, a2, some (coreD ins rs o1 o2), a4, a5, a6, a7, some (sL (done.map (lineS ins rs))), none, none, none, b1, b2, b3]) (everD ins rs) fun d s r e => by
    have hs : 0 ≤ s ∧ s < 6 := everD_bd (by rw [e]; simp)
    have l1 := congrArg List.length e
    rw [List.length_append, List.length_cons] at l1
    have l2 := everD_len ins rs
    have dl := dig_len hs
    have d1 : dAdd (.str (dig s)) (.str ":") = some (.str (dig s ++ ":")) := dAdd_s (by rw [dl, len_os]; decide)
    have LL := fun a8 => line_loop (o1 := o1) (o2 := o2) hi hi0 hr h hs a0 a1 a2 a4 a5 a6 a7 a8 b1 b2 b3
    refine ⟨_, rfl, ?_⟩
    simp [slotB, dStr_s hs, d1, mFor_ap, kFor_ap, dRg_map, LL, show (rs.length : Int) ≤ 1000000 by omega, show d.length ≤ 1000000 by omega]
  simpa [sL] using L
theorem new_loop {ins : Int} {rs : List Rw} (hi : ins ≤ 6) (hr : rs.length ≤ 1000) (a0 a1 a2 a3 a4 a5 a8 b1 b2 b3 b4 b5 b6 : Option D) :
    forL (bName 7) newB (rs.map enc) [a0, a1, a2, a3, a4, a5, some (iL (rgI 0 ins)), none, a8, b1, b2, b3, b4, b5, b6] = some (.nx [a0, a1, a2, a3, a4, a5, some (iL (EL ins rs)), none, a8, b1, b2, b3, b4, b5, b6]) := by
  have L := for_st (b := bName 7) (m := newB) enc (fun done => [a0, a1, a2, a3, a4, a5, some (iL (EL ins done)), none, a8, b1, b2, b3, b4, b5, b6]) rs fun d r r' e => by
    have l1 := congrArg List.length e
    rw [List.length_append, List.length_cons] at l1
    have l2 := newFold_len d (rgI 0 ins)
    rw [rgI_len] at l2
    have l3 : (EL ins d).length ≤ 1000000 := by unfold EL; omega
    have e2 : EL ins (d ++ [r]) = newF (EL ins d) r := by unfold EL; rw [List.foldl_append]; rfl
    refine ⟨_, rfl, ?_⟩
    rw [e2]
    generalize EL ins d = E at l3
    cases r with
    | new s => by_cases c : s ∈ E <;> simp [newB, enc, newF, c, l3]
    | _ => simp [newB, enc, newF]
  exact L
/-! ## the text read again -/
theorem blocks {f : Int → List Nat} {c : Nat} : ∀ (xs : List Int) (i : Nat) (x : Int), (∀ x ∈ xs, (f x).length = c) → xs[i]? = some x → ((xs.flatMap f).drop (c * i)).take c = f x
  | [], i, x, _, e => by simp at e
  | y :: r, 0, x, h, e => by
    have e' : y = x := by simpa using e
    subst e'
    rw [List.flatMap_cons, Nat.mul_zero, List.drop_zero, List.take_append_of_le_length (by rw [h y List.mem_cons_self]; exact Nat.le_refl _), List.take_of_length_le (by rw [h y List.mem_cons_self]; exact Nat.le_refl _)]
  | y :: r, i + 1, x, h, e => by
    have e' : r[i]? = some x := by simpa using e
    rw [List.flatMap_cons, Nat.mul_add, Nat.mul_one, Nat.add_comm, ← List.drop_drop, List.drop_left' (h y List.mem_cons_self)]
    exact blocks r i x (fun z hz => h z (List.mem_cons_of_mem _ hz)) e'
theorem cut_sign {ins : Int} {rs : List Rw} (h : NmAll rs) {s k : Int} (hs : 0 ≤ s ∧ s < 6) (h0 : 0 ≤ k) (hk : k < rs.length) : cutS (lineS ins rs s) (some (2 + 3 * k)) (some (5 + 3 * k)) = sgAt ins rs s k := by
  have e1 : 2 + 3 * k = ((2 + 3 * k.toNat : Nat) : Int) := by omega
  have e2 : 5 + 3 * k = ((5 + 3 * k.toNat : Nat) : Int) := by omega
  have ll := line_len (ins := ins) h hs
  rw [tl_len] at ll
  apply tl_ext
  rw [e1, e2, cutS_tl _ _ _ (by omega) (by rw [ll]; omega), line_tl hs]
  have e3 : 5 + 3 * k.toNat - (2 + 3 * k.toNat) = 3 := by omega
  rw [e3, ← List.drop_drop]
  have e5 : List.drop 2 ([48 + s.toNat, 58] ++ (rgI 0 rs.length).flatMap fun k => tl (sgAt ins rs s k)) = (rgI 0 rs.length).flatMap fun k => tl (sgAt ins rs s k) := rfl
  rw [e5]
  have e4 : (rgI 0 rs.length)[k.toNat]? = some k := by
    rw [rgI_get _ _ _ (by omega)]
    exact congrArg some (by omega)
  exact blocks (rgI 0 rs.length) k.toNat k (fun k _ => sgAt_len h s k) e4
theorem head_line {ins : Int} {rs : List Rw} (h : NmAll rs) (hr : rs.length ≤ 1000) {s : Int} (hs : 0 ≤ s ∧ s < 6) : dIx (.str (lineS ins rs s)) (.int 0) = some (.str (dig s)) := by
  have ll := line_len (ins := ins) h hs
  show (if (lineS ins rs s).length ≤ sizeLine then (atI (tl (lineS ins rs s)) 0).map (fun c => PyData.str ⟨#[c]⟩) else none) = _
  rw [if_pos (sz1M (by omega)), line_tl hs]
  have e0 : atI ([48 + s.toNat, 58] ++ (rgI 0 rs.length).flatMap fun k => tl (sgAt ins rs s k)) 0 = some (48 + s.toNat) := atI_natq _ 0
  rw [e0]
  show some (PyData.str ⟨#[48 + s.toNat]⟩) = _
  have : (⟨#[48 + s.toNat]⟩ : Str) = dig s := tl_ext (by rw [dig_tl hs])
  rw [this]
theorem dInt_dig {s : Int} (hs : 0 ≤ s ∧ s < 6) : dInt [.str (dig s)] = some (.int s) := by
  have h : PySem.intText? (dig s) = some s := by
    rcases six hs with rfl | rfl | rfl | rfl | rfl | rfl <;> decide +kernel
  show (if (dig s).length ≤ 640 then (PySem.intText? (dig s)).map PyData.int else none) = _
  rw [if_pos (Nat.le_trans (Nat.le_of_eq (dig_len hs)) (by decide)), h, Option.map_some]
theorem dIn_two (neg : Bool) (x a b : Str) : dIn neg (.str x) (.list [.str a, .str b]) = some (.bool (if neg then !decide (x ∈ [a, b]) else decide (x ∈ [a, b]))) := dIn_strs neg x [a, b]
def pr (ins : Int) (rs : List Rw) (k s : Int) : D := .tuple [.str (dig s), .str (sgAt ins rs s k)]
def agD (ins : Int) (rs : List Rw) (S : List Int) (k : Int) : List Int := S.filter fun s => s ∈ slots (gtI rs k)
theorem read_again_spec {ins : Int} {rs : List Rw} {S : List Int} (h : NmAll rs) (hr : rs.length ≤ 1000) (hS : ∀ s ∈ S, 0 ≤ s ∧ s < 6) (hl : S.length ≤ 6) : m__law_read_again [sL (S.map (lineS ins rs)), .int rs.length] = some ((rgI 0 rs.length).map fun k => .list ((agD ins rs S k).map (pr ins rs k))) := by
  have L := for_st (b := bName 3) (m := raB) PyData.int (fun done => [some (sL (S.map (lineS ins rs))), some (.int rs.length), some (.list (done.map fun k => .list ((agD ins rs S k).map (pr ins rs k)))), none, none, none, none, none]) (rgI 0 rs.length) fun d k r e => by
    have hk := rgI_mem.mp (show k ∈ rgI 0 rs.length by rw [e]; simp)
    have l1 := congrArg List.length e
    rw [rgI_len, List.length_append, List.length_cons] at l1
    have K1 := fun a b => kLc_map (vs := [6]) (b := bName 6) (t := xYes) (e := xTup (xaCons (xOp dIx (xVar 6) (xC (.int 0))) (xaCons (xSlS (xVar 6) (xoSome (xOp dAdd (xC (.int 2)) (xOp dMul (xC (.int 3)) (xVar 3)))) (xoSome (xOp dAdd (xC (.int 5)) (xOp dMul (xC (.int 3)) (xVar 3))))) xaNil))) (PyData.str ∘ lineS ins rs) (pr ins rs k) (s := [some a, some (.int rs.length), b, some (.int k), none, none, none, none]) (xs := S) (by omega) fun s hs => by
      have hs' := hS s hs
      have ll := line_len (ins := ins) h hs'
      refine ⟨_, rfl, rfl, ?_⟩
      simp [head_line h hr hs', cut_sign h hs' hk.1 hk.2, pr, show (lineS ins rs s).length ≤ 1000000 by omega]
    have K2 := fun a b c => kLc_pure (vs := [7]) (b := bName 7) (t := xT (xOp (dIn true) (xOp dIx (xVar 7) (xC (.int 1))) (xLst (xDisp (xaCons (xC (.str "---")) (xaCons (xC (.str "   ")) xaNil)))))) (e := xVar 7) (pr ins rs k) (fun s => s ∈ slots (gtI rs k)) (pr ins rs k) (s := [some a, some (.int rs.length), b, some (.int k), some c, none, none, none]) (xs := S) (by omega) fun s hs => by
      have ti := told_iff (h.at k) s (uAt ins rs k)
      have hd : dIn true (.str (sgAt ins rs s k)) (.list [.str "---", .str "   "]) = some (.bool (decide (s ∈ slots (gtI rs k)))) := by
        rw [dIn_two]
        unfold sgAt
        by_cases c : s ∈ slots (gtI rs k)
        · rw [decide_eq_false fun z => ti.mp z c, decide_eq_true c]; rfl
        · rw [decide_eq_true (ti.mpr c), decide_eq_false c]; rfl
      refine ⟨_, rfl, ?_⟩
      simp [pr, hd]
    refine ⟨_, rfl, ?_⟩
    simp [sL] at K1 K2
    simp [raB, xLc_ap, sL, K1, K2, agD, show d.length ≤ 1000000 by omega]
  simp [sL] at L
  simp [m__law_read_again, fnL, ra_eq, mb_ra2, startM, mFor_ap, kFor_ap, dRg_map, sL, L, outL, show (rs.length : Int) ≤ 1000000 by omega]
end Tk08
end Z


namespace Z
open PySem PySem.Spec PyProof.Rows L2
namespace Tk08
/-! ## what is told of a row -/
theorem slots_bd {ins : Int} {rs : List Rw} (hi : ins ≤ 6) (h : Wf ins rs) {k : Int} (h0 : 0 ≤ k) (hk : k < rs.length) : ∀ s ∈ slots (gtI rs k), 0 ≤ s ∧ s < 6 := fun s hs => everD_bd (slots_ever hi h h0 hk hs)
theorem sSort_perm {a b : List Str} (h : a.Perm b) : sSort a = sSort b := by
  have tot : ∀ a b : Str, (sLe a b || sLe b a) = true := sLe_tot
  have p1 : (sSort a).Pairwise (fun a b => sLe a b = true) := List.pairwise_mergeSort sLe_tr tot a
  have p2 : (sSort b).Pairwise (fun a b => sLe a b = true) := List.pairwise_mergeSort sLe_tr tot b
  exact uniq_pw sLe_anti p1 p2 ((List.mergeSort_perm a sLe).trans (h.trans (List.mergeSort_perm b sLe).symm))
theorem sSort_one (x : Str) : sSort [x] = [x] := by unfold sSort; exact List.mergeSort_singleton x
theorem told_spec {r : Rw} (h : ∀ s ∈ slots r, 0 ≤ s ∧ s < 6) : m__law_told [enc r] = some ((sSort ((slots r).map dig)).map PyData.str) := by
  have K := fun (a : D) => kLc_map (vs := [1]) (b := bName 1) (t := xYes) (e := xFn dStr (xaCons (xVar 1) xaNil)) PyData.int (fun s => .str (dig s)) (s := [some a, none]) (xs := slots r) (Nat.le_trans (slots_le r) (by decide)) fun s hs => by
    refine ⟨_, rfl, rfl, ?_⟩
    simp [dStr_s (h s hs)]
  have ds : dSorted ((slots r).map fun s => .str (dig s)) = some ((sSort ((slots r).map dig)).map PyData.str) := by
    have := dSorted_strs (xs := (slots r).map dig) (by rw [List.length_map]; have := slots_le r; omega)
    rw [List.map_map] at this
    exact this
  cases r with
  | new s => simp [m__law_told, fnL, mb__law_told, startM, enc, outL, slots, sSort_one, dStr_s (h s (by simp [slots]))]
  | read s b => simp [m__law_told, fnL, mb__law_told, startM, enc, outL, slots, sSort_one, dStr_s (h s (by simp [slots]))]
  | fix c s t => simp [m__law_told, fnL, mb__law_told, startM, enc, outL, slots, sSort_one, dStr_s (h s (by simp [slots]))]
  | t1 n s =>
    simp [slots] at K ds
    simp [m__law_told, fnL, mb__law_told, startM, enc, outL, slots, xLc_ap, K, ds]
  | t2 n a b =>
    simp [slots] at K ds
    simp [m__law_told, fnL, mb__law_told, startM, enc, outL, slots, xLc_ap, K, ds]
theorem no_nl {r : Rw} (h : nm r) (s : Int) (U : List Int) : 10 ∉ tl (Str.ofString (signS r s U)) := by
  have A : 10 ∉ tl (Str.ofString (act r s)) := by
    rw [tl_os]
    cases r with
    | new a => show 10 ∉ ("  |" : String).toList.map Char.toNat; decide
    | read a b => show 10 ∉ ("-M " : String).toList.map Char.toNat; decide
    | fix c a t =>
      have h' : c = "X" ∨ c = "Y" ∨ c = "Z" := by simpa [nm] using h
      rcases h' with rfl | rfl | rfl <;> simp (decide := true) [act]
    | t1 n a =>
      have h' : n = "h" ∨ n = "s" ∨ n = "r" ∨ n = "x" ∨ n = "y" ∨ n = "z" := by simpa [nm] using h
      rcases h' with rfl | rfl | rfl | rfl | rfl | rfl <;> simp (decide := true) [act]
    | t2 n a b =>
      have h' : n = "cx" ∨ n = "cz" ∨ n = "sw" := by simpa [nm] using h.1
      by_cases e : s = a <;> rcases h' with rfl | rfl | rfl <;> simp (decide := true) [act, e]
  unfold signS
  split
  · exact A
  · rw [tl_os]
    split <;> decide
theorem line_free {ins : Int} {rs : List Rw} (h : NmAll rs) {s : Int} (hs : 0 ≤ s ∧ s < 6) : 10 ∉ tl (lineS ins rs s) := by
  rw [line_tl hs, List.mem_append, List.mem_flatMap]
  rintro (z | ⟨k, _, z⟩)
  · simp at z; omega
  · exact no_nl (h.at k) s (uAt ins rs k) z
theorem text_split {ins : Int} {rs : List Rw} (h : NmAll rs) (hr : rs.length ≤ 1000) (hne : everD ins rs ≠ []) : dSplit (.str (textS ins rs)) [.str "\n"] = some ((everD ins rs).map (lineS ins rs)) := by
  have e1 : Txt.split (textS ins rs) "\n" = (everD ins rs).map (lineS ins rs) := by
    have := TL.split_join (y := ("\n" : Str)) (s := 10) (S := []) (by decide +kernel) (by decide +kernel) (parts := (everD ins rs).map (lineS ins rs)) (by simpa using hne) fun p hp => by
      obtain ⟨s, hs, rfl⟩ := List.mem_map.mp hp
      exact line_free h (everD_bd hs)
    rw [txt_join] at this
    exact this
  have e2 : (textS ins rs).length + 2 ≤ 1000000 := by
    have := PySem.StrLaws.join_length_le ("\n" : Str) ((everD ins rs).map (lineS ins rs))
    rw [sum_lens (c := 2 + 3 * rs.length) _ fun s hs => line_len h (everD_bd hs), List.length_map, len_os] at this
    have e : ("\n" : String).length = 1 := by decide
    rw [e] at this
    have h1 : (2 + 3 * rs.length) * (everD ins rs).length ≤ 3002 * 6 := Nat.mul_le_mul (by omega) (everD_len ins rs)
    have h2 := everD_len ins rs
    unfold textS
    omega
  show (if ((("\n" : Str).length == 0) = false ∧ (textS ins rs).length + 2 ≤ sizeLine) then some (Txt.split (textS ins rs) "\n") else none) = _
  rw [if_pos ⟨by decide +kernel, sz1M e2⟩, e1]
theorem atI_rg (f : Int → D) {n k : Int} (h0 : 0 ≤ k) (hk : k < n) : atI ((rgI 0 n).map f) k = some (f k) := by
  have e : k = ((k.toNat : Nat) : Int) := by omega
  have q := atI_natq ((rgI 0 n).map f) k.toNat
  rw [← e, List.getElem?_map, rgI_get _ _ _ (by omega)] at q
  rw [q]
  show some (f (0 + (k.toNat : Nat))) = _
  rw [← e, Int.zero_add]
theorem strOk_dig (s : Int) : PyData.strOk (dig s) = true := strOk_os _
theorem back_loop {ins : Int} {rs : List Rw} {o1 o2 : D} (hi : ins ≤ 6) (hi0 : 0 ≤ ins) (hr : rs.length ≤ 1000) (hw : Wf ins rs) (hne : everD ins rs ≠ []) (a0 a1 a2 a4 a6 a7 a8 a9 b4 : Option D) :
    forL (bName 11) backB ((rgI 0 rs.length).map PyData.int) [a0, a1, a2, some (coreD ins rs o1 o2), a4, some (.str (textS ins rs)), a6, a7, a8, a9, none, none, some (.list ((rgI 0 rs.length).map fun k => .list ((agD ins rs (everD ins rs) k).map (pr ins rs k)))), none, b4] = some (.nx [a0, a1, a2, some (coreD ins rs o1 o2), a4, some (.str (textS ins rs)), a6, a7, a8, a9, none, none, some (.list ((rgI 0 rs.length).map fun k => .list ((agD ins rs (everD ins rs) k).map (pr ins rs k)))), none, b4]) := by
  have h := hw.nm
  have L := for_st (b := bName 11) (m := backB) PyData.int (fun done => [a0, a1, a2, some (coreD ins rs o1 o2), a4, some (.str (textS ins rs)), a6, a7, a8, a9, none, none, some (.list ((rgI 0 rs.length).map fun k => .list ((agD ins rs (everD ins rs) k).map (pr ins rs k)))), none, b4]) (rgI 0 rs.length) fun d k r e => by
    have hk := rgI_mem.mp (show k ∈ rgI 0 rs.length by rw [e]; simp)
    have l2 := everD_len ins rs
    have l3 := List.length_filter_le (fun s => decide (s ∈ slots (gtI rs k))) (everD ins rs)
    have K1 := fun a5 a12 => kLc_map (vs := [14]) (b := bName 14) (t := xYes) (e := xOp dIx (xVar 14) (xC (.int 0))) (pr ins rs k) (fun s => .str (dig s)) (s := [a0, a1, a2, some (coreD ins rs o1 o2), a4, a5, a6, a7, a8, a9, none, some (.int k), a12, none, b4]) (xs := agD ins rs (everD ins rs) k) (by unfold agD; omega) fun s hs => by
      refine ⟨_, rfl, rfl, ?_⟩
      simp [pr]
    have so : dSorted ((agD ins rs (everD ins rs) k).map fun s => .str (dig s)) = some ((sSort ((slots (gtI rs k)).map dig)).map PyData.str) := by
      have := dSorted_strs (xs := (agD ins rs (everD ins rs) k).map dig) (by rw [List.length_map]; unfold agD; omega)
      rw [List.map_map] at this
      have nd : (slots (gtI rs k)).Nodup := by
        have o := hw.at k hk.1 hk.2
        cases e : gtI rs k with
        | t2 n a b =>
          rw [e] at o
          simp only [slots, List.nodup_cons, List.mem_singleton, List.not_mem_nil, not_false_eq_true, List.nodup_nil, and_true]
          exact o.2.2.1
        | _ => simp [slots]
      have p : (agD ins rs (everD ins rs) k).Perm (slots (gtI rs k)) := by
        refine (List.perm_ext_iff_of_nodup ((nodup_of_lt ((rgI_lt 0 6).filter _)).filter _) nd).mpr fun x => ?_
        show x ∈ (everD ins rs).filter (fun s => decide (s ∈ slots (gtI rs k))) ↔ _
        rw [List.mem_filter, decide_eq_true_eq]
        exact ⟨fun z => z.2, fun z => ⟨slots_ever hi hw hk.1 hk.2 z, z⟩⟩
      rw [sSort_perm (p.map dig)] at this
      exact this
    have ll : ∀ s ∈ everD ins rs, (lineS ins rs s).length ≤ 1000000 := fun s hs => by
      rw [line_len h (everD_bd hs)]; omega
    have K2 := fun a5 a12 => kLc_pure (vs := [10]) (b := bName 10) (t := xT (xOp (dIn true) (xSlS (xVar 10) (xoSome (xOp dAdd (xC (.int 2)) (xOp dMul (xC (.int 3)) (xVar 11)))) (xoSome (xOp dAdd (xC (.int 5)) (xOp dMul (xC (.int 3)) (xVar 11))))) (xLst (xDisp (xaCons (xC (.str "   ")) (xaCons (xC (.str "  |")) xaNil)))))) (e := xFn dInt (xaCons (xOp dIx (xVar 10) (xC (.int 0))) xaNil)) (PyData.str ∘ lineS ins rs) (fun s => s ∈ uAt ins rs k) PyData.int (s := [a0, a1, a2, some (coreD ins rs o1 o2), a4, a5, a6, a7, a8, a9, none, some (.int k), a12, none, b4]) (xs := everD ins rs) (by omega) fun s hs => by
      have hs' := everD_bd hs
      have ti := used_iff (hw.at k hk.1 hk.2) s
      have hd : dIn true (.str (sgAt ins rs s k)) (.list [.str "   ", .str "  |"]) = some (.bool (decide (s ∈ uAt ins rs k))) := by
        rw [dIn_two]
        unfold sgAt
        by_cases c : s ∈ uAt ins rs k
        · rw [decide_eq_false fun z => ti.mp z c, decide_eq_true c]; rfl
        · rw [decide_eq_true (ti.mpr c), decide_eq_false c]; rfl
      refine ⟨_, rfl, ?_⟩
      simp [ll s hs, cut_sign h hs' hk.1 hk.2, hd, head_line h hr hs', dInt_dig hs']
    have us : (everD ins rs).filter (fun s => decide (s ∈ uAt ins rs k)) = uAt ins rs k := by
      refine lt_ext (((rgI_lt 0 6).filter _).filter _) (uAt_sl hi hw k).lt fun x => ?_
      rw [List.mem_filter, decide_eq_true_eq]
      exact ⟨fun z => z.2, fun z => ⟨uAt_ever hi hw z, z⟩⟩
    rw [us] at K2
    have ne1 : dNe (.list ((sSort ((slots (gtI rs k)).map dig)).map PyData.str)) (.list ((sSort ((slots (gtI rs k)).map dig)).map PyData.str)) = some (.bool false) := dNe_refl (shaped_strs fun x hx => by
      have := (List.mergeSort_perm ((slots (gtI rs k)).map dig) sLe).mem_iff.mp hx
      obtain ⟨s, _, rfl⟩ := List.mem_map.mp this
      exact strOk_dig s)
    have ne2 : dNe (iL (uAt ins rs k)) (iL (uAt ins rs k)) = some (.bool false) := dNe_refl (shaped_ints _)
    have g := atI_mapg enc rs hk.1 hk.2
    have g2 := atI_rg (fun k => .list ((agD ins rs (everD ins rs) k).map (pr ins rs k))) hk.1 hk.2
    have sp := text_split h hr hne
    refine ⟨_, rfl, ?_⟩
    simp at K1 K2
    simp [backB, xLc_ap, g2, K1, so, g, told_spec (slots_bd hi hw hk.1 hk.2), ne1, sp, K2, slots_after_spec hi hr hk.1 hi0, ne2]
  exact L
/-! ## a turn of the law, the law -/
theorem enc_can {r : Rw} : (enc r).canLay0 = true ∧ (enc r).depth ≤ 2 := by
  cases r <;> simp [enc, PyData.canLay0, PyData.canLayAll0, PyData.depth, PyData.depthAll, strOk_os, canLay_ints, depth_ints]
theorem core_shaped (ins : Int) (rs : List Rw) (o sh : List Int) : SeqAt.shaped (coreD ins rs (iL o) (iL sh)) = true := by
  have c := canLay_map enc rs fun r _ => (enc_can (r := r)).1
  have d := depth_map enc 2 rs fun r _ => (enc_can (r := r)).2
  have e : (PyData.depth (coreD ins rs (iL o) (iL sh))) ≤ 64 := by
    simp [PyData.depth, PyData.depthAll, depth_ints]
    omega
  unfold SeqAt.shaped
  rw [Bool.and_eq_true, decide_eq_true_eq]
  exact ⟨by simp [PyData.canLay0, PyData.canLayAll0, canLay_ints, c], e⟩
theorem strOk_join {a : Str} (ha : PyData.strOk a = true) : ∀ xs : List Str, (∀ x ∈ xs, PyData.strOk x = true) → PyData.strOk (Str.join a xs) = true
  | [], _ => (by show PyData.strOk Str.empty = true; decide +kernel)
  | [x], h => h x List.mem_cons_self
  | x :: y :: r, h => strOk_app (strOk_app (h x List.mem_cons_self) ha) (strOk_join ha (y :: r) fun z hz => h z (List.mem_cons_of_mem _ hz))
theorem text_ok {ins : Int} {rs : List Rw} (h : NmAll rs) : PyData.strOk (textS ins rs) = true := by
  refine strOk_join (strOk_os _) _ fun x hx => ?_
  obtain ⟨s, _, rfl⟩ := List.mem_map.mp hx
  refine strOk_app (strOk_app (strOk_dig s) (strOk_os _)) (strOk_join (strOk_os _) _ fun y hy => ?_)
  obtain ⟨k, _, rfl⟩ := List.mem_map.mp hy
  exact strOk_os _
theorem turn_ok {fs : List D} (F : FeedOk fs) (sc tn : D) : ∃ gs, FeedOk gs ∧ turnB [some sc, some (.list fs), some tn, none, none, none, none, none, none, none, none, none, none, none, none] = some (.nx [some sc, some (.list gs), none, none, none, none, none, none, none, none, none, none, none, none, none]) := by
  obtain ⟨ins, f1, d1, i0, i1, F1⟩ := draw_spec F (n := 4) (by omega) (by omega)
  obtain ⟨rs, o, sh, f2, c1, F2, hw, hr⟩ := core_spec i0 (by omega) F1
  have h := hw.nm
  have hi : ins ≤ 6 := by omega
  have hr' : rs.length ≤ 1000 := by omega
  refine ⟨f2, F2, ?_⟩
  have dc := draw_core_spec (o1 := iL o) (o2 := iL sh) hi i0 hr' h
  have K1 := fun a1 a2 a4 a5 => kLc_map (vs := [11]) (b := bName 11) (t := xYes) (e := xVar 11) PyData.int PyData.int (s := [some sc, a1, a2, some (coreD ins rs (iL o) (iL sh)), a4, a5, none, none, none, none, none, none, none, none, none]) (xs := rgI 0 ins) (by rw [rgI_len]; omega) fun k hk => ⟨_, rfl, rfl, rfl, rfl⟩
  simp at K1
  have NL := fun a1 a2 a4 a5 => new_loop (ins := ins) (rs := rs) hi hr' (some sc) a1 a2 (some (coreD ins rs (iL o) (iL sh))) a4 a5 none none none none none none none
  have SL := fun a1 a2 a4 a5 a6 => slot_loop (ins := ins) (rs := rs) (o1 := iL o) (o2 := iL sh) hi i0 hr' h (some sc) a1 a2 a4 a5 a6 none none none none
  have es := ever_same hi hw
  have jl := join_lines (ins := ins) (rs := rs) h hr' (fun s hs => everD_bd hs) (everD_len ins rs)
  have n1 : dNe (.str (textS ins rs)) (.str (textS ins rs)) = some (.bool false) := dNe_refl (shaped_s (text_ok h))
  have n2 := dNe_refl (core_shaped ins rs o sh)
  have gi : ins ≤ 1000000 ∧ -1000000 ≤ ins := by omega
  have gn : (rs.length : Int) ≤ 1000000 := by omega
  have jl' : dJoin (.str "\n") [sL ((everD ins rs).map (lineS ins rs))] = some (.str (textS ins rs)) := jl
  simp [sL] at NL SL jl'
  by_cases hne : everD ins rs = []
  · have e0 : EL ins rs = [] := by
      have := (iSort_perm (EL ins rs)).length_eq
      rw [es, hne] at this
      exact List.eq_nil_of_length_eq_zero this.symm
    have z1 : dSorted [] = some [] := by
      have := dSorted_ints []
      rw [show iSort [] = [] by unfold iSort; exact List.mergeSort_nil] at this
      exact this
    have z2 : ∀ s, forL (bName 9) slotB [] s = some (.nx s) := fun s => rfl
    simp [hne] at jl'
    simp [e0] at NL
    simp [turnB, d1, c1, dc, xLc_ap, mFor_ap, kFor_ap, dRg_map, K1, NL, z1, z2, jl', n1, n2, gi]
  · have e0 : EL ins rs ≠ [] := fun z => by
      rw [← es, z] at hne
      exact hne (by unfold iSort; exact List.mergeSort_nil)
    have e1 : 0 < (EL ins rs).length := List.length_pos_iff.mpr e0
    have sp := text_split h hr' hne
    have ra := read_again_spec (ins := ins) h hr' (fun s hs => everD_bd hs) (everD_len ins rs)
    have BL := fun a1 a2 a4 a6 a8 => back_loop (ins := ins) (rs := rs) (o1 := iL o) (o2 := iL sh) hi i0 hr' hw hne (some sc) a1 a2 a4 a6 none a8 none none
    simp [sL] at ra BL
    simp [turnB, d1, c1, dc, xLc_ap, mFor_ap, kFor_ap, dRg_map, K1, NL, SL, es, jl', n1, n2, gi, gn, e1, sp, ra, BL]
def rs4 : List Rw := [.new 2, .t2 "cx" 2 0, .read 0 0, .fix "X" 2 [0]]
theorem text4 : textS 1 rs4 = ("0:----+--M    \n2:  |-*-----x-" : Str) := by
  have i2 : iSort [0, 2] = [0, 2] := iSort_of (by decide) (List.Perm.refl _)
  have u0 : uAt 1 rs4 0 = [0] := by decide +kernel
  have u1 : uAt 1 rs4 1 = [0, 2] := by show iSort [0, 2] = _; exact i2
  have u2 : uAt 1 rs4 2 = [0, 2] := by show iSort [0, 2] = _; exact i2
  have u3 : uAt 1 rs4 3 = [2] := by show (iSort [0, 2]).filter (fun x => decide (x ≠ 0)) = _; rw [i2]; decide
  have e : everD 1 rs4 = [0, 2] := by decide +kernel
  have r4 : rgI 0 rs4.length = [0, 1, 2, 3] := by decide +kernel
  unfold textS lineS sgs
  rw [e, r4]
  simp only [List.map_cons, List.map_nil]
  unfold sgAt
  rw [u0, u1, u2, u3]
  decide +kernel
theorem law_true : ∀ ns : List Int, ns.length ≤ 63 → m_law [.list (ns.map PyData.int)] = some (.bool true) := fun ns _ => by
  obtain ⟨fs, e1, F⟩ := feed_spec ns
  obtain ⟨s', L, gs, F', es⟩ := for_ind (b := bName 2) (m := turnB) PyData.int (fun done s => ∃ gs, FeedOk gs ∧ s = [some (.list (ns.map PyData.int)), some (.list gs), none, none, none, none, none, none, none, none, none, none, none, none, none]) (rgI 0 3) [] [some (.list (ns.map PyData.int)), some (.list fs), none, none, none, none, none, none, none, none, none, none, none, none, none] ⟨fs, F, rfl⟩ fun d x r s _ ⟨gs, F, e⟩ => by
    subst e
    obtain ⟨g2, F2, e2⟩ := turn_ok F (.list (ns.map PyData.int)) (.int x)
    exact ⟨_, _, rfl, .inl e2, g2, F2, rfl⟩
  subst es
  have h4 : NmAll rs4 := by
    intro r hr
    simp only [rs4, List.mem_cons, List.not_mem_nil, or_false] at hr
    rcases hr with rfl | rfl | rfl | rfl <;> simp [nm]
  have d1 := draw_core_spec (ins := 1) (rs := rs4) (o1 := iL [2]) (o2 := .list []) (by omega) (by omega) (by decide) h4
  have d2 := draw_core_spec (ins := 0) (rs := []) (o1 := .list []) (o2 := .list []) (by omega) (by omega) (by decide) (fun _ h => by cases h)
  have t0 : textS 0 [] = ("" : Str) := by decide +kernel
  rw [text4] at d1
  rw [t0] at d2
  simp [coreD, rs4, enc, iL] at d1 d2
  simp [m_law, fnP, law_eq, mb_law2, startM, e1, mFor_ap, kFor_ap, dRg_map, L, d1, d2, outP]
end Tk08
end Z


namespace Z
open PySem PySem.Spec PyProof.Rows L2
namespace Tk08
def fns : List He.DefD := [defD "slots_of" s_slots_of, defD "used_behind" s_used_behind, defD "slots_after" s_slots_after, defD "sign_of_turn" s_sign_of_turn, defD "sign_of" s_sign_of, defD "slots_ever" s_slots_ever, defD "draw_core" s_draw_core, defD "_law_feed" s__law_feed, defD "_law_draw" s__law_draw, defD "_law_core" s__law_core, defD "_law_signs" s__law_signs, defD "_law_read_again" s__law_read_again, defD "_law_told" s__law_told, defD "law" s_law]
def fas : List He.Fa := [.glo "slots_of", .glo "used_behind", .glo "slots_after", .glo "sign_of_turn", .glo "sign_of", .glo "slots_ever", .glo "draw_core", .glo "_law_feed", .glo "_law_draw", .glo "_law_core", .glo "_law_signs", .glo "_law_read_again", .glo "_law_told", .glo "law", .free "sorted", .free "list", .free "range", .free "len", .free "zip", .free "str", .free "abs", .free "int", .int "MOST_SLOTS" 6, .glo "LEFT", .glo "RIGHT"]
def tabs : List He.Tab := [(fun K => He.ga K "LEFT", ["cx", "cz", "sw"]), (fun K => He.ga K "RIGHT", ["cx", "cz", "sw"])]
def exB (K : PySem.W.Frag) : Bool := true && (He.valsB K (He.ga K "LEFT") kv_LEFT) && (He.valsB K (He.ga K "RIGHT") kv_RIGHT)
abbrev R : PySem.W.OpenRow := PySem.W.OpenLaw.row PySem.Challenge.rw_steadywires_k08_whole_cores_drawn
abbrev hk : PySem.W.Hook := He.hookX 5 fas fns tabs [] exB
def ob (s : PySem.W.SharedT) : He.AlX := He.obsX 5 fas fns tabs [] exB (HandSHeadRun.getT s)
theorem ob_eq (s : PySem.W.SharedT) : ob s = hk.obs s.abs := He.obsX_eq (HandSHeadRun.getT_eq s)
def loose0 : List Str := ["MOST_SLOTS", "slots_of", "used_behind", "slots_after", "LEFT", "RIGHT", "sign_of_turn", "sign_of", "slots_ever", "draw_core", "_law_feed", "_law_draw", "_law_core", "_law_signs", "_law_read_again", "_law_told"]
def loose : List Str := loose0
theorem run (w : World) : HandSHeadRun.RunEq R (PySem.W.view R.prog [19]) hk ob 1600 loose w := PySem.W.byRow2 "special-get-raises" (P := fun w => HandSHeadRun.RunEq R (PySem.W.view R.prog [19]) hk ob 1600 loose w) (fun w os => by kernel_rfl) (fun w os => by kernel_rfl) w
theorem facts {P : Program} {w : World} {K : PySem.W.Frag} {h : Heap} {mg : Str → Option Value} {f : Addr} (X : K.In h) (G : h.Ns mainGlobals mg) (hfa : mg ("law" : Str) = some (.ref f)) (c : He.SaysX fas fns tabs [] exB w h K) :
    ∃ fd : FuncData, (∀ (s : Shared) (v : Value), BindsTo s fd ⟨[v], []⟩ [("script", v)]) ∧ ∀ base : Heap, K.In base → base.Ns mainGlobals mg → FnOk P w K mg base CX0 4 f fd ["script"] (spP K m_law) := by
  obtain ⟨fd_slots_of, O_slots_of⟩ := c.t.d.def_ 0 (d := defD "slots_of" s_slots_of) rfl
  have P_slots_of : FnP K "slots_of" "slots_of" s_slots_of (He.ga K "slots_of") fd_slots_of := O_slots_of
  have hm_slots_of := He.glo_ok X G (c.t.d.fact 0 (f := .glo "slots_of") rfl)
  obtain ⟨fd_used_behind, O_used_behind⟩ := c.t.d.def_ 1 (d := defD "used_behind" s_used_behind) rfl
  have P_used_behind : FnP K "used_behind" "used_behind" s_used_behind (He.ga K "used_behind") fd_used_behind := O_used_behind
  have hm_used_behind := He.glo_ok X G (c.t.d.fact 1 (f := .glo "used_behind") rfl)
  obtain ⟨fd_slots_after, O_slots_after⟩ := c.t.d.def_ 2 (d := defD "slots_after" s_slots_after) rfl
  have P_slots_after : FnP K "slots_after" "slots_after" s_slots_after (He.ga K "slots_after") fd_slots_after := O_slots_after
  have hm_slots_after := He.glo_ok X G (c.t.d.fact 2 (f := .glo "slots_after") rfl)
  obtain ⟨fd_sign_of_turn, O_sign_of_turn⟩ := c.t.d.def_ 3 (d := defD "sign_of_turn" s_sign_of_turn) rfl
  have P_sign_of_turn : FnP K "sign_of_turn" "sign_of_turn" s_sign_of_turn (He.ga K "sign_of_turn") fd_sign_of_turn := O_sign_of_turn
  have hm_sign_of_turn := He.glo_ok X G (c.t.d.fact 3 (f := .glo "sign_of_turn") rfl)
  obtain ⟨fd_sign_of, O_sign_of⟩ := c.t.d.def_ 4 (d := defD "sign_of" s_sign_of) rfl
  have P_sign_of : FnP K "sign_of" "sign_of" s_sign_of (He.ga K "sign_of") fd_sign_of := O_sign_of
  have hm_sign_of := He.glo_ok X G (c.t.d.fact 4 (f := .glo "sign_of") rfl)
  obtain ⟨fd_slots_ever, O_slots_ever⟩ := c.t.d.def_ 5 (d := defD "slots_ever" s_slots_ever) rfl
  have P_slots_ever : FnP K "slots_ever" "slots_ever" s_slots_ever (He.ga K "slots_ever") fd_slots_ever := O_slots_ever
  have hm_slots_ever := He.glo_ok X G (c.t.d.fact 5 (f := .glo "slots_ever") rfl)
  obtain ⟨fd_draw_core, O_draw_core⟩ := c.t.d.def_ 6 (d := defD "draw_core" s_draw_core) rfl
  have P_draw_core : FnP K "draw_core" "draw_core" s_draw_core (He.ga K "draw_core") fd_draw_core := O_draw_core
  have hm_draw_core := He.glo_ok X G (c.t.d.fact 6 (f := .glo "draw_core") rfl)
  obtain ⟨fd__law_feed, O__law_feed⟩ := c.t.d.def_ 7 (d := defD "_law_feed" s__law_feed) rfl
  have P__law_feed : FnP K "_law_feed" "_law_feed" s__law_feed (He.ga K "_law_feed") fd__law_feed := O__law_feed
  have hm__law_feed := He.glo_ok X G (c.t.d.fact 7 (f := .glo "_law_feed") rfl)
  obtain ⟨fd__law_draw, O__law_draw⟩ := c.t.d.def_ 8 (d := defD "_law_draw" s__law_draw) rfl
  have P__law_draw : FnP K "_law_draw" "_law_draw" s__law_draw (He.ga K "_law_draw") fd__law_draw := O__law_draw
  have hm__law_draw := He.glo_ok X G (c.t.d.fact 8 (f := .glo "_law_draw") rfl)
  obtain ⟨fd__law_core, O__law_core⟩ := c.t.d.def_ 9 (d := defD "_law_core" s__law_core) rfl
  have P__law_core : FnP K "_law_core" "_law_core" s__law_core (He.ga K "_law_core") fd__law_core := O__law_core
  have hm__law_core := He.glo_ok X G (c.t.d.fact 9 (f := .glo "_law_core") rfl)
  obtain ⟨fd__law_signs, O__law_signs⟩ := c.t.d.def_ 10 (d := defD "_law_signs" s__law_signs) rfl
  have P__law_signs : FnP K "_law_signs" "_law_signs" s__law_signs (He.ga K "_law_signs") fd__law_signs := O__law_signs
  have hm__law_signs := He.glo_ok X G (c.t.d.fact 10 (f := .glo "_law_signs") rfl)
  obtain ⟨fd__law_read_again, O__law_read_again⟩ := c.t.d.def_ 11 (d := defD "_law_read_again" s__law_read_again) rfl
  have P__law_read_again : FnP K "_law_read_again" "_law_read_again" s__law_read_again (He.ga K "_law_read_again") fd__law_read_again := O__law_read_again
  have hm__law_read_again := He.glo_ok X G (c.t.d.fact 11 (f := .glo "_law_read_again") rfl)
  obtain ⟨fd__law_told, O__law_told⟩ := c.t.d.def_ 12 (d := defD "_law_told" s__law_told) rfl
  have P__law_told : FnP K "_law_told" "_law_told" s__law_told (He.ga K "_law_told") fd__law_told := O__law_told
  have hm__law_told := He.glo_ok X G (c.t.d.fact 12 (f := .glo "_law_told") rfl)
  obtain ⟨fd_law, O_law⟩ := c.t.d.def_ 13 (d := defD "law" s_law) rfl
  have P_law : FnP K "law" "law" s_law (He.ga K "law") fd_law := O_law
  have hm_law := He.glo_ok X G (c.t.d.fact 13 (f := .glo "law") rfl)
  have b_sorted := He.free_ok X G (c.t.d.fact 14 (f := .free "sorted") rfl)
  have b_list := He.free_ok X G (c.t.d.fact 15 (f := .free "list") rfl)
  have b_range := He.free_ok X G (c.t.d.fact 16 (f := .free "range") rfl)
  have b_len := He.free_ok X G (c.t.d.fact 17 (f := .free "len") rfl)
  have b_zip := He.free_ok X G (c.t.d.fact 18 (f := .free "zip") rfl)
  have b_str := He.free_ok X G (c.t.d.fact 19 (f := .free "str") rfl)
  have b_abs := He.free_ok X G (c.t.d.fact 20 (f := .free "abs") rfl)
  have b_int := He.free_ok X G (c.t.d.fact 21 (f := .free "int") rfl)
  have ex := c.more
  unfold exB at ex
  simp only [Bool.and_eq_true] at ex
  have ex0 := ex.1.2
  have ex1 := ex.2
  obtain ⟨u_MOST_SLOTS, v_MOST_SLOTS, g_MOST_SLOTS⟩ := gc_int X G (c.t.d.fact 22 (f := .int "MOST_SLOTS" 6) rfl)
  have g_LEFT := And.intro (He.glo_ok X G (c.t.d.fact 23 (f := .glo "LEFT") rfl)) (kdm_of (c.t.tab 0 (t := (fun K => He.ga K "LEFT", ["cx", "cz", "sw"])) rfl) ex0 : KDm K w (He.ga K "LEFT") d_LEFT)
  have g_RIGHT := And.intro (He.glo_ok X G (c.t.d.fact 24 (f := .glo "RIGHT") rfl)) (kdm_of (c.t.tab 1 (t := (fun K => He.ga K "RIGHT", ["cx", "cz", "sw"])) rfl) ex1 : KDm K w (He.ga K "RIGHT") d_RIGHT)
  have e := hfa.symm.trans hm_law
  cases e
  have bl := FunD.bindsA (ps := ["script"]) O_law fun _ _ _ _ _ _ us hl => match us, hl with | [_], _ => rfl
  refine ⟨fd_law, fun s v => bl s [v] rfl, fun base _ _ => ?_⟩
  have F_slots_of : FnAt P w K mg base 1 "slots_of" ["row"] (spP K m_slots_of) := fnAtD (st := s_slots_of) P_slots_of (ok_slots_of P_slots_of) hm_slots_of fun _ _ _ _ _ _ us hl => match us, hl with | [_], _ => rfl
  have F_used_behind : FnAt P w K mg base 1 "used_behind" ["used", "row"] (spP K m_used_behind) := fnAtD (st := s_used_behind) P_used_behind (ok_used_behind P_used_behind b_sorted) hm_used_behind fun _ _ _ _ _ _ us hl => match us, hl with | [_, _], _ => rfl
  have F_slots_after : FnAt P w K mg base 2 "slots_after" ["core", "k"] (spP K m_slots_after) := fnAtD (st := s_slots_after) P_slots_after (ok_slots_after P_slots_after b_list b_range F_used_behind) hm_slots_after fun _ _ _ _ _ _ us hl => match us, hl with | [_, _], _ => rfl
  have F_sign_of_turn : FnAt P w K mg base 1 "sign_of_turn" ["row", "slot"] (spP K m_sign_of_turn) := fnAtD (st := s_sign_of_turn) P_sign_of_turn (ok_sign_of_turn P_sign_of_turn b_len g_LEFT g_RIGHT) hm_sign_of_turn fun _ _ _ _ _ _ us hl => match us, hl with | [_, _], _ => rfl
  have F_sign_of : FnAt P w K mg base 2 "sign_of" ["row", "slot", "used"] (spP K m_sign_of) := fnAtD (st := s_sign_of) P_sign_of (ok_sign_of P_sign_of F_slots_of F_sign_of_turn) hm_sign_of fun _ _ _ _ _ _ us hl => match us, hl with | [_, _, _], _ => rfl
  have F_slots_ever : FnAt P w K mg base 2 "slots_ever" ["core"] (spL K m_slots_ever) := fnAtD (st := s_slots_ever) P_slots_ever (ok_slots_ever P_slots_ever b_list b_range g_MOST_SLOTS F_slots_of) hm_slots_ever fun _ _ _ _ _ _ us hl => match us, hl with | [_], _ => rfl
  have F_draw_core : FnAt P w K mg base 3 "draw_core" ["core"] (spP K m_draw_core) := fnAtD (st := s_draw_core) P_draw_core (ok_draw_core P_draw_core b_range b_len b_zip b_str F_slots_after F_slots_ever F_sign_of) hm_draw_core fun _ _ _ _ _ _ us hl => match us, hl with | [_], _ => rfl
  have F__law_feed : FnAt P w K mg base 1 "_law_feed" ["script"] (spL K m__law_feed) := fnAtD (st := s__law_feed) P__law_feed (ok__law_feed P__law_feed b_list) hm__law_feed fun _ _ _ _ _ _ us hl => match us, hl with | [_], _ => rfl
  have F__law_draw : FnAt P w K mg base 1 "_law_draw" ["feed", "many"] (spT K m__law_draw) := fnAtD (st := s__law_draw) P__law_draw (ok__law_draw P__law_draw b_len b_abs b_int) hm__law_draw fun _ _ _ _ _ _ us hl => match us, hl with | [_, _], _ => rfl
  have F__law_core : FnAt P w K mg base 2 "_law_core" ["feed", "ins", "wide", "most"] (spT K m__law_core) := fnAtD (st := s__law_core) P__law_core (ok__law_core P__law_core b_range b_len b_sorted b_list F__law_draw) hm__law_core fun _ _ _ _ _ _ us hl => match us, hl with | [_, _, _, _], _ => rfl
  have F__law_signs : FnAt P w K mg base 1 "_law_signs" ["row", "slot", "used"] (spP K m__law_signs) := fnAtD (st := s__law_signs) P__law_signs (ok__law_signs P__law_signs b_len) hm__law_signs fun _ _ _ _ _ _ us hl => match us, hl with | [_, _, _], _ => rfl
  have F__law_read_again : FnAt P w K mg base 1 "_law_read_again" ["lines", "count"] (spL K m__law_read_again) := fnAtD (st := s__law_read_again) P__law_read_again (ok__law_read_again P__law_read_again b_range) hm__law_read_again fun _ _ _ _ _ _ us hl => match us, hl with | [_, _], _ => rfl
  have F__law_told : FnAt P w K mg base 1 "_law_told" ["row"] (spL K m__law_told) := fnAtD (st := s__law_told) P__law_told (ok__law_told P__law_told b_sorted b_str) hm__law_told fun _ _ _ _ _ _ us hl => match us, hl with | [_], _ => rfl
  exact ok_law P_law b_range b_list b_sorted b_str b_len b_int F__law_feed F__law_core F__law_draw F_draw_core F__law_signs F_slots_after F__law_read_again F__law_told
end Tk08
end Z
open PySem PySem.W PySem.Calls PyProof.Rows
set_option maxRecDepth 100000 in
set_option maxHeartbeats 0 in
theorem PySem.Challenge.cw_steadywires_k08_whole_cores_drawn_holds : PySem.Challenge.rw_steadywires_k08_whole_cores_drawn.Holds := by
  w_on; o_law
  refine HandSHeadRun.head_any (r := OpenLaw.row PySem.Challenge.rw_steadywires_k08_whole_cores_drawn) (q := view (OpenLaw.row PySem.Challenge.rw_steadywires_k08_whole_cores_drawn).prog [19]) (H := Z.Tk08.hk) (ob := Z.Tk08.ob) (M := 1600) (loose := Z.Tk08.loose) (d := HandSHeadRun.topDef (OpenLaw.row PySem.Challenge.rw_steadywires_k08_whole_cores_drawn).prog 19) (kwd := []) Z.Tk08.ob_eq
    (by kernel_rfl) (fun s => by kernel_rfl) Z.Tk08.run (by kernel_rfl) (by kernel_rfl) (by kernel_rfl) (by rfl) (by first | assumption | decide +kernel) (by decide +kernel) ⟨rfl, rfl, rfl, rfl, rfl, by decide +kernel⟩ ?hw ?hc
  case hw => w_witness2
  case hc =>
    refine L2.walk_ofE (l := PySem.Challenge.rw_steadywires_k08_whole_cores_drawn) (n := 63) (k := 4) (x := "script") (CX := L2.CX0) rfl (by decide) (by kernel_rfl) ⟨rfl, by decide, by decide⟩ ?F (fun _ _ _ _ z => z)
    intro w mg fa h Y G hmg0
    obtain ⟨K, KX, c⟩ := Y
    have hmg : mg ("law" : PySem.Str) = some (.ref fa) := by
      have e : (HandSHeadRun.topDef (OpenLaw.row PySem.Challenge.rw_steadywires_k08_whole_cores_drawn).prog 19).name = ("law" : PySem.Str) := by kernel_rfl
      rw [← e]
      exact hmg0
    obtain ⟨fd, hb, hF⟩ := Z.Tk08.facts (P := (PySem.Challenge.rw_steadywires_k08_whole_cores_drawn).prog) (w := w) KX G hmg c
    exact ⟨K, fd, Z.spLaw K, KX, hb, fun H a ns hl _ hS => ⟨a, ns, rfl, hS, hl, fun _ => rfl⟩, fun base h1 h2 => Z.law_of (hF base h1 h2) Z.Tk08.law_true⟩


