import PyProof.Rows.All
import Wide.All
import OpenK.AllK
import Wide.FinOn
import HandS.ForMost
import HandS.SortInts
import HandS.Conv
import HandS.Zip
import HandS.Style
import HandS.More
import HandS.HeadHook1
import HandS.Exc
import HandS.Defaults
import HandS.TryMany
import HandS.Head0
import HandS.Head1
import HandS.Head2
import HandS.HeadEnd
import HandS.HeadHook2
import HandS.HeadHook3
import HandS.HeadHook4
import HandS.Text
import HandS.Codes
import HandS.IsInst
import KE.GoesZip
import KE.GoesMore
import PyProof.ListStr
import HandS.ExcOwn
import HandS.ExcField
import HandS.TryOnly
import HandS.ExcIs
import HandS.ExcInit
import PyProof.ExcBaseAll.ValueError
import KE.SortData
import HandS.SortRule
import HandS.Gcd
import HandS.Replace
import HandS.ReplaceLit
import PyProof.MeetsStr3
import PyProof.ToksMono
import PySem.Challenge.RW_steadywires_k00_whole_letters_turns_and
set_option Elab.async false
set_option linter.all false
set_option maxRecDepth 100000
set_option maxHeartbeats 4000000
namespace Z
open PySem PySem.Spec PyProof.Rows L2

/-! ## heaps, masks, data -/
abbrev D := PyData
abbrev MS := List (Option D)
def Ex (H H' : Hp) : Prop := ∀ a o, H a = some o → H' a = some o
theorem Ex.refl (H : Hp) : Ex H H := fun _ _ h => h
theorem Ex.trans {H H1 H2 : Hp} (a : Ex H H1) (b : Ex H1 H2) : Ex H H2 := fun x o h => b x o (a x o h)
theorem ex_upd {H : Hp} {p : Addr} {o : HO} (h : H p = none) : Ex H (upd H p o) := fun a u e => by
  rw [upd_ne (ne_of_none e h)]; exact e
theorem rd_ex {H H' : Hp} {a : Addr} {u : HO} (e : Ex H H') (h : Rd H a u) : Rd H' a u := by
  rcases h with h | ⟨o, h⟩
  · exact .inl (e _ _ h)
  · exact .inr ⟨o, e _ _ h⟩
theorem sql_ex {K : PySem.W.Frag} {H H' : Hp} {a : Addr} {xs : List V} (e : Ex H H') (h : SqL K H a xs) : SqL K H' a xs := by
  rcases h with (h | ⟨o, h⟩) | h
  · exact .inl (.inl (e _ _ h))
  · exact .inl (.inr ⟨o, e _ _ h⟩)
  · exact .inr h
theorem sqt_ex {K : PySem.W.Frag} {H H' : Hp} {a : Addr} {xs : List V} (e : Ex H H') (h : SqT K H a xs) : SqT K H' a xs := by
  rcases h with (h | ⟨o, h⟩) | h
  · exact .inl (.inl (e _ _ h))
  · exact .inl (.inr ⟨o, e _ _ h⟩)
  · exact .inr h
mutual
/-- plain data as it lies: lists that are tracked (or locked), tuples that stand -/
inductive Rp (K : PySem.W.Frag) (H : Hp) : V → PyData → Prop
  | non : Rp K H .non .none
  | bl (b : Bool) : Rp K H (.bl b) (.bool b)
  | int (i : Int) : Rp K H (.int i) (.int i)
  | str (x : Str) : Rp K H (.str x) (.str x)
  | lst {a : Addr} {xs : List V} {ds : List PyData} : SqL K H a xs → RpAll K H xs ds → Rp K H (.ref a) (.list ds)
  | tup {a : Addr} {xs : List V} {ds : List PyData} : SqT K H a xs → RpAll K H xs ds → Rp K H (.ref a) (.tuple ds)
inductive RpAll (K : PySem.W.Frag) (H : Hp) : List V → List PyData → Prop
  | nil : RpAll K H [] []
  | cons {v : V} {vs : List V} {d : PyData} {ds : List PyData} : Rp K H v d → RpAll K H vs ds → RpAll K H (v :: vs) (d :: ds)
end
mutual
theorem Rp.dp {K : PySem.W.Frag} {H : Hp} : ∀ {v : V} {d : PyData}, Rp K H v d → L2.Dp K H v d
  | _, _, .non => .non
  | _, _, .bl b => .bl b
  | _, _, .int i => .int i
  | _, _, .str x => .str x
  | _, _, .lst h a => .lst h (RpAll.dp a)
  | _, _, .tup h a => .tup h (RpAll.dp a)
theorem RpAll.dp {K : PySem.W.Frag} {H : Hp} : ∀ {vs : List V} {ds : List PyData}, RpAll K H vs ds → L2.DpAll K H vs ds
  | _, _, .nil => .nil
  | _, _, .cons h a => .cons (Rp.dp h) (RpAll.dp a)
end
mutual
theorem dp_ex {K : PySem.W.Frag} {H H' : Hp} (e : Ex H H') : ∀ {v : V} {d : PyData}, Rp K H v d → Rp K H' v d
  | _, _, .non => .non
  | _, _, .bl b => .bl b
  | _, _, .int i => .int i
  | _, _, .str x => .str x
  | _, _, .lst h a => .lst (sql_ex e h) (dpa_ex e a)
  | _, _, .tup h a => .tup (sqt_ex e h) (dpa_ex e a)
theorem dpa_ex {K : PySem.W.Frag} {H H' : Hp} (e : Ex H H') : ∀ {vs : List V} {ds : List PyData}, RpAll K H vs ds → RpAll K H' vs ds
  | _, _, .nil => .nil
  | _, _, .cons h a => .cons (dp_ex e h) (dpa_ex e a)
end
section
variable {K : PySem.W.Frag} {H : Hp}
theorem dpa_len : ∀ {vs : List V} {ds : List PyData}, RpAll K H vs ds → vs.length = ds.length
  | _, _, .nil => rfl
  | _, _, .cons _ a => congrArg (· + 1) (dpa_len a)
theorem dpa_app : ∀ {vs ws : List V} {ds es : List PyData}, RpAll K H vs ds → RpAll K H ws es → RpAll K H (vs ++ ws) (ds ++ es)
  | _, _, _, _, .nil, b => b
  | _, _, _, _, .cons h a, b => .cons h (dpa_app a b)
theorem dpa_get : ∀ {vs : List V} {ds : List PyData} {i : Nat} {d : PyData}, RpAll K H vs ds → ds[i]? = some d → ∃ v, vs[i]? = some v ∧ Rp K H v d
  | _, _, _, _, .nil, e => by simp at e
  | _, _, 0, _, .cons h a, e => by
    simp at e; subst e; exact ⟨_, rfl, h⟩
  | _, _, i + 1, _, .cons h a, e => by
    obtain ⟨v, h1, h2⟩ := dpa_get (i := i) a (by simpa using e)
    exact ⟨v, by simpa using h1, h2⟩
theorem dpa_drop : ∀ {vs : List V} {ds : List PyData} (n : Nat), RpAll K H vs ds → RpAll K H (vs.drop n) (ds.drop n)
  | _, _, 0, a => a
  | _, _, _ + 1, .nil => .nil
  | _, _, n + 1, .cons h a => dpa_drop n a
theorem dpa_take : ∀ {vs : List V} {ds : List PyData} (n : Nat), RpAll K H vs ds → RpAll K H (vs.take n) (ds.take n)
  | _, _, 0, _ => .nil
  | _, _, _ + 1, .nil => .nil
  | _, _, n + 1, .cons h a => .cons h (dpa_take n a)
theorem dpa_set {v : V} {d : PyData} (h : Rp K H v d) : ∀ {vs : List V} {ds : List PyData} (n : Nat), RpAll K H vs ds → RpAll K H (vs.set n v) (ds.set n d)
  | _, _, _, .nil => .nil
  | _, _, 0, .cons _ a => .cons h a
  | _, _, n + 1, .cons h' a => .cons h' (dpa_set h n a)
theorem dpa_erase : ∀ {vs : List V} {ds : List PyData} (n : Nat), RpAll K H vs ds → RpAll K H (vs.eraseIdx n) (ds.eraseIdx n)
  | _, _, _, .nil => .nil
  | _, _, 0, .cons _ a => a
  | _, _, n + 1, .cons h' a => .cons h' (dpa_erase n a)
theorem dpa_rev : ∀ {vs : List V} {ds : List PyData}, RpAll K H vs ds → RpAll K H vs.reverse ds.reverse
  | _, _, .nil => .nil
  | _, _, .cons h a => by
    rw [List.reverse_cons, List.reverse_cons]
    exact dpa_app (dpa_rev a) (.cons h .nil)
theorem dpa_ints : ∀ ns : List Int, RpAll K H (ns.map V.int) (ns.map PyData.int)
  | [] => .nil
  | n :: ns => .cons (.int n) (dpa_ints ns)
theorem dpa_strs : ∀ ns : List Str, RpAll K H (ns.map V.str) (ns.map PyData.str)
  | [] => .nil
  | n :: ns => .cons (.str n) (dpa_strs ns)
theorem of_ints : ∀ {vs : List V} {ns : List Int}, RpAll K H vs (ns.map PyData.int) → vs = ns.map V.int
  | _, [], .nil => rfl
  | _, n :: ns, .cons h a => by cases h; rw [of_ints a]; rfl
theorem of_strs : ∀ {vs : List V} {ns : List Str}, RpAll K H vs (ns.map PyData.str) → vs = ns.map V.str
  | _, [], .nil => rfl
  | _, n :: ns, .cons h a => by cases h; rw [of_strs a]; rfl
end

/-- the heap without what A tells -/
noncomputable def hide (A : Addr → Prop) (H : Hp) : Hp := fun a => @ite _ (A a) (Classical.propDecidable _) none (H a)
section
variable {A B : Addr → Prop} {H H' : Hp} {a p : Addr} {o : HO}
theorem hide_of (n : ¬ A a) (h : H a = some o) : hide A H a = some o := by unfold hide; rw [if_neg n]; exact h
theorem hide_no (n : A a) : hide A H a = none := by unfold hide; rw [if_pos n]
theorem of_hide (h : hide A H a = some o) : ¬ A a ∧ H a = some o := by
  unfold hide at h
  split at h
  · cases h
  · rename_i n; exact ⟨n, h⟩
theorem ex_hide_sub (h : ∀ a, A a → B a) : Ex (hide B H) (hide A H) := fun a o e => by
  obtain ⟨n, q⟩ := of_hide e
  exact hide_of (fun z => n (h a z)) q
theorem ex_hide (e : Ex H H') : Ex (hide A H) (hide A H') := fun a o q => by
  obtain ⟨n, q⟩ := of_hide q
  exact hide_of n (e a o q)
theorem ex_hide0 : Ex (hide A H) H := fun a o q => (of_hide q).2
theorem ex_hide_up (h : A p) : Ex (hide A H) (hide A (upd H p o)) := fun a u q => by
  obtain ⟨n, q⟩ := of_hide q
  refine hide_of n ?_
  rw [upd_ne (by intro e; subst e; exact n h)]; exact q
theorem hide_upd (h : H p = none) : hide (· = p) (upd H p o) = H := by
  funext b
  by_cases e : b = p
  · unfold hide; rw [if_pos e, e, h]
  · unfold hide; rw [if_neg e, upd_ne e]
/-- more may be hidden than what changed -/
theorem ex_wide (hs : ∀ a, A a → B a) (e : Ex (hide A H) (hide A H')) : Ex (hide B H) (hide B H') := fun a o q => by
  obtain ⟨n, q⟩ := of_hide q
  exact hide_of n (of_hide (e a o (hide_of (fun z => n (hs a z)) q))).2
end

/-! ## what is owned, and the relation of slots -/
def Own (O : List Nat) (σ : L2.St) : Addr → Prop := fun a => ∃ i, i ∈ O ∧ σ[i]? = some (some (.ref a))
theorem own_sub {L O : List Nat} {σ : L2.St} (h : ∀ i ∈ L, i ∈ O) : ∀ a, Own L σ a → Own O σ a := fun a ⟨i, hi, e⟩ => ⟨i, h i hi, e⟩
/-- the caller's: what it hides (C), the slots that it lends (Th) as they stood at the entry (τ) -/
structure Cn where
  C : Addr → Prop
  Th : List Nat
  τ : L2.St
def Cn.msk (c : Cn) (L : List Nat) (σ : L2.St) : Addr → Prop := fun a => c.C a ∨ Own L σ a
theorem msk_sub {c : Cn} {L O : List Nat} {σ : L2.St} (h : ∀ i ∈ L, i ∈ O) : ∀ a, c.msk L σ a → c.msk O σ a := fun a q => q.imp id (own_sub h a)

structure R (K : PySem.W.Frag) (c : Cn) (O : List Nat) (s : MS) (σ : L2.St) (H : Hp) : Prop where
  len : s.length = σ.length
  sh : ∀ (i : Nat) (d : D), i ∉ O → s[i]? = some (some d) → ∃ v, σ[i]? = some (some v) ∧ Rp K (hide (c.msk O σ) H) v d
  ow : ∀ i : Nat, i ∈ O → ∃ (p : Addr) (vs : List V) (ds : List D), σ[i]? = some (some (.ref p)) ∧ s[i]? = some (some (.list ds)) ∧ H p = some (.lst vs) ∧ RpAll K (hide (c.msk O σ) H) vs ds ∧ ¬ c.C p
  nd : ∀ (i j : Nat) (p : Addr), i ∈ O → j ∈ O → σ[i]? = some (some (.ref p)) → σ[j]? = some (some (.ref p)) → i = j
  cs : ∀ p, c.C p → ∃ o, H p = some o
  th : ∀ i : Nat, i ∈ c.Th → i ∈ O ∧ σ[i]? = c.τ[i]?
section
variable {K : PySem.W.Frag} {c : Cn} {O L W : List Nat} {s s' : MS} {σ : L2.St} {H H' : Hp}
theorem R.ex (r : R K c O s σ H) (e : Ex H H') : R K c O s σ H' where
  len := r.len
  sh := fun i d hi h => let ⟨v, h1, h2⟩ := r.sh i d hi h; ⟨v, h1, dp_ex (ex_hide e) h2⟩
  ow := fun i hi => let ⟨p, vs, ds, h1, h2, h3, h4, h5⟩ := r.ow i hi; ⟨p, vs, ds, h1, h2, e _ _ h3, dpa_ex (ex_hide e) h4, h5⟩
  nd := r.nd
  cs := fun p h => let ⟨o, q⟩ := r.cs p h; ⟨o, e _ _ q⟩
  th := r.th
/-- a value in the i-th slot, read while L is hidden -/
theorem R.get (r : R K c O s σ H) (hL : ∀ j ∈ L, j ∈ O) {i : Nat} {d : D} (hi : i ∉ L) (h : s[i]? = some (some d)) : ∃ v, σ[i]? = some (some v) ∧ Rp K (hide (c.msk L σ) H) v d := by
  by_cases ho : i ∈ O
  · obtain ⟨p, vs, ds, h1, h2, h3, h4, h5⟩ := r.ow i ho
    rw [h2] at h
    cases h
    refine ⟨_, h1, .lst (.inl (.inl (hide_of (fun z => ?_) h3))) (dpa_ex (ex_hide_sub (msk_sub hL)) h4)⟩
    rcases z with z | ⟨j, hj, z⟩
    · exact h5 z
    · exact hi (r.nd i j p ho (hL j hj) h1 z ▸ hj)
  · obtain ⟨v, h1, h2⟩ := r.sh i d ho h
    exact ⟨v, h1, dp_ex (ex_hide_sub (msk_sub hL)) h2⟩
/-- a slot takes a value that leans on nothing owned -/
theorem R.set (r : R K c O s σ H) {i : Nat} {v : V} {d : D} (hd : Rp K (hide (c.msk O σ) H) v d) (ht : i ∉ c.Th) (hi : i < σ.length) : R K c (O.filter (· ≠ i)) (s.set i (some d)) (σ.set i (some v)) H ∧ Ex (hide (Own O σ) H) (hide (Own (O.filter (· ≠ i)) (σ.set i (some v))) H) := by
  have own : ∀ a, Own (O.filter (· ≠ i)) (σ.set i (some v)) a → Own O σ a := fun a ⟨j, hj, e⟩ => by
    have hj' := List.mem_filter.mp hj
    have hne : j ≠ i := by simpa using hj'.2
    rw [List.getElem?_set_ne (Ne.symm hne)] at e
    exact ⟨j, hj'.1, e⟩
  have msk : ∀ a, c.msk (O.filter (· ≠ i)) (σ.set i (some v)) a → c.msk O σ a := fun a q => q.imp id (own a)
  refine ⟨⟨by simpa using r.len, fun j e hj h => ?_, fun j hj => ?_, fun j k p hj hk h1 h2 => ?_, r.cs, fun j hj => ?_⟩, ex_hide_sub own⟩
  · by_cases e1 : j = i
    · subst e1
      rw [List.getElem?_set_self (by rw [r.len]; exact hi)] at h
      cases h
      exact ⟨v, List.getElem?_set_self hi, dp_ex (ex_hide_sub msk) hd⟩
    · rw [List.getElem?_set_ne (Ne.symm e1)] at h
      have hj' : j ∉ O := fun z => hj (List.mem_filter.mpr ⟨z, by simpa using e1⟩)
      obtain ⟨v', h1, h2⟩ := r.sh j e hj' h
      exact ⟨v', by rw [List.getElem?_set_ne (Ne.symm e1)]; exact h1, dp_ex (ex_hide_sub msk) h2⟩
  · have hj' := List.mem_filter.mp hj
    have hne : j ≠ i := by simpa using hj'.2
    obtain ⟨p, vs, ds, h1, h2, h3, h4, h5⟩ := r.ow j hj'.1
    exact ⟨p, vs, ds, by rw [List.getElem?_set_ne (Ne.symm hne)]; exact h1, by rw [List.getElem?_set_ne (Ne.symm hne)]; exact h2, h3, dpa_ex (ex_hide_sub msk) h4, h5⟩
  · have hj' := List.mem_filter.mp hj
    have hk' := List.mem_filter.mp hk
    have hne : j ≠ i := by simpa using hj'.2
    have hne' : k ≠ i := by simpa using hk'.2
    rw [List.getElem?_set_ne (Ne.symm hne)] at h1
    rw [List.getElem?_set_ne (Ne.symm hne')] at h2
    exact r.nd j k p hj'.1 hk'.1 h1 h2
  · have hne : j ≠ i := fun e => ht (e ▸ hj)
    obtain ⟨h1, h2⟩ := r.th j hj
    exact ⟨List.mem_filter.mpr ⟨h1, by simpa using hne⟩, by rw [List.getElem?_set_ne (Ne.symm hne)]; exact h2⟩
/-- a slot takes a new list: H hides it at p, H' shows it -/
theorem R.setOwn {p : Addr} {vs : List V} {ds : List D} (r : R K c O s σ (hide (· = p) H')) {i : Nat} (hp : H' p = some (.lst vs)) (hd : RpAll K (hide (c.msk O σ) (hide (· = p) H')) vs ds) (ht : i ∉ c.Th) (hi : i < σ.length) :
    R K c (i :: O.filter (· ≠ i)) (s.set i (some (.list ds))) (σ.set i (some (.ref p))) H' ∧ Ex (hide (Own O σ) (hide (· = p) H')) (hide (Own (i :: O.filter (· ≠ i)) (σ.set i (some (.ref p)))) H') := by
  have hn : ¬ c.C p := fun z => by
    obtain ⟨o, q⟩ := r.cs p z
    exact (of_hide q).1 rfl
  have own : ∀ a, Own (i :: O.filter (· ≠ i)) (σ.set i (some (.ref p))) a → a = p ∨ Own O σ a := fun a ⟨j, hj, e⟩ => by
    rcases List.mem_cons.mp hj with rfl | hj
    · rw [List.getElem?_set_self hi] at e
      cases e; exact .inl rfl
    · have hj' := List.mem_filter.mp hj
      have hne : j ≠ i := by simpa using hj'.2
      rw [List.getElem?_set_ne (Ne.symm hne)] at e
      exact .inr ⟨j, hj'.1, e⟩
  have big : Ex (hide (c.msk O σ) (hide (· = p) H')) (hide (c.msk (i :: O.filter (· ≠ i)) (σ.set i (some (.ref p)))) H') := fun a o q => by
    obtain ⟨n1, q⟩ := of_hide q
    obtain ⟨n2, q⟩ := of_hide q
    refine hide_of (fun z => ?_) q
    rcases z with z | z
    · exact n1 (.inl z)
    · rcases own a z with z | z
      · exact n2 z
      · exact n1 (.inr z)
  have pn : ∀ j ∈ O, σ[j]? ≠ some (some (.ref p)) := fun j hj e => by
    obtain ⟨p', _, _, h1, _, h3, _⟩ := r.ow j hj
    rw [e] at h1
    cases h1
    exact (of_hide h3).1 rfl
  refine ⟨⟨by simpa using r.len, fun j e hj h => ?_, fun j hj => ?_, fun j k q hj hk h1 h2 => ?_, fun q h => ?_, fun j hj => ?_⟩, fun a o q => ?_⟩
  · have e1 : j ≠ i := fun z => hj (by rw [z]; exact List.mem_cons_self)
    rw [List.getElem?_set_ne (Ne.symm e1)] at h
    have hj' : j ∉ O := fun z => hj (List.mem_cons_of_mem _ (List.mem_filter.mpr ⟨z, by simpa using e1⟩))
    obtain ⟨v', h1, h2⟩ := r.sh j e hj' h
    exact ⟨v', by rw [List.getElem?_set_ne (Ne.symm e1)]; exact h1, dp_ex big h2⟩
  · rcases List.mem_cons.mp hj with rfl | hj
    · exact ⟨p, vs, ds, List.getElem?_set_self hi, List.getElem?_set_self (by rw [r.len]; exact hi), hp, dpa_ex big hd, hn⟩
    · have hj' := List.mem_filter.mp hj
      have hne : j ≠ i := by simpa using hj'.2
      obtain ⟨p', vs', ds', h1, h2, h3, h4, h5⟩ := r.ow j hj'.1
      exact ⟨p', vs', ds', by rw [List.getElem?_set_ne (Ne.symm hne)]; exact h1, by rw [List.getElem?_set_ne (Ne.symm hne)]; exact h2, (of_hide h3).2, dpa_ex big h4, h5⟩
  · have two : ∀ j, j ∈ i :: O.filter (· ≠ i) → (σ.set i (some (.ref p)))[j]? = some (some (.ref q)) → (j = i ∧ q = p) ∨ (j ∈ O ∧ σ[j]? = some (some (.ref q)) ∧ q ≠ p) := fun j hj e => by
      rcases List.mem_cons.mp hj with rfl | hj
      · rw [List.getElem?_set_self hi] at e
        cases e; exact .inl ⟨rfl, rfl⟩
      · have hj' := List.mem_filter.mp hj
        have hne : j ≠ i := by simpa using hj'.2
        rw [List.getElem?_set_ne (Ne.symm hne)] at e
        exact .inr ⟨hj'.1, e, fun z => pn j hj'.1 (z ▸ e)⟩
    rcases two j hj h1 with ⟨a1, a2⟩ | ⟨a1, a2, a3⟩
    · rcases two k hk h2 with ⟨b1, b2⟩ | ⟨b1, b2, b3⟩
      · rw [a1, b1]
      · exact absurd a2 b3
    · rcases two k hk h2 with ⟨b1, b2⟩ | ⟨b1, b2, b3⟩
      · exact absurd b2 a3
      · exact r.nd j k q a1 b1 a2 b2
  · obtain ⟨o, q'⟩ := r.cs q h
    exact ⟨o, (of_hide q').2⟩
  · have hne : j ≠ i := fun e => ht (e ▸ hj)
    obtain ⟨h1, h2⟩ := r.th j hj
    exact ⟨List.mem_cons_of_mem _ (List.mem_filter.mpr ⟨h1, by simpa using hne⟩), by rw [List.getElem?_set_ne (Ne.symm hne)]; exact h2⟩
  · obtain ⟨n1, q⟩ := of_hide q
    obtain ⟨n2, q⟩ := of_hide q
    exact hide_of (fun z => (own a z).elim n2 n1) q
/-- an owned slot is let go -/
theorem R.free (r : R K c O s σ H) (hL : ∀ j ∈ L, j ∈ O) (ht : ∀ j ∈ c.Th, j ∈ L) : R K c L s σ H ∧ Ex (hide (Own O σ) H) (hide (Own L σ) H) := by
  refine ⟨⟨r.len, fun j e hj h => r.get hL hj h, fun j hj => ?_, fun j k p hj hk => r.nd j k p (hL j hj) (hL k hk), r.cs, fun j hj => ⟨ht j hj, (r.th j hj).2⟩⟩, ex_hide_sub (own_sub hL)⟩
  obtain ⟨p, vs, ds, h1, h2, h3, h4, h5⟩ := r.ow j (hL j hj)
  exact ⟨p, vs, ds, h1, h2, h3, dpa_ex (ex_hide_sub (msk_sub hL)) h4, h5⟩
/-- slots are forgotten -/
theorem R.forget (r : R K c O s σ H) {i : Nat} (hi : i ∉ O) : R K c O (s.set i none) σ H where
  len := by simpa using r.len
  sh := fun j d hj h => by
    by_cases e : j = i
    · subst e
      by_cases hl : j < s.length
      · rw [List.getElem?_set_self hl] at h; cases h
      · rw [List.getElem?_eq_none (by simp; omega)] at h; cases h
    · rw [List.getElem?_set_ne (Ne.symm e)] at h
      exact r.sh j d hj h
  ow := fun j hj => by
    have e : j ≠ i := fun z => hi (z ▸ hj)
    obtain ⟨p, vs, ds, h1, h2, h3⟩ := r.ow j hj
    exact ⟨p, vs, ds, h1, by rw [List.getElem?_set_ne (Ne.symm e)]; exact h2, h3⟩
  nd := r.nd
  cs := r.cs
  th := r.th
/-- an owned list is changed -/
theorem R.chg (r : R K c O s σ H) {i : Nat} {p : Addr} {vs : List V} {ds : List D} (hi : i ∈ O) (hp : σ[i]? = some (some (.ref p))) (hd : RpAll K (hide (c.msk O σ) H) vs ds) : R K c O (s.set i (some (.list ds))) σ (upd H p (.lst vs)) ∧ Ex (hide (Own [i] σ) H) (hide (Own [i] σ) (upd H p (.lst vs))) := by
  have hm : c.msk O σ p := .inr ⟨i, hi, hp⟩
  have e0 : Ex (hide (c.msk O σ) H) (hide (c.msk O σ) (upd H p (.lst vs))) := ex_hide_up hm
  have hl : i < s.length := by
    rw [r.len]
    exact (List.getElem?_eq_some_iff.mp hp).1
  refine ⟨⟨by simpa using r.len, fun j e hj h => ?_, fun j hj => ?_, r.nd, fun q h => ?_, r.th⟩, ex_hide_up ⟨i, by simp, hp⟩⟩
  · have hne : j ≠ i := fun z => hj (z ▸ hi)
    rw [List.getElem?_set_ne (Ne.symm hne)] at h
    obtain ⟨v, h1, h2⟩ := r.sh j e hj h
    exact ⟨v, h1, dp_ex e0 h2⟩
  · obtain ⟨p', vs', ds', h1, h2, h3, h4, h5⟩ := r.ow j hj
    by_cases hne : j = i
    · subst hne
      rw [hp] at h1
      cases h1
      exact ⟨p, vs, ds, hp, List.getElem?_set_self hl, upd_same, dpa_ex e0 hd, h5⟩
    · have hpp : p' ≠ p := fun z => hne (r.nd j i p hj hi (z ▸ h1) hp)
      exact ⟨p', vs', ds', h1, by rw [List.getElem?_set_ne (Ne.symm hne)]; exact h2, by rw [upd_ne hpp]; exact h3, dpa_ex e0 h4, h5⟩
  · by_cases e : q = p
    · exact ⟨_, by rw [e]; exact upd_same⟩
    · obtain ⟨o, z⟩ := r.cs q h
      exact ⟨o, by rw [upd_ne e]; exact z⟩
end
end Z


namespace Z
open PySem PySem.Spec PyProof.Rows L2

/-! ## mirrors: combinators over plain data -/
abbrev ME := MS → Option (D × MS)
abbrev MF := MS → Option (List D × MS)
abbrev MT := MS → Option (Bool × MS)
/-- an exception of an own class: the class's name, the fields -/
structure Exn where
  cls : Str
  fs : List (Str × D)
inductive Out where
  | nx (s : MS) | rt (d : D) (s : MS) | bk (s : MS) | ct (s : MS) | ex (x : Exn) (s : MS)
abbrev MM := MS → Option Out

def xVar (i : Nat) : ME := fun s => (s.getD i none).map fun d => (d, s)
def xC (d : D) : ME := fun s => some (d, s)
def xOp (f : D → D → Option D) (a b : ME) : ME := fun s => (a s).bind fun p => (b p.2).bind fun q => (f p.1 q.1).map fun z => (z, q.2)
def xUn (f : D → Option D) (a : ME) : ME := fun s => (a s).bind fun p => (f p.1).map fun z => (z, p.2)
def xaNil : MF := fun s => some ([], s)
def xaCons (a : ME) (r : MF) : MF := fun s => (a s).bind fun p => (r p.2).map fun q => (p.1 :: q.1, q.2)
def xFn (f : List D → Option D) (as : MF) : ME := fun s => (as s).bind fun p => (f p.1).map fun z => (z, p.2)
def xfFn (f : List D → Option (List D)) (as : MF) : MF := fun s => (as s).bind fun p => (f p.1).map fun z => (z, p.2)
def xLst (m : MF) : ME := fun s => (m s).map fun p => (.list p.1, p.2)
def xTup (m : MF) : ME := fun s => (m s).bind fun p => if p.1.length ≤ 1000 then some (.tuple p.1, p.2) else none
def xT (a : ME) : MT := fun s => (a s).bind fun p => match p.1 with
  | .bool b => some (b, p.2)
  | _ => none
def xB (t : MT) : ME := fun s => (t s).map fun p => (.bool p.1, p.2)
def xAnd (a b : MT) : MT := fun s => (a s).bind fun p => if p.1 = true then b p.2 else some (false, p.2)
def xOr (a b : MT) : MT := fun s => (a s).bind fun p => if p.1 = true then some (true, p.2) else b p.2
def xNot (a : MT) : MT := fun s => (a s).map fun p => (!p.1, p.2)
def xIf (c : MT) (a b : ME) : ME := fun s => (c s).bind fun p => if p.1 = true then a p.2 else b p.2

/-! ## contexts by what is fixed -/
structure G where
  P : Program
  w : World
  K : PySem.W.Frag
  mg : Str → Option Value
  base : Heap
  A : Around
  N : List Str
  sc : Scope
  fnc : Str → Bool
  calm : Bool := true
  ox : List Nat := []
structure InG (Γ : G) (X : Cx) : Prop where
  prog : X.prog = Γ.P
  w : X.w = Γ.w
  K : X.K = Γ.K
  mg : X.mg = Γ.mg
  base : X.base = Γ.base
  A : X.A = Γ.A
  N : X.N = Γ.N
  sc : X.env.scope = Γ.sc
  fnc : X.fn = Γ.fnc
  nd : Γ.N.Nodup
  calm : X.calm = Γ.calm
  xe : X.xe = fun _ _ => False
theorem InG.mgn {Γ : G} {X : Cx} {x : Str} {o : Option Value} (h : InG Γ X) (e : Γ.mg x = o) : X.mg x = o := by rw [h.mg]; exact e
theorem InG.nx {Γ : G} {X : Cx} {i : Nat} {x : Str} (h : InG Γ X) (e : Γ.N[i]? = some x) : X.N[i]? = some x := by rw [h.N]; exact e
theorem InG.cm {Γ : G} {X : Cx} (h : InG Γ X) (e : Γ.calm = true) : X.calm = true := h.calm.trans e
theorem InG.ndX {Γ : G} {X : Cx} (h : InG Γ X) : X.N.Nodup := by rw [h.N]; exact h.nd
def visB (sc : Scope) (x : Str) : Bool := match sc.names.lookup x with
  | some .local => true
  | some .cell => true
  | some .free => true
  | _ => false
theorem InG.vis {Γ : G} {X : Cx} {x : Str} (h : InG Γ X) (e : visB Γ.sc x = true) : Vis X.env.scope x := by
  rw [h.sc]
  unfold visB at e
  unfold Vis
  split at e
  · exact .inl ‹_›
  · exact .inr (.inl ‹_›)
  · exact .inr (.inr ‹_›)
  · cases e
theorem InG.gl {Γ : G} {X : Cx} {x : Str} (h : InG Γ X) (e : Γ.sc.names.lookup x = some .globalImplicit) : Gl X x := by
  show X.env.scope.names.lookup x = _
  rw [h.sc]; exact e

/-! ## judgements -/
def Sq (K : PySem.W.Frag) (H : Hp) (p : Addr) (vs : List V) : Prop := SqL K H p vs ∨ SqT K H p vs
theorem Sq.sq {K : PySem.W.Frag} {H : Hp} {p : Addr} {vs : List V} (h : Sq K H p vs) : SqL K H p vs ∨ SqT K H p vs := h
theorem sq_ex {K : PySem.W.Frag} {H H' : Hp} {a : Addr} {xs : List V} (e : Ex H H') (h : Sq K H a xs) : Sq K H' a xs := h.imp (sql_ex e) (sqt_ex e)
section
variable (K : PySem.W.Frag) (O L W : List Nat)
def SimE (t : TE) (m : ME) : Prop := ∀ (c : Cn) (σ : L2.St) (H : Hp) (s : MS), R K c O s σ H → ∀ d s', m s = some (d, s') → ∀ Q : VK,
  (∀ v H', R K c O s' σ H' → Ex (hide (Own W σ) H) (hide (Own W σ) H') → Rp K (hide (c.msk L σ) H') v d → Q v H') → t σ H Q
def SimF (t : TE) (m : MF) : Prop := ∀ (c : Cn) (σ : L2.St) (H : Hp) (s : MS), R K c O s σ H → ∀ ds s', m s = some (ds, s') → ∀ Q : VK,
  (∀ p vs H', H p = none → R K c O s' σ (hide (· = p) H') → Ex (hide (Own W σ) H) (hide (Own W σ) (hide (· = p) H')) → H' p = some (.lst vs) → RpAll K (hide (c.msk L σ) (hide (· = p) H')) vs ds → Q (.ref p) H') → t σ H Q
/-- a list or tuple that is read: what stands in it -/
def SimL (t : TE) (m : MF) : Prop := ∀ (c : Cn) (σ : L2.St) (H : Hp) (s : MS), R K c O s σ H → ∀ ds s', m s = some (ds, s') → ∀ Q : VK,
  (∀ p vs H', R K c O s' σ H' → Ex (hide (Own W σ) H) (hide (Own W σ) H') → Sq K H' p vs → RpAll K (hide (c.msk L σ) H') vs ds → Q (.ref p) H') → t σ H Q
def SimA (t : TA) (m : MF) : Prop := ∀ (c : Cn) (σ : L2.St) (H : Hp) (s : MS), R K c O s σ H → ∀ ds s', m s = some (ds, s') → ∀ Q : List V → Hp → Prop,
  (∀ vs H', R K c O s' σ H' → Ex (hide (Own W σ) H) (hide (Own W σ) H') → RpAll K (hide (c.msk L σ) H') vs ds → Q vs H') → t σ H Q
def SimT (t : TT) (m : MT) : Prop := ∀ (c : Cn) (σ : L2.St) (H : Hp) (s : MS), R K c O s σ H → ∀ b s', m s = some (b, s') → ∀ Q : Bool → Hp → Prop,
  (∀ H', R K c O s' σ H' → Ex (hide (Own W σ) H) (hide (Own W σ) H') → Q b H') → t σ H Q
end
section
variable (Γ : G) (O L W : List Nat)
def TrE (e : Expr) (m : ME) : Prop := ∃ t, (∀ X, InG Γ X → PE X e t) ∧ SimE Γ.K O L W t m
def TrF (e : Expr) (m : MF) : Prop := ∃ t, (∀ X, InG Γ X → PE X e t) ∧ SimF Γ.K O L W t m
def TrL (e : Expr) (m : MF) : Prop := ∃ t, (∀ X, InG Γ X → PE X e t) ∧ SimL Γ.K O L W t m
def TrA (es : List Expr) (m : MF) : Prop := ∃ t, (∀ X, InG Γ X → PA X es t) ∧ SimA Γ.K O L W t m
def TrT (e : Expr) (m : MT) : Prop := ∃ t, (∀ X, InG Γ X → PT X e t) ∧ SimT Γ.K O W t m
def TrW (e : Expr) (m : MT) : Prop := ∃ t, (∀ X, InG Γ X → PW X e t) ∧ SimT Γ.K O W t m
end

/-- between two steps nothing hidden by L is leaned on -/
theorem keep {c : Cn} {σ : L2.St} {L W : List Nat} {H H' : Hp} (hW : ∀ j ∈ W, j ∈ L) (e : Ex (hide (Own W σ) H) (hide (Own W σ) H')) : Ex (hide (c.msk L σ) H) (hide (c.msk L σ) H') :=
  ex_wide (fun a z => .inr (own_sub hW a z)) e
theorem msk_there {K : PySem.W.Frag} {c : Cn} {O L : List Nat} {s : MS} {σ : L2.St} {H : Hp} (r : R K c O s σ H) (hL : ∀ j ∈ L, j ∈ O) : ∀ a, c.msk L σ a → ∃ o, H a = some o := fun a z => by
  rcases z with z | ⟨i, hi, e⟩
  · exact r.cs a z
  · obtain ⟨p, vs, _, h1, _, h3, _⟩ := r.ow i (hL i hi)
    rw [e] at h1
    cases h1
    exact ⟨_, h3⟩

/-! ### weakenings -/
section
variable {Γ : G} {O L L' W W' : List Nat} {e : Expr} {m : ME}
theorem SimF.toE {K : PySem.W.Frag} {t : TE} {m : MF} (hL : ∀ j ∈ L, j ∈ O) (h : SimF K O L W t m) : SimE K O L W t (xLst m) := fun c σ H s r d s' e Q q => by
  unfold xLst at e
  cases e1 : m s with
  | none => rw [e1] at e; cases e
  | some p =>
    rw [e1] at e
    cases e
    refine h c σ H s r p.1 p.2 e1 Q fun a vs H' hp r' ex ha hd => q _ _ (r'.ex ex_hide0) (ex.trans (ex_hide ex_hide0)) (.lst (.inl (.inl (hide_of (fun z => ?_) ha))) (dpa_ex (ex_hide ex_hide0) hd))
    obtain ⟨o, z⟩ := msk_there r' hL a z
    exact (of_hide z).1 rfl
theorem tr_F {m : MF} (hL : ∀ j ∈ L, j ∈ O) (h : TrF Γ O L W e m) : TrE Γ O L W e (xLst m) := by
  obtain ⟨t, p, q⟩ := h
  exact ⟨t, p, q.toE hL⟩
/-- what stands in a list or tuple -/
def seqOf : D → Option (List D)
  | .list ds => some ds
  | .tuple ds => some ds
  | _ => none
def xSeq (m : ME) : MF := fun s => (m s).bind fun p => (seqOf p.1).map fun ds => (ds, p.2)
theorem xSeq_of {m : ME} {s s' : MS} {ds : List D} (h : xSeq m s = some (ds, s')) : ∃ d, m s = some (d, s') ∧ seqOf d = some ds := by
  unfold xSeq at h
  cases e : m s with
  | none => rw [e] at h; cases h
  | some p =>
    obtain ⟨d, s1⟩ := p
    rw [e] at h
    simp only [Option.bind_some] at h
    cases e2 : seqOf d with
    | none => rw [e2] at h; cases h
    | some es => rw [e2] at h; cases h; exact ⟨d, rfl, e2⟩
theorem seq_dp {K : PySem.W.Frag} {A : Addr → Prop} {H : Hp} {v : V} {d : D} {ds : List D} (h : Rp K (hide A H) v d) (e : seqOf d = some ds) : ∃ p vs, v = .ref p ∧ Sq K (hide A H) p vs ∧ RpAll K (hide A H) vs ds := by
  cases h <;> first | (cases e) | skip
  · exact ⟨_, _, rfl, .inl ‹_›, ‹_›⟩
  · exact ⟨_, _, rfl, .inr ‹_›, ‹_›⟩
theorem tl_E (h : TrE Γ O L W e m) : TrL Γ O L W e (xSeq m) := by
  obtain ⟨t, p, q⟩ := h
  refine ⟨t, p, fun c σ H s r ds s' e Q k => ?_⟩
  obtain ⟨d, e1, e2⟩ := xSeq_of e
  refine q c σ H s r _ _ e1 Q fun v H' r' ex hd => ?_
  obtain ⟨a, vs, rfl, h1, h2⟩ := seq_dp hd e2
  exact k _ _ H' r' ex (sq_ex ex_hide0 h1) h2
end

/-! ### names, constants -/
section
variable {Γ : G} {O L W : List Nat} {pos : Pos}
theorem refl_hide {A : Addr → Prop} {H : Hp} : Ex (hide A H) (hide A H) := Ex.refl _
theorem tr_var {i : Nat} {x : Str} (hN : Γ.N[i]? = some x) (hv : visB Γ.sc x = true) (hi : i ∉ L) (hL : ∀ j ∈ L, j ∈ O) (hd : (x == ("__debug__" : Str)) = false := by decide) (hcd : (x == ("__classdict__" : Str)) = false := by decide) : TrE Γ O L W (.Name x pos) (xVar i) := by
  refine ⟨tVar i, fun X h => pe_var (h.nx hN) (h.vis hv) hd hcd, fun c σ H s r d s' e Q q => ?_⟩
  unfold xVar at e
  cases e1 : s.getD i none with
  | none => rw [e1] at e; cases e
  | some d0 =>
    rw [e1] at e
    cases e
    have e2 : s[i]? = some (some d) := by
      rw [List.getD_eq_getElem?_getD] at e1
      cases e3 : s[i]? with
      | none => rw [e3] at e1; cases e1
      | some o => rw [e3] at e1; exact congrArg some e1
    obtain ⟨v, h1, h2⟩ := r.get hL hi e2
    exact ⟨v, h1, q v H r refl_hide h2⟩
/-- the list of an owned slot, its items -/
def xOwn (i : Nat) : MF := fun s => match s.getD i none with
  | some (.list ds) => some (ds, s)
  | _ => none
theorem xOwn_of {i : Nat} {s s' : MS} {ds : List D} (h : xOwn i s = some (ds, s')) : s[i]? = some (some (.list ds)) ∧ s' = s := by
  unfold xOwn at h
  split at h
  · rename_i e
    cases h
    rw [List.getD_eq_getElem?_getD] at e
    cases e3 : s[i]? with
    | none => rw [e3] at e; cases e
    | some o => rw [e3] at e; exact ⟨congrArg some e, rfl⟩
  · cases h
theorem tl_own {i : Nat} {x : Str} (hN : Γ.N[i]? = some x) (hv : visB Γ.sc x = true) (hi : i ∈ O) (hd : (x == ("__debug__" : Str)) = false := by decide) (hcd : (x == ("__classdict__" : Str)) = false := by decide) : TrL Γ O O W (.Name x pos) (xOwn i) := by
  refine ⟨tVar i, fun X h => pe_var (h.nx hN) (h.vis hv) hd hcd, fun c σ H s r ds s' e Q q => ?_⟩
  obtain ⟨e1, rfl⟩ := xOwn_of e
  obtain ⟨p, vs, ds', h1, h2, h3, h4, _⟩ := r.ow i hi
  rw [h2] at e1
  cases e1
  exact ⟨_, h1, q p vs H r refl_hide (.inl (.inl (.inl h3))) h4⟩
theorem tr_int {i : Int} {j : Nat} : TrE Γ O L W (.Constant (.int i) j pos) (xC (.int i)) := ⟨_, fun _ _ => pe_int, fun c σ H s r d s' e Q q => by cases e; exact q _ H r refl_hide (.int i)⟩
theorem tr_bl {i : Bool} {j : Nat} : TrE Γ O L W (.Constant (.bool i) j pos) (xC (.bool i)) := ⟨_, fun _ _ => pe_bl, fun c σ H s r d s' e Q q => by cases e; exact q _ H r refl_hide (.bl i)⟩
theorem tr_non {j : Nat} : TrE Γ O L W (.Constant .none j pos) (xC .none) := ⟨_, fun _ _ => pe_non, fun c σ H s r d s' e Q q => by cases e; exact q _ H r refl_hide .non⟩
theorem tr_str {i : Str} {j : Nat} : TrE Γ O L W (.Constant (.str i) j pos) (xC (.str i)) := ⟨_, fun _ _ => pe_str, fun c σ H s r d s' e Q q => by cases e; exact q _ H r refl_hide (.str i)⟩
end

/-! ### operations by values -/
/-- scalars out: they lean on nothing -/
def RS (K : PySem.W.Frag) (r : R2) (f : D → D → Option D) : Prop := ∀ (H : Hp) (x y : V) (dx dy dz : D), Rp K H x dx → Rp K H y dy → f dx dy = some dz → ∀ Q : VK, (∀ v, (∀ M, Rp K M v dz) → Q v H) → r x y H Q
/-- anything out, at the same mask -/
def RG (K : PySem.W.Frag) (r : R2) (f : D → D → Option D) : Prop := ∀ (H : Hp) (A : Addr → Prop) (x y : V) (dx dy dz : D), (∀ a, A a → ∃ o, H a = some o) → Rp K (hide A H) x dx → Rp K (hide A H) y dy → f dx dy = some dz → ∀ Q : VK,
  (∀ v H', Ex H H' → Rp K (hide A H') v dz → Q v H') → r x y H Q
theorem RS.g {K : PySem.W.Frag} {r : R2} {f : D → D → Option D} (h : RS K r f) : RG K r f := fun H A x y dx dy dz _ hx hy e Q q =>
  h H x y dx dy dz (dp_ex ex_hide0 hx) (dp_ex ex_hide0 hy) e Q fun v hv => q v H (Ex.refl H) (hv _)
theorem xOp_of {f : D → D → Option D} {a b : ME} {s s' : MS} {d : D} (h : xOp f a b s = some (d, s')) : ∃ x s1 y, a s = some (x, s1) ∧ b s1 = some (y, s') ∧ f x y = some d := by
  unfold xOp at h
  cases e1 : a s with
  | none => rw [e1] at h; cases h
  | some p =>
    rw [e1] at h
    simp only [Option.bind_some] at h
    cases e2 : b p.2 with
    | none => rw [e2] at h; cases h
    | some q =>
      rw [e2] at h
      simp only [Option.bind_some] at h
      cases e3 : f p.1 q.1 with
      | none => rw [e3] at h; cases h
      | some z =>
        rw [e3] at h
        cases h
        exact ⟨p.1, p.2, q.1, rfl, e2, e3⟩
theorem xUn_of {f : D → Option D} {a : ME} {s s' : MS} {d : D} (h : xUn f a s = some (d, s')) : ∃ x, a s = some (x, s') ∧ f x = some d := by
  unfold xUn at h
  cases e1 : a s with
  | none => rw [e1] at h; cases h
  | some p =>
    rw [e1] at h
    simp only [Option.bind_some] at h
    cases e3 : f p.1 with
    | none => rw [e3] at h; cases h
    | some z =>
      rw [e3] at h
      cases h
      exact ⟨p.1, rfl, e3⟩
section
variable {K : PySem.W.Frag} {O L L0 W : List Nat} {ta tb : TE} {ma mb : ME} {r : R2} {f : D → D → Option D}
theorem sim_opS (hr : RS K r f) (ha : SimE K O L0 W ta ma) (hb : SimE K O L0 W tb mb) (hW : ∀ j ∈ W, j ∈ L0) : SimE K O L W (tOp r ta tb) (xOp f ma mb) := fun c σ H s r0 d s' e Q q => by
  obtain ⟨x, s1, y, e1, e2, e3⟩ := xOp_of e
  refine ha c σ H s r0 x s1 e1 _ fun v H1 r1 x1 d1 => ?_
  refine hb c σ H1 s1 r1 y s' e2 _ fun u H2 r2 x2 d2 => ?_
  exact hr H2 v u x y d (dp_ex ex_hide0 (dp_ex (keep hW x2) d1)) (dp_ex ex_hide0 d2) e3 Q fun z hz => q z H2 r2 (x1.trans x2) (hz _)
theorem sim_opG (hr : RG K r f) (ha : SimE K O L W ta ma) (hb : SimE K O L W tb mb) (hW : ∀ j ∈ W, j ∈ L) (hL : ∀ j ∈ L, j ∈ O) : SimE K O L W (tOp r ta tb) (xOp f ma mb) := fun c σ H s r0 d s' e Q q => by
  obtain ⟨x, s1, y, e1, e2, e3⟩ := xOp_of e
  refine ha c σ H s r0 x s1 e1 _ fun v H1 r1 x1 d1 => ?_
  refine hb c σ H1 s1 r1 y s' e2 _ fun u H2 r2 x2 d2 => ?_
  exact hr H2 _ v u x y d (msk_there r2 hL) (dp_ex (keep hW x2) d1) d2 e3 Q fun z H3 x3 hz => q z H3 (r2.ex x3) ((x1.trans x2).trans (ex_hide x3)) hz
end
section
variable {Γ : G} {O L L0 W : List Nat} {a b : Expr} {ma mb : ME} {r : R2} {f : D → D → Option D} {pos : Pos}
theorem tr_opS {op : Operator} (ho : ∀ X, InG Γ X → OpR X (binaryOp op) r) (hr : RS Γ.K r f) (ha : TrE Γ O L0 W a ma) (hb : TrE Γ O L0 W b mb) (hW : ∀ j ∈ W, j ∈ L0) : TrE Γ O L W (.BinOp a op b pos) (xOp f ma mb) := by
  obtain ⟨ta, pa, sa⟩ := ha
  obtain ⟨tb, pb, sb⟩ := hb
  exact ⟨tOp r ta tb, fun X h => pe_op (ho X h) (pa X h) (pb X h), sim_opS hr sa sb hW⟩
theorem tr_opG {op : Operator} (ho : ∀ X, InG Γ X → OpR X (binaryOp op) r) (hr : RG Γ.K r f) (ha : TrE Γ O L W a ma) (hb : TrE Γ O L W b mb) (hW : ∀ j ∈ W, j ∈ L) (hL : ∀ j ∈ L, j ∈ O) : TrE Γ O L W (.BinOp a op b pos) (xOp f ma mb) := by
  obtain ⟨ta, pa, sa⟩ := ha
  obtain ⟨tb, pb, sb⟩ := hb
  exact ⟨tOp r ta tb, fun X h => pe_op (ho X h) (pa X h) (pb X h), sim_opG hr sa sb hW hL⟩
theorem tr_cmp {op : CmpOp} (ho : ∀ X, InG Γ X → OpR X (compareOp op) r) (hr : RS Γ.K r f) (ha : TrE Γ O L0 W a ma) (hb : TrE Γ O L0 W b mb) (hW : ∀ j ∈ W, j ∈ L0) (hm : behindInMarks op b = false) : TrE Γ O L W (.Compare a [op] [b] pos) (xOp f ma mb) := by
  obtain ⟨ta, pa, sa⟩ := ha
  obtain ⟨tb, pb, sb⟩ := hb
  exact ⟨tOp r ta tb, fun X h => pe_cmpR (ho X h) (pa X h) (pb X h) hm, sim_opS hr sa sb hW⟩
theorem xT_of {m : ME} {s s' : MS} {b : Bool} (h : xT m s = some (b, s')) : m s = some (.bool b, s') := by
  unfold xT at h
  cases e : m s with
  | none => rw [e] at h; cases h
  | some p =>
    obtain ⟨d, s1⟩ := p
    rw [e] at h
    cases d <;> first | (cases h; rfl) | (cases h)
theorem sim_test {K : PySem.W.Frag} {t : TE} {m : ME} (h : SimE K O L W t m) : SimT K O W (tTest t) (xT m) := fun c σ H s r b s' e Q q => by
  refine h c σ H s r _ _ (xT_of e) _ fun v H' r' x' d' => ?_
  cases d'
  exact ⟨b, rfl, q H' r' x'⟩
theorem tt_cmp {op : CmpOp} (ho : ∀ X, InG Γ X → OpR X (compareOp op) r) (hr : RS Γ.K r f) (ha : TrE Γ O L0 W a ma) (hb : TrE Γ O L0 W b mb) (hW : ∀ j ∈ W, j ∈ L0) (hm : behindInMarks op b = false) : TrT Γ O W (.Compare a [op] [b] pos) (xT (xOp f ma mb)) := by
  obtain ⟨ta, pa, sa⟩ := ha
  obtain ⟨tb, pb, sb⟩ := hb
  exact ⟨tTest (tOp r ta tb), fun X h => pt_cmpR (ho X h) (pa X h) (pb X h) hm, sim_test (L := []) (sim_opS hr sa sb hW)⟩
/-- an expression that gives a bool, as a test -/
theorem tt_val {e : Expr} {m : ME} (h : TrE Γ O L W e m) (he : ∀ (env : Env) whole, isTrue e env whole = (do let v ← whole; standAt e.pos; holding [v] (truthy v)) := by intro _ _; rfl) : TrT Γ O W e (xT m) := by
  obtain ⟨t, p, q⟩ := h
  exact ⟨tB t, fun X h => pt_val (p X h) (he X.env), sim_test q⟩
end
end Z


namespace Z
open PySem PySem.Spec PyProof.Rows L2

/-! ### plain operations -/
def dAdd : D → D → Option D
  | .int a, .int b => some (.int (a + b))
  | .str a, .str b => if a.length + b.length ≤ sizeLine then some (.str (a ++ b)) else none
  | .int a, .bool b => some (.int (a + b2i b))
  | _, _ => none
def dSub : D → D → Option D
  | .int a, .int b => some (.int (a - b))
  | _, _ => none
def dMul : D → D → Option D
  | .int a, .int b => if (-(2 ^ 64) < a ∧ a < 2 ^ 64) ∨ (-(2 ^ 64) < b ∧ b < 2 ^ 64) then some (.int (a * b)) else none
  | _, _ => none
def dMod : D → D → Option D
  | .int a, .int b => if 0 < b then some (.int (a % b)) else none
  | _, _ => none
def dDiv : D → D → Option D
  | .int a, .int b => if 0 < b ∧ b < 1073741824 then some (.int (a / b)) else none
  | _, _ => none
def dPow : D → D → Option D
  | .int a, .int b => if 0 ≤ b ∧ b ≤ 1000000 ∧ a.natAbs < 2 ^ 64 then some (.int (a ^ b.toNat)) else none
  | _, _ => none
def dEq (x y : D) : Option D := if SeqAt.shaped x = true ∧ SeqAt.shaped y = true then some (.bool (PyData.eqv x y)) else none
def dNe (x y : D) : Option D := if SeqAt.shaped x = true ∧ SeqAt.shaped y = true then some (.bool (!PyData.eqv x y)) else none
def dLt : D → D → Option D
  | .int a, .int b => some (.bool (decide (a < b)))
  | _, _ => none
def dLe : D → D → Option D
  | .int a, .int b => some (.bool (decide (a ≤ b)))
  | _, _ => none
def dGt : D → D → Option D
  | .int a, .int b => some (.bool (decide (a > b)))
  | _, _ => none
def dGe : D → D → Option D
  | .int a, .int b => some (.bool (decide (a ≥ b)))
  | _, _ => none
def flatD : D → Bool
  | .none => true
  | .bool _ => true
  | .int _ => true
  | .str _ => true
  | _ => false
def inD (x : D) (xs : List D) : Bool := xs.any fun y => PyData.eqv y x
def dIn (neg : Bool) (x y : D) : Option D := (seqOf y).bind fun ys => if flatD x = true ∧ ys.all flatD = true then some (.bool (if neg then !inD x ys else inD x ys)) else none
def dIx : D → D → Option D
  | .list xs, .int i => atI xs i
  | .tuple xs, .int i => atI xs i
  | .str z, .int i => if z.length ≤ sizeLine then (atI z.cps.toList i).map fun c => .str ⟨#[c]⟩ else none
  | _, _ => none

section
variable {K : PySem.W.Frag}
def rAddA : R2 := fun x y H Q => (rI0 (fun i j => .int (i + j)) x y H Q ∨ (∃ i j, x = .str i ∧ y = .str j ∧ i.length + j.length ≤ sizeLine ∧ Q (.str (i ++ j)) H)) ∨ (∃ i k, x = .int i ∧ y = .bl k ∧ Q (.int (i + b2i k)) H)
theorem op_addA {X : Cx} : OpR X (binaryOp .Add) rAddA := (op_add.or op_add_str).or op_add_ib
theorem rs_add : RS K rAddA dAdd := fun H x y dx dy dz hx hy e Q q => by
  cases hx <;> cases hy <;> first | (cases e; done) | skip
  · cases e; exact .inr ⟨_, _, rfl, rfl, q _ fun M => .int _⟩
  · cases e; exact .inl (.inl ⟨_, _, rfl, rfl, q _ fun M => .int _⟩)
  · simp only [dAdd] at e
    split at e
    · cases e
      exact .inl (.inr ⟨_, _, rfl, rfl, ‹_›, q _ fun M => .str _⟩)
    · cases e
theorem rs_int {C : Int → Int → Prop} {g : Int → Int → Int} {f : D → D → Option D} (hf : ∀ dx dy dz, f dx dy = some dz → ∃ i j, dx = .int i ∧ dy = .int j ∧ C i j ∧ dz = .int (g i j)) : RS K (rI C fun i j => .int (g i j)) f := fun H x y dx dy dz hx hy e Q q => by
  obtain ⟨i, j, rfl, rfl, hc, rfl⟩ := hf _ _ _ e
  cases hx; cases hy
  exact ⟨i, j, rfl, rfl, hc, q _ fun M => .int _⟩
theorem rs_cmp {g : Int → Int → Bool} {f : D → D → Option D} (hf : ∀ dx dy dz, f dx dy = some dz → ∃ i j, dx = .int i ∧ dy = .int j ∧ dz = .bool (g i j)) : RS K (rI0 fun i j => .bl (g i j)) f := fun H x y dx dy dz hx hy e Q q => by
  obtain ⟨i, j, rfl, rfl, rfl⟩ := hf _ _ _ e
  cases hx; cases hy
  exact ⟨i, j, rfl, rfl, q _ fun M => .bl _⟩
theorem rs_sub : RS K (rI0 fun i j => .int (i - j)) dSub := fun H x y dx dy dz hx hy e Q q => by
  cases hx <;> cases hy <;> cases e
  exact ⟨_, _, rfl, rfl, q _ fun M => .int _⟩
theorem rs_mul : RS K (rI CMul fun i j => .int (i * j)) dMul := rs_int fun dx dy dz e => by
  cases dx <;> cases dy <;> first | (cases e; done) | skip
  simp only [dMul] at e; split at e
  · cases e; exact ⟨_, _, rfl, rfl, ‹_›, rfl⟩
  · cases e
theorem rs_mod : RS K (rI (fun _ j => 0 < j) fun i j => .int (i % j)) dMod := rs_int fun dx dy dz e => by
  cases dx <;> cases dy <;> first | (cases e; done) | skip
  simp only [dMod] at e; split at e
  · cases e; exact ⟨_, _, rfl, rfl, ‹_›, rfl⟩
  · cases e
theorem rs_div : RS K (rI CDiv fun i j => .int (i / j)) dDiv := rs_int fun dx dy dz e => by
  cases dx <;> cases dy <;> first | (cases e; done) | skip
  simp only [dDiv] at e; split at e
  · cases e; exact ⟨_, _, rfl, rfl, ‹_›, rfl⟩
  · cases e
theorem rs_pow : RS K (rI CPow fun i j => .int (i ^ j.toNat)) dPow := rs_int fun dx dy dz e => by
  cases dx <;> cases dy <;> first | (cases e; done) | skip
  simp only [dPow] at e; split at e
  · cases e; exact ⟨_, _, rfl, rfl, ‹_›, rfl⟩
  · cases e
theorem rs_lt : RS K (rI0 fun i j => .bl (decide (i < j))) dLt := rs_cmp fun dx dy dz e => by cases dx <;> cases dy <;> cases e; exact ⟨_, _, rfl, rfl, rfl⟩
theorem rs_le : RS K (rI0 fun i j => .bl (decide (i ≤ j))) dLe := rs_cmp fun dx dy dz e => by cases dx <;> cases dy <;> cases e; exact ⟨_, _, rfl, rfl, rfl⟩
theorem rs_gt : RS K (rI0 fun i j => .bl (decide (i > j))) dGt := rs_cmp fun dx dy dz e => by cases dx <;> cases dy <;> cases e; exact ⟨_, _, rfl, rfl, rfl⟩
theorem rs_ge : RS K (rI0 fun i j => .bl (decide (i ≥ j))) dGe := rs_cmp fun dx dy dz e => by cases dx <;> cases dy <;> cases e; exact ⟨_, _, rfl, rfl, rfl⟩
theorem rs_eq : RS K (rEqD K) dEq := fun H x y dx dy dz hx hy e Q q => by
  unfold dEq at e; split at e
  · rename_i h; cases e; exact ⟨_, _, hx.dp, hy.dp, h.1, h.2, q _ fun M => .bl _⟩
  · cases e
theorem rs_ne : RS K (rNeD K) dNe := fun H x y dx dy dz hx hy e Q q => by
  unfold dNe at e; split at e
  · rename_i h; cases e; exact ⟨_, _, hx.dp, hy.dp, h.1, h.2, q _ fun M => .bl _⟩
  · cases e
theorem flat_dp {H : Hp} {v : V} {d : D} (h : Rp K H v d) (f : flatD d = true) : flatV v = true := by cases h <;> first | rfl | cases f
theorem flat_any {H H' : Hp} {v : V} {d : D} (h : Rp K H v d) (f : flatD d = true) : Rp K H' v d := by
  cases h <;> first | (cases f; done) | skip
  · exact .non
  · exact .bl _
  · exact .int _
  · exact .str _
theorem eqv_dp {H : Hp} {v u : V} {d e : D} (h : Rp K H v d) (g : Rp K H u e) (f1 : flatD d = true) (f2 : flatD e = true) : eqV v u = PyData.eqv d e := by
  cases h <;> cases g <;> first | (cases f1; done) | (cases f2; done) | skip
  all_goals (simp only [eqV, PyData.eqv])
theorem flat_all {H : Hp} : ∀ {vs : List V} {ds : List D}, RpAll K H vs ds → ds.all flatD = true → vs.all flatV = true
  | _, _, .nil, _ => rfl
  | _, _, .cons h a, f => by
    rw [List.all_cons, Bool.and_eq_true] at f ⊢
    exact ⟨flat_dp h f.1, flat_all a f.2⟩
theorem in_dp {H : Hp} {x : V} {dx : D} (hx : Rp K H x dx) (fx : flatD dx = true) : ∀ {vs : List V} {ds : List D}, RpAll K H vs ds → ds.all flatD = true → inV x vs = inD dx ds
  | _, _, .nil, _ => rfl
  | _, _, .cons h a, f => by
    rw [List.all_cons, Bool.and_eq_true] at f
    have ih := in_dp hx fx a f.2
    unfold inV inD at ih ⊢
    rw [List.any_cons, List.any_cons, ih, eqv_dp h hx f.1 fx]
theorem seq_dp' {H : Hp} {v : V} {d : D} {ds : List D} (h : Rp K H v d) (e : seqOf d = some ds) : ∃ p vs, v = .ref p ∧ Sq K H p vs ∧ RpAll K H vs ds := by
  cases h <;> first | (cases e) | skip
  · exact ⟨_, _, rfl, .inl ‹_›, ‹_›⟩
  · exact ⟨_, _, rfl, .inr ‹_›, ‹_›⟩
theorem rs_in (neg : Bool) : RS K (rIn K neg) (dIn neg) := fun H x y dx dy dz hx hy e Q q => by
  unfold dIn at e
  cases e1 : seqOf dy with
  | none => rw [e1] at e; cases e
  | some ys =>
    rw [e1] at e
    simp only [Option.bind_some] at e
    split at e
    · rename_i h
      cases e
      obtain ⟨p, vs, rfl, h1, h2⟩ := seq_dp' hy e1
      refine ⟨p, vs, rfl, h1.sq, flat_dp hx h.1, flat_all h2 h.2, ?_⟩
      rw [in_dp hx h.1 h2 h.2]
      exact q _ fun M => .bl _
    · cases e
theorem dpa_at {H : Hp} {vs : List V} {ds : List D} {i : Int} {d : D} (a : RpAll K H vs ds) (e : atI ds i = some d) : ∃ v, atI vs i = some v ∧ Rp K H v d := by
  unfold atI at e ⊢
  rw [dpa_len a]
  cases e1 : ixN ds.length i with
  | none => rw [e1] at e; cases e
  | some j =>
    rw [e1] at e
    obtain ⟨v, h1, h2⟩ := dpa_get (i := j) a e
    exact ⟨v, h1, h2⟩
theorem rg_ix : RG K (rIx K) dIx := fun H A x y dx dy dz hA hx hy e Q q => by
  unfold dIx at e
  split at e
  · rename_i xs i
    cases hy
    cases hx with
    | lst h a =>
      obtain ⟨v, h1, h2⟩ := dpa_at a e
      exact .inl ⟨_, _, i, v, rfl, rfl, sql_ex ex_hide0 h, h1, q v H (Ex.refl H) h2⟩
  · rename_i xs i
    cases hy
    cases hx with
    | tup h a =>
      obtain ⟨v, h1, h2⟩ := dpa_at a e
      exact .inr (.inl ⟨_, _, i, v, rfl, rfl, sqt_ex ex_hide0 h, h1, q v H (Ex.refl H) h2⟩)
  · rename_i z i
    cases hy
    cases hx
    split at e
    · cases e1 : atI z.cps.toList i with
      | none => rw [e1] at e; cases e
      | some c =>
        rw [e1] at e
        cases e
        exact .inr (.inr ⟨z, i, c, rfl, rfl, ‹_›, e1, q _ H (Ex.refl H) (.str _)⟩)
    · cases e
  · cases e
end

/-! ### subscripts -/
section
variable {Γ : G} {O L L0 W : List Nat} {a b e : Expr} {ma mb : ME} {pos : Pos}
theorem tr_ix (ha : TrE Γ O L W a ma) (hb : TrE Γ O L W b mb) (hW : ∀ j ∈ W, j ∈ L) (hL : ∀ j ∈ L, j ∈ O) (hs : PlainIx b := by exact fun _ _ => rfl) : TrE Γ O L W (.Subscript a b pos) (xOp dIx ma mb) := by
  obtain ⟨ta, pa, sa⟩ := ha
  obtain ⟨tb, pb, sb⟩ := hb
  exact ⟨tOp (rIx Γ.K) ta tb, fun X h => by rw [← h.K]; exact pe_ix ix_seq (pa X h) (pb X h) hs, sim_opG rg_ix sa sb hW hL⟩
/-- an item of an owned list -/
def xIxOwn (i : Nat) (b : ME) : ME := fun s => (b s).bind fun q => match q.1, q.2.getD i none with
  | .int k, some (.list ds) => (atI ds k).map fun z => (z, q.2)
  | _, _ => none
theorem xIxOwn_of {i : Nat} {b : ME} {s s' : MS} {d : D} (h : xIxOwn i b s = some (d, s')) : ∃ k ds, b s = some (.int k, s') ∧ s'[i]? = some (some (.list ds)) ∧ atI ds k = some d := by
  unfold xIxOwn at h
  cases e : b s with
  | none => rw [e] at h; cases h
  | some q =>
    rw [e] at h
    simp only [Option.bind_some] at h
    split at h
    · rename_i k ds e1 e2
      cases e3 : atI ds k with
      | none => rw [e3] at h; cases h
      | some z =>
        rw [e3] at h
        cases h
        refine ⟨k, ds, by rw [← e1], ?_, e3⟩
        rw [List.getD_eq_getElem?_getD] at e2
        cases e4 : q.2[i]? with
        | none => rw [e4] at e2; cases e2
        | some o => rw [e4] at e2; exact congrArg some e2
    · cases h
theorem tr_ixOwn {i : Nat} {x : Str} {px : Pos} (hN : Γ.N[i]? = some x) (hv : visB Γ.sc x = true) (hi : i ∈ O) (hL : ∀ j ∈ L, j ∈ O) (hb : TrE Γ O L0 W b mb) (hs : PlainIx b := by exact fun _ _ => rfl) (hd : (x == ("__debug__" : Str)) = false := by decide) (hcd : (x == ("__classdict__" : Str)) = false := by decide) :
    TrE Γ O L W (.Subscript (.Name x px) b pos) (xIxOwn i mb) := by
  obtain ⟨tb, pb, sb⟩ := hb
  refine ⟨tOp (rIx Γ.K) (tVar i) tb, fun X h => by rw [← h.K]; exact pe_ix ix_seq (pe_var (h.nx hN) (h.vis hv) hd hcd) (pb X h) hs, fun c σ H s r d s' e Q q => ?_⟩
  obtain ⟨k, ds, e1, e2, e3⟩ := xIxOwn_of e
  obtain ⟨p, vs, _, h1, _⟩ := r.ow i hi
  refine ⟨.ref p, h1, ?_⟩
  refine sb c σ H s r _ _ e1 _ fun u H1 r1 x1 d1 => ?_
  cases d1
  obtain ⟨p', vs', ds', k1, k2, k3, k4, _⟩ := r1.ow i hi
  rw [h1] at k1
  cases k1
  rw [e2] at k2
  cases k2
  obtain ⟨v, g1, g2⟩ := dpa_at k4 e3
  exact .inl ⟨p, vs', k, v, rfl, rfl, .inl (.inl k3), g1, q v H1 r1 x1 (dp_ex (ex_hide_sub (msk_sub hL)) g2)⟩
end
end Z


namespace Z
open PySem PySem.Spec PyProof.Rows L2

/-! ## lists that are read: L (list or tuple), B (a list); they stay while W is written -/
def SimQ (K : PySem.W.Frag) (O L W : List Nat) (t : TE) (m : MF) : Prop := ∀ (c : Cn) (σ : L2.St) (H : Hp) (s : MS), R K c O s σ H → ∀ ds s', m s = some (ds, s') → ∀ Q : VK,
  (∀ p vs H', R K c O s' σ H' → Ex (hide (Own W σ) H) (hide (Own W σ) H') → Sq K (hide (Own W σ) H') p vs → RpAll K (hide (c.msk L σ) H') vs ds → Q (.ref p) H') → t σ H Q
def SimB (K : PySem.W.Frag) (O L W : List Nat) (t : TE) (m : MF) : Prop := ∀ (c : Cn) (σ : L2.St) (H : Hp) (s : MS), R K c O s σ H → ∀ ds s', m s = some (ds, s') → ∀ Q : VK,
  (∀ p vs H', R K c O s' σ H' → Ex (hide (Own W σ) H) (hide (Own W σ) H') → SqL K (hide (Own W σ) H') p vs → RpAll K (hide (c.msk L σ) H') vs ds → Q (.ref p) H') → t σ H Q
section
variable (Γ : G) (O L W : List Nat)
def TrQ (e : Expr) (m : MF) : Prop := ∃ t, (∀ X, InG Γ X → PE X e t) ∧ SimQ Γ.K O L W t m
def TrB (e : Expr) (m : MF) : Prop := ∃ t, (∀ X, InG Γ X → PE X e t) ∧ SimB Γ.K O L W t m
end
def xList (m : ME) : MF := fun s => (m s).bind fun p => match p.1 with
  | .list ds => some (ds, p.2)
  | _ => none
theorem xList_of {m : ME} {s s' : MS} {ds : List D} (h : xList m s = some (ds, s')) : m s = some (.list ds, s') := by
  unfold xList at h
  cases e : m s with
  | none => rw [e] at h; cases h
  | some p =>
    obtain ⟨d, s1⟩ := p
    rw [e] at h
    cases d <;> first | (cases h; rfl) | (cases h)
section
variable {Γ : G} {O L W : List Nat} {e : Expr} {m : ME} {pos : Pos}
theorem own_msk {c : Cn} {σ : L2.St} (hW : ∀ j ∈ W, j ∈ L) : ∀ a, Own W σ a → c.msk L σ a := fun a z => .inr (own_sub hW a z)
theorem tq_E (hW : ∀ j ∈ W, j ∈ L) (h : TrE Γ O L W e m) : TrQ Γ O L W e (xSeq m) := by
  obtain ⟨t, p, q⟩ := h
  refine ⟨t, p, fun c σ H s r ds s' e Q k => ?_⟩
  obtain ⟨d, e1, e2⟩ := xSeq_of e
  refine q c σ H s r _ _ e1 Q fun v H' r' ex hd => ?_
  obtain ⟨a, vs, rfl, h1, h2⟩ := seq_dp hd e2
  exact k _ _ H' r' ex (sq_ex (ex_hide_sub (own_msk hW)) h1) h2
theorem tb_E (hW : ∀ j ∈ W, j ∈ L) (h : TrE Γ O L W e m) : TrB Γ O L W e (xList m) := by
  obtain ⟨t, p, q⟩ := h
  refine ⟨t, p, fun c σ H s r ds s' e Q k => q c σ H s r _ _ (xList_of e) Q fun v H' r' ex hd => ?_⟩
  cases hd with
  | lst h a => exact k _ _ H' r' ex (sql_ex (ex_hide_sub (own_msk hW)) h) a
theorem tq_B {m : MF} (h : TrB Γ O L W e m) : TrQ Γ O L W e m := by
  obtain ⟨t, p, q⟩ := h
  exact ⟨t, p, fun c σ H s r ds s' e Q k => q c σ H s r _ _ e Q fun v vs H' r' ex hd => k v vs H' r' ex (.inl hd)⟩
theorem tb_own {i : Nat} {x : Str} (hN : Γ.N[i]? = some x) (hv : visB Γ.sc x = true) (hi : i ∈ O) (hW : ∀ j ∈ W, j ∈ O) (hiW : i ∉ W) (hd : (x == ("__debug__" : Str)) = false := by decide) (hcd : (x == ("__classdict__" : Str)) = false := by decide) : TrB Γ O O W (.Name x pos) (xOwn i) := by
  refine ⟨tVar i, fun X h => pe_var (h.nx hN) (h.vis hv) hd hcd, fun c σ H s r ds s' e Q q => ?_⟩
  obtain ⟨e1, rfl⟩ := xOwn_of e
  obtain ⟨p, vs, ds', h1, h2, h3, h4, _⟩ := r.ow i hi
  rw [h2] at e1
  cases e1
  exact ⟨_, h1, q p vs H r refl_hide (.inl (.inl (hide_of (fun ⟨j, hj, e⟩ => hiW (r.nd i j p hi (hW j hj) h1 e ▸ hj)) h3))) h4⟩
theorem tb_F {m : MF} (hW : ∀ j ∈ W, j ∈ O) (h : TrF Γ O L W e m) : TrB Γ O L W e m := by
  obtain ⟨t, p, q⟩ := h
  refine ⟨t, p, fun c σ H s r ds s' e Q k => q c σ H s r _ _ e Q fun p vs H' hp r' ex ha hd => k p vs H' (r'.ex ex_hide0) (ex.trans (ex_hide ex_hide0)) (.inl (.inl (hide_of (fun ⟨j, hj, e⟩ => ?_) ha))) (dpa_ex (ex_hide ex_hide0) hd)⟩
  obtain ⟨p', vs', _, h1, _, h3, _⟩ := r'.ow j (hW j hj)
  rw [e] at h1
  cases h1
  exact (of_hide h3).1 rfl
end

/-! ## argument lists, displays -/
section
variable {Γ : G} {O L W : List Nat} {e : Expr} {es : List Expr} {m : ME} {ms : MF} {pos : Pos}
theorem ta_nil : TrA Γ O L W [] xaNil := ⟨tNil, fun _ _ => pa_nil, fun c σ H s r ds s' e Q q => by cases e; exact q [] H r refl_hide .nil⟩
theorem xaCons_of {s s' : MS} {ds : List D} (h : xaCons m ms s = some (ds, s')) : ∃ d s1 es, m s = some (d, s1) ∧ ms s1 = some (es, s') ∧ ds = d :: es := by
  unfold xaCons at h
  cases e1 : m s with
  | none => rw [e1] at h; cases h
  | some p =>
    rw [e1] at h
    simp only [Option.bind_some] at h
    cases e2 : ms p.2 with
    | none => rw [e2] at h; cases h
    | some q => rw [e2] at h; cases h; exact ⟨p.1, p.2, q.1, rfl, e2, rfl⟩
theorem ta_cons (h : TrE Γ O L W e m) (hs : TrA Γ O L W es ms) (hW : ∀ j ∈ W, j ∈ L) (hst : ∀ env : Env, starEach (e :: es) env = (false, eval e env) :: starEach es env := by intro _; rfl) : TrA Γ O L W (e :: es) (xaCons m ms) := by
  obtain ⟨t, p, q⟩ := h
  obtain ⟨ts, ps, qs⟩ := hs
  refine ⟨tCons t ts, fun X h => pa_cons (p X h) (ps X h) (hst X.env), fun c σ H s r ds s' e Q k => ?_⟩
  obtain ⟨d, s1, es, e1, e2, rfl⟩ := xaCons_of e
  refine q c σ H s r _ _ e1 _ fun v H1 r1 x1 d1 => ?_
  refine qs c σ H1 s1 r1 _ _ e2 _ fun vs H2 r2 x2 d2 => ?_
  exact k _ H2 r2 (x1.trans x2) (.cons (dp_ex (keep hW x2) d1) d2)
def xDisp (m : MF) : MF := fun s => (m s).bind fun p => if p.1.length ≤ 1000 then some p else none
theorem xDisp_of {s s' : MS} {ds : List D} (h : xDisp ms s = some (ds, s')) : ms s = some (ds, s') ∧ ds.length ≤ 1000 := by
  unfold xDisp at h
  cases e1 : ms s with
  | none => rw [e1] at h; cases h
  | some p =>
    rw [e1] at h
    simp only [Option.bind_some] at h
    split at h
    · cases h; exact ⟨rfl, ‹_›⟩
    · cases h
theorem sz1000 {n : Nat} (h : n ≤ 1000) : n ≤ sizeLine := Nat.le_trans h (by decide)
/-- a new list at p -/
theorem simF_new {K : PySem.W.Frag} {c : Cn} {σ : L2.St} {H H1 : Hp} {s' : MS} {ds : List D} {Q : VK} {vs : List V} (r1 : R K c O s' σ H1) (x1 : Ex (hide (Own W σ) H) (hide (Own W σ) H1)) (fr : ∀ p, H1 p = none → H p = none) (d1 : RpAll K (hide (c.msk L σ) H1) vs ds)
    (q : ∀ p vs H', H p = none → R K c O s' σ (hide (· = p) H') → Ex (hide (Own W σ) H) (hide (Own W σ) (hide (· = p) H')) → H' p = some (.lst vs) → RpAll K (hide (c.msk L σ) (hide (· = p) H')) vs ds → Q (.ref p) H') :
    ∀ p, H1 p = none → Q (.ref p) (upd H1 p (.lst vs)) := fun p hp => by
  refine q p vs _ (fr p hp) ?_ ?_ upd_same ?_
  · rw [hide_upd hp]; exact r1
  · rw [hide_upd hp]; exact x1
  · rw [hide_upd hp]; exact d1
/-- what is tracked stays tracked -/
theorem fresh_of {K : PySem.W.Frag} {c : Cn} {σ : L2.St} {H H1 : Hp} {s : MS} (r1 : R K c O s σ H1) (hW : ∀ j ∈ W, j ∈ O) (x1 : Ex (hide (Own W σ) H) (hide (Own W σ) H1)) : ∀ p, H1 p = none → H p = none := fun p hp => by
  cases e : H p with
  | none => rfl
  | some o =>
    by_cases z : Own W σ p
    · obtain ⟨j, hj, e1⟩ := z
      obtain ⟨p', vs, _, h1, _, h3, _⟩ := r1.ow j (hW j hj)
      rw [e1] at h1
      cases h1
      rw [hp] at h3
      cases h3
    · rw [(of_hide (x1 p o (hide_of z e))).2] at hp
      cases hp
theorem tf_disp (hs : TrA Γ O L W es ms) (hW : ∀ j ∈ W, j ∈ O) : TrF Γ O L W (.List es pos) (xDisp ms) := by
  obtain ⟨ts, ps, qs⟩ := hs
  refine ⟨tLst ts, fun X h => pe_lst (ps X h), fun c σ H s r ds s' e Q q => ?_⟩
  obtain ⟨e1, hl⟩ := xDisp_of e
  exact qs c σ H s r _ _ e1 _ fun vs H1 r1 x1 d1 => ⟨sz1000 (by rw [dpa_len d1]; exact hl), simF_new r1 x1 (fresh_of r1 hW x1) d1 q⟩
theorem xTup_of {s s' : MS} {d : D} (h : xTup ms s = some (d, s')) : ∃ ds, ms s = some (ds, s') ∧ ds.length ≤ 1000 ∧ d = .tuple ds := by
  unfold xTup at h
  cases e1 : ms s with
  | none => rw [e1] at h; cases h
  | some p =>
    rw [e1] at h
    simp only [Option.bind_some] at h
    split at h
    · cases h; exact ⟨p.1, rfl, ‹_›, rfl⟩
    · cases h
theorem tr_tup {k : Nat} (hs : TrA Γ O L W es ms) (hL : ∀ j ∈ L, j ∈ O) : TrE Γ O L W (.Tuple es k pos) (xTup ms) := by
  obtain ⟨ts, ps, qs⟩ := hs
  refine ⟨tTup ts, fun X h => pe_tup (ps X h), fun c σ H s r d s' e Q q => ?_⟩
  obtain ⟨ds, e1, hl, rfl⟩ := xTup_of e
  refine qs c σ H s r _ _ e1 _ fun vs H1 r1 x1 d1 => ⟨sz1000 (by rw [dpa_len d1]; exact hl), fun p hp => ?_⟩
  have x2 := ex_upd (o := HO.tup vs) hp
  refine q _ _ (r1.ex x2) (x1.trans (ex_hide x2)) (.tup (.inl (.inl (hide_of (fun z => ?_) upd_same))) (dpa_ex (ex_hide x2) d1))
  obtain ⟨o, z⟩ := msk_there r1 hL p z
  rw [hp] at z; cases z
end

/-! ## list + list, list(..), slices -/
theorem op_catR {X : Cx} : OpR X (binaryOp .Add) (fun x y H Q => ∃ l b xs zs, x = .ref l ∧ y = .ref b ∧ SqL X.K H l xs ∧ SqL X.K H b zs ∧ xs.length + zs.length ≤ sizeLine ∧ ∀ p, H p = none → Q (.ref p) (upd H p (.lst (xs ++ zs)))) := by
  intro pins s σ H x y v u Q I rx ry h
  obtain ⟨l, b, xs, zs, rfl, rfl, hH, hB, hz, q⟩ := h
  cases rx
  cases ry
  obtain ⟨its, r, ⟨⟨cls, dd, data, sl⟩, n, ho, hc, hdn, hd⟩, _⟩ := I.list hH
  obtain ⟨its2, r2, ⟨⟨cls2, dd2, data2, sl2⟩, n2, ho2, hc2, hdn2, hd2⟩, _⟩ := I.list hB
  simp only at hc hd hc2 hd2
  subst hc hd hc2 hd2
  have hl := r.length
  have hl2 := r2.length
  have ea : its.toArray ++ its2.toArray = (its ++ its2).toArray := by simp
  refine concat_meets ⟨_, ho, rfl⟩ ⟨_, ho2, rfl⟩ noFill_list_add seq_list_add PySem.F.slot_list_add PySem.F.entry_list_add (PySem.F.args_list_add_2 _ _) (list_addW l b its.toArray its2.toArray n n2 dd dd2 sl sl2 (by rw [List.size_toArray, List.size_toArray]; omega)) ⟨ho, ho2, ?_⟩
  rw [ea]
  exact ⟨.ref _, _, I.lnew (t' := s.toks) (r.append r2) (by rw [List.length_append]; omega), rfl, q _ I.fresh⟩
def rCatS (K : PySem.W.Frag) : R2 := fun x y H Q => ∃ l b xs zs, x = .ref l ∧ y = .ref b ∧ SqL K H l xs ∧ SqL K H b zs ∧ xs.length + zs.length ≤ sizeLine ∧ ∀ p, H p = none → Q (.ref p) (upd H p (.lst (xs ++ zs)))
def xCat (a b : MF) : MF := fun s => (a s).bind fun p => (b p.2).bind fun q => if p.1.length + q.1.length ≤ 1000000 then some (p.1 ++ q.1, q.2) else none
theorem sz1M {n : Nat} (h : n ≤ 1000000) : n ≤ sizeLine := Nat.le_trans h (by decide)
section
variable {Γ : G} {O L L0 W : List Nat} {a b e : Expr} {ma mb ms : MF} {m : ME} {pos : Pos}
theorem xCat_of {s s' : MS} {ds : List D} (h : xCat ma mb s = some (ds, s')) : ∃ xs s1 ys, ma s = some (xs, s1) ∧ mb s1 = some (ys, s') ∧ xs.length + ys.length ≤ 1000000 ∧ ds = xs ++ ys := by
  unfold xCat at h
  cases e1 : ma s with
  | none => rw [e1] at h; cases h
  | some p =>
    rw [e1] at h
    simp only [Option.bind_some] at h
    cases e2 : mb p.2 with
    | none => rw [e2] at h; cases h
    | some q =>
      rw [e2] at h
      simp only [Option.bind_some] at h
      split at h
      · cases h; exact ⟨p.1, p.2, q.1, rfl, e2, ‹_›, rfl⟩
      · cases h
theorem tf_cat (ha : TrB Γ O L W a ma) (hb : TrB Γ O L W b mb) (hW : ∀ j ∈ W, j ∈ L) (hL : ∀ j ∈ L, j ∈ O) : TrF Γ O L W (.BinOp a .Add b pos) (xCat ma mb) := by
  obtain ⟨ta, pa, sa⟩ := ha
  obtain ⟨tb, pb, sb⟩ := hb
  refine ⟨tOp (rCatS Γ.K) ta tb, fun X h => by rw [← h.K]; exact pe_op op_catR (pa X h) (pb X h), fun c σ H s r ds s' e Q q => ?_⟩
  obtain ⟨xs, s1, ys, e1, e2, hl, rfl⟩ := xCat_of e
  refine sa c σ H s r _ _ e1 _ fun p vs H1 r1 x1 rd1 d1 => ?_
  refine sb c σ H1 s1 r1 _ _ e2 _ fun p2 us H2 r2 x2 rd2 d2 => ?_
  refine ⟨p, p2, vs, us, rfl, rfl, sql_ex (x2.trans ex_hide0) rd1, sql_ex ex_hide0 rd2, sz1M (by rw [dpa_len d1, dpa_len d2]; exact hl), ?_⟩
  exact simF_new r2 (x1.trans x2) (fresh_of r2 (fun j hj => hL j (hW j hj)) (x1.trans x2)) (dpa_app (dpa_ex (keep hW x2) d1) d2) q
def rListOf (K : PySem.W.Frag) : List V → Hp → VK → Prop := fun xs H Q => ∃ p ys, xs = [.ref p] ∧ (SqL K H p ys ∨ SqT K H p ys) ∧ ∀ l, H l = none → Q (.ref l) (upd H l (.lst ys))
theorem tf_list {p : Pos} (hg : Γ.sc.names.lookup ("list" : Str) = some .globalImplicit) (hm : Γ.mg "list" = none) (ha : TrQ Γ O L W a ma) (hW : ∀ j ∈ W, j ∈ O) (hst : ∀ env : Env, starEach [a] env = (false, eval a env) :: starEach [] env := by intro _; rfl) : TrF Γ O L W (.Call (.Name "list" p) [a] [] pos) ma := by
  obtain ⟨ta, pa, sa⟩ := ha
  refine ⟨_, fun X h => pe_callTy (T := "list") (r := rListOf Γ.K) (by rw [← h.K]; exact call_list_of) (h.gl hg) (h.mgn hm) (by decide +kernel) (pa_cons (pa X h) pa_nil (hst X.env)) (he := hst X.env), fun c σ H s r ds s' e Q q => ?_⟩
  exact sa c σ H s r _ _ e _ fun p vs H1 r1 x1 rd1 d1 => ⟨p, vs, rfl, (sq_ex ex_hide0 rd1).sq, simF_new r1 x1 (fresh_of r1 hW x1) d1 q⟩
/-- list(range(b)), list(range(a, b)) -/
def dRg (a b : Int) : List D := (List.range (b - a).toNat).map fun i => PyData.int (a + (i : Nat))
theorem rg_dp {K : PySem.W.Frag} {H : Hp} (a b : Int) : RpAll K H (rgV a b) (dRg a b) := by
  unfold rgV dRg
  generalize List.range (b - a).toNat = l
  induction l with
  | nil => exact .nil
  | cons i l ih => exact .cons (.int _) ih
def xRg1 (m : ME) : MF := fun s => (m s).bind fun p => match p.1 with
  | .int n => if n ≤ 1000000 ∧ -1000000 ≤ n then some (dRg 0 n, p.2) else none
  | _ => none
theorem xRg1_of {s s' : MS} {ds : List D} (h : xRg1 m s = some (ds, s')) : ∃ n, m s = some (.int n, s') ∧ (n ≤ 1000000 ∧ -1000000 ≤ n) ∧ ds = dRg 0 n := by
  unfold xRg1 at h
  cases e1 : m s with
  | none => rw [e1] at h; cases h
  | some p =>
    obtain ⟨d, s1⟩ := p
    rw [e1] at h
    simp only [Option.bind_some] at h
    cases d <;> first | (cases h; done) | skip
    dsimp only at h
    split at h
    · cases h; exact ⟨_, rfl, ‹_›, rfl⟩
    · cases h
theorem tf_listRg1 {p p2 pos2 : Pos} (hg : Γ.sc.names.lookup ("list" : Str) = some .globalImplicit) (hm : Γ.mg "list" = none) (hg2 : Γ.sc.names.lookup ("range" : Str) = some .globalImplicit) (hm2 : Γ.mg "range" = none) (ha : TrE Γ O L0 W a m) (hW : ∀ j ∈ W, j ∈ O)
    (hst : ∀ env : Env, starEach [a] env = (false, eval a env) :: starEach [] env := by intro _; rfl) (hcm : Γ.calm = true := by rfl) : TrF Γ O L W (.Call (.Name "list" p) [.Call (.Name "range" p2) [a] [] pos2] [] pos) (xRg1 m) := by
  obtain ⟨ta, pa, sa⟩ := ha
  refine ⟨_, fun X h => pe_listRg (h.cm hcm) (h.gl hg) (h.mgn hm) (prg_1 (h.gl hg2) (h.mgn hm2) (pa X h) (hst X.env)), fun c σ H s r ds s' e Q q => ?_⟩
  obtain ⟨n, e1, hn, rfl⟩ := xRg1_of e
  refine sa c σ H s r _ _ e1 _ fun v H1 r1 x1 d1 => ?_
  cases d1
  exact ⟨n, rfl, ⟨by omega, by omega, by omega, by omega, by omega⟩, simF_new r1 x1 (fresh_of r1 hW x1) (rg_dp 0 n) q⟩
end

/-! ## slices -/
def SimO (K : PySem.W.Frag) (O W : List Nat) (t : TO) (m : MS → Option (Option Int × MS)) : Prop := ∀ (c : Cn) (σ : L2.St) (H : Hp) (s : MS), R K c O s σ H → ∀ o s', m s = some (o, s') → ∀ Q : Option Int → Hp → Prop,
  (∀ H', R K c O s' σ H' → Ex (hide (Own W σ) H) (hide (Own W σ) H') → Q o H') → t σ H Q
def TrO (Γ : G) (O W : List Nat) (e : Option Expr) (m : MS → Option (Option Int × MS)) : Prop := ∃ t, (∀ X, InG Γ X → PO X e t) ∧ SimO Γ.K O W t m
def xoNone : MS → Option (Option Int × MS) := fun s => some (none, s)
def xoSome (m : ME) : MS → Option (Option Int × MS) := fun s => (m s).bind fun p => match p.1 with
  | .int n => some (some n, p.2)
  | _ => none
def cutD (xs : List D) (lo hi : Option Int) : List D := (xs.drop (HT.sIx xs.length 0 lo)).take (HT.sIx xs.length xs.length hi - HT.sIx xs.length 0 lo)
theorem cut_dp {K : PySem.W.Frag} {H : Hp} {vs : List V} {ds : List D} (h : RpAll K H vs ds) (lo hi : Option Int) : RpAll K H (cutV vs lo hi) (cutD ds lo hi) := by
  unfold cutV cutD
  rw [dpa_len h]
  exact dpa_take _ (dpa_drop _ h)
section
variable {Γ : G} {O L L0 W : List Nat} {a b e : Expr} {ma mb ms : MF} {m : ME} {pos p2 : Pos} {lo hi : Option Expr} {ml mh : MS → Option (Option Int × MS)}
theorem to_none : TrO Γ O W none xoNone := ⟨tNoPart, fun _ _ => po_none, fun c σ H s r o s' e Q q => by cases e; exact q H r refl_hide⟩
theorem to_some (h : TrE Γ O L0 W e m) : TrO Γ O W (some e) (xoSome m) := by
  obtain ⟨t, p, q⟩ := h
  refine ⟨tPart t, fun X h => po_some (p X h), fun c σ H s r o s' e Q k => ?_⟩
  unfold xoSome at e
  cases e1 : m s with
  | none => rw [e1] at e; cases e
  | some pr =>
    obtain ⟨d, s1⟩ := pr
    rw [e1] at e
    simp only [Option.bind_some] at e
    cases d <;> first | (cases e; done) | skip
    cases e
    refine q c σ H s r _ _ e1 _ fun v H1 r1 x1 d1 => ?_
    cases d1
    exact ⟨_, rfl, k H1 r1 x1⟩
def xSl (f : List D → Option Int → Option Int → List D) (m : MF) (l h : MS → Option (Option Int × MS)) : MF := fun s => (m s).bind fun p => (l p.2).bind fun q => (h q.2).map fun w => (f p.1 q.1 w.1, w.2)
theorem tf_slice (ha : TrB Γ O L W a ma) (hl : TrO Γ O W lo ml) (hh : TrO Γ O W hi mh) (hW : ∀ j ∈ W, j ∈ L) (hL : ∀ j ∈ L, j ∈ O) : TrF Γ O L W (.Subscript a (.Slice lo hi none p2) pos) (xSl cutD ma ml mh) := by
  obtain ⟨ta, pa, sa⟩ := ha
  obtain ⟨tl, pl, sl⟩ := hl
  obtain ⟨th, ph, sh⟩ := hh
  refine ⟨tSl (rSlL Γ.K) ta tl th, fun X h => by rw [← h.K]; exact pe_slice sl_list (pa X h) (pl X h) (ph X h), fun c σ H s r ds s' e Q q => ?_⟩
  unfold xSl at e
  cases e1 : ma s with
  | none => rw [e1] at e; cases e
  | some p =>
    rw [e1] at e
    simp only [Option.bind_some] at e
    cases e2 : ml p.2 with
    | none => rw [e2] at e; cases e
    | some q2 =>
      rw [e2] at e
      simp only [Option.bind_some] at e
      cases e3 : mh q2.2 with
      | none => rw [e3] at e; cases e
      | some w =>
        rw [e3] at e
        cases e
        refine sa c σ H s r _ _ e1 _ fun v vs H1 r1 x1 rd1 d1 => ?_
        refine sl c σ H1 _ r1 _ _ e2 _ fun H2 r2 x2 => ?_
        refine sh c σ H2 _ r2 _ _ e3 _ fun H3 r3 x3 => ?_
        exact ⟨v, vs, rfl, sql_ex ((x2.trans x3).trans ex_hide0) rd1, simF_new r3 ((x1.trans x2).trans x3) (fresh_of r3 (fun j hj => hL j (hW j hj)) ((x1.trans x2).trans x3)) (cut_dp (dpa_ex (keep hW (x2.trans x3)) d1) q2.1 w.1) q⟩
/-- a slice of a text -/
def xSlS (m : ME) (l h : MS → Option (Option Int × MS)) : ME := fun s => (m s).bind fun p => (l p.2).bind fun q => (h q.2).bind fun w => match p.1 with
  | .str z => if z.length ≤ 1000000 then some (.str (cutS z q.1 w.1), w.2) else none
  | _ => none
theorem tr_sliceS (ha : TrE Γ O L0 W a m) (hl : TrO Γ O W lo ml) (hh : TrO Γ O W hi mh) : TrE Γ O L W (.Subscript a (.Slice lo hi none p2) pos) (xSlS m ml mh) := by
  obtain ⟨ta, pa, sa⟩ := ha
  obtain ⟨tl, pl, sl⟩ := hl
  obtain ⟨th, ph, sh⟩ := hh
  refine ⟨tSl rSlS ta tl th, fun X h => pe_slice sl_str (pa X h) (pl X h) (ph X h), fun c σ H s r ds s' e Q q => ?_⟩
  unfold xSlS at e
  cases e1 : m s with
  | none => rw [e1] at e; cases e
  | some p =>
    obtain ⟨d, s1⟩ := p
    rw [e1] at e
    simp only [Option.bind_some] at e
    cases e2 : ml s1 with
    | none => rw [e2] at e; cases e
    | some q2 =>
      rw [e2] at e
      simp only [Option.bind_some] at e
      cases e3 : mh q2.2 with
      | none => rw [e3] at e; cases e
      | some w =>
        rw [e3] at e
        simp only [Option.bind_some] at e
        cases d <;> first | (cases e; done) | skip
        dsimp only at e
        split at e
        · cases e
          refine sa c σ H s r _ _ e1 _ fun v H1 r1 x1 d1 => ?_
          refine sl c σ H1 _ r1 _ _ e2 _ fun H2 r2 x2 => ?_
          refine sh c σ H2 _ r2 _ _ e3 _ fun H3 r3 x3 => ?_
          cases d1
          exact ⟨_, rfl, sz1M ‹_›, q _ H3 r3 ((x1.trans x2).trans x3) (.str _)⟩
        · cases e
end
end Z


namespace Z
open PySem PySem.Spec PyProof.Rows L2

/-! ## lists of one kind -/
def asInts : List D → Option (List Int)
  | [] => some []
  | .int i :: r => (asInts r).map (i :: ·)
  | _ :: _ => none
def asStrs : List D → Option (List Str)
  | [] => some []
  | .str i :: r => (asStrs r).map (i :: ·)
  | _ :: _ => none
def asBls : List D → Option (List Bool)
  | [] => some []
  | .bool i :: r => (asBls r).map (i :: ·)
  | _ :: _ => none
theorem asInts_of : ∀ {ds : List D} {ns : List Int}, asInts ds = some ns → ds = ns.map PyData.int
  | [], ns, h => by cases h; rfl
  | d :: r, ns, h => by
    cases d <;> first | (cases h; done) | skip
    unfold asInts at h
    cases e : asInts r with
    | none => rw [e] at h; cases h
    | some l => rw [e] at h; cases h; rw [asInts_of e]; rfl
theorem asStrs_of : ∀ {ds : List D} {ns : List Str}, asStrs ds = some ns → ds = ns.map PyData.str
  | [], ns, h => by cases h; rfl
  | d :: r, ns, h => by
    cases d <;> first | (cases h; done) | skip
    unfold asStrs at h
    cases e : asStrs r with
    | none => rw [e] at h; cases h
    | some l => rw [e] at h; cases h; rw [asStrs_of e]; rfl
theorem asBls_of : ∀ {ds : List D} {ns : List Bool}, asBls ds = some ns → ds = ns.map PyData.bool
  | [], ns, h => by cases h; rfl
  | d :: r, ns, h => by
    cases d <;> first | (cases h; done) | skip
    unfold asBls at h
    cases e : asBls r with
    | none => rw [e] at h; cases h
    | some l => rw [e] at h; cases h; rw [asBls_of e]; rfl
theorem asInts_map : ∀ ns : List Int, asInts (ns.map PyData.int) = some ns
  | [] => rfl
  | n :: ns => by unfold List.map asInts; rw [asInts_map ns]; rfl
theorem asStrs_map : ∀ ns : List Str, asStrs (ns.map PyData.str) = some ns
  | [] => rfl
  | n :: ns => by unfold List.map asStrs; rw [asStrs_map ns]; rfl
theorem asBls_map : ∀ ns : List Bool, asBls (ns.map PyData.bool) = some ns
  | [] => rfl
  | n :: ns => by unfold List.map asBls; rw [asBls_map ns]; rfl
section
variable {K : PySem.W.Frag} {H : Hp}
theorem of_bls : ∀ {vs : List V} {ns : List Bool}, RpAll K H vs (ns.map PyData.bool) → vs = ns.map V.bl
  | _, [], .nil => rfl
  | _, n :: ns, .cons h a => by cases h; rw [of_bls a]; rfl
end

/-! ## calls of built-ins by values -/
def RCS (K : PySem.W.Frag) (r : List V → Hp → VK → Prop) (f : List D → Option D) : Prop := ∀ (H : Hp) (vs : List V) (ds : List D) (dz : D), RpAll K H vs ds → f ds = some dz → ∀ Q : VK, (∀ v, (∀ M, Rp K M v dz) → Q v H) → r vs H Q
theorem xFn_of {f : List D → Option D} {ms : MF} {s s' : MS} {d : D} (h : xFn f ms s = some (d, s')) : ∃ ds, ms s = some (ds, s') ∧ f ds = some d := by
  unfold xFn at h
  cases e1 : ms s with
  | none => rw [e1] at h; cases h
  | some p =>
    rw [e1] at h
    simp only [Option.bind_some] at h
    cases e2 : f p.1 with
    | none => rw [e2] at h; cases h
    | some z => rw [e2] at h; cases h; exact ⟨p.1, rfl, e2⟩
theorem sim_cb {K : PySem.W.Frag} {O L L0 W : List Nat} {t : TA} {ms : MF} {r : List V → Hp → VK → Prop} {f : List D → Option D} (hr : RCS K r f) (ha : SimA K O L0 W t ms) : SimE K O L W (tCB r t) (xFn f ms) := fun c σ H s r0 d s' e Q q => by
  obtain ⟨ds, e1, e2⟩ := xFn_of e
  exact ha c σ H s r0 _ _ e1 _ fun vs H1 r1 x1 d1 => hr H1 vs ds d (dpa_ex ex_hide0 d1) e2 Q fun v hv => q v H1 r1 x1 (hv _)
section
variable {Γ : G} {O L L0 W : List Nat} {e : Expr} {es : List Expr} {ms : MF} {r : List V → Hp → VK → Prop} {f : List D → Option D} {x : Str} {p pos : Pos}
theorem tr_cbB {id : String} (hc : ∀ X, InG Γ X → CallR X (.builtin id) r) (hr : RCS Γ.K r f) (hg : Γ.sc.names.lookup x = some .globalImplicit) (hm : Γ.mg x = none) (hv : bootBuiltins x = some (.builtin id)) (ha : TrA Γ O L0 W (e :: es) ms)
    (hn : x ≠ "__name__" := by decide) (hdb : (x == ("__debug__" : Str)) = false := by decide) (he : ∀ env : Env, starEach (e :: es) env = (false, eval e env) :: starEach es env := by intro _; rfl) (hpl : ∀ env : Env, (backTo pos (starEach es env)).any (·.1) = false := by intro _; rfl) :
    TrE Γ O L W (.Call (.Name x p) (e :: es) [] pos) (xFn f ms) := by
  obtain ⟨t, pa, sa⟩ := ha
  exact ⟨_, fun X h => pe_callB (hc X h) (h.gl hg) (h.mgn hm) hv (pa X h) hn hdb (he X.env) (hpl X.env), sim_cb hr sa⟩
theorem tr_cbT {T : String} (hc : ∀ X, InG Γ X → CallR X (.type T) r) (hr : RCS Γ.K r f) (hg : Γ.sc.names.lookup x = some .globalImplicit) (hm : Γ.mg x = none) (hv : bootBuiltins x = some (.type T)) (ha : TrA Γ O L0 W (e :: es) ms)
    (hn : x ≠ "__name__" := by decide) (hdb : (x == ("__debug__" : Str)) = false := by decide) (he : ∀ env : Env, starEach (e :: es) env = (false, eval e env) :: starEach es env := by intro _; rfl) (hpl : ∀ env : Env, (backTo pos (starEach es env)).any (·.1) = false := by intro _; rfl) :
    TrE Γ O L W (.Call (.Name x p) (e :: es) [] pos) (xFn f ms) := by
  obtain ⟨t, pa, sa⟩ := ha
  exact ⟨_, fun X h => pe_callTy (hc X h) (h.gl hg) (h.mgn hm) hv (pa X h) hn hdb (he X.env) (hpl X.env), sim_cb hr sa⟩
end
def rLenA (K : PySem.W.Frag) : List V → Hp → VK → Prop := fun xs H Q => ∃ x n, xs = [x] ∧ LenV K x H n ∧ Q (.int n) H
def dLen : List D → Option D
  | [.list xs] => some (.int xs.length)
  | [.tuple xs] => some (.int xs.length)
  | [.str z] => if z.length ≤ sizeLine then some (.int z.length) else none
  | _ => none
def dAbs : List D → Option D
  | [.int i] => some (.int (if i < 0 then -i else i))
  | _ => none
def dInt : List D → Option D
  | [.int i] => some (.int i)
  | [.bool k] => some (.int (if k then 1 else 0))
  | [.str a] => if a.length ≤ 640 then (PySem.intText? a).map .int else none
  | _ => none
def dStr : List D → Option D
  | [.int i] => if i.natAbs.log2 < 1920 then some (.str (toString i)) else none
  | _ => none
def dSum : List D → Option D
  | [.list xs] => (asInts xs).map fun ns => .int ns.sum
  | _ => none
def maxL : Int → List Int → Int
  | a, [] => a
  | a, b :: r => maxL (max a b) r
def minL : Int → List Int → Int
  | a, [] => a
  | a, b :: r => minL (min a b) r
theorem maxL_mem : ∀ (r : List Int) (a : Int), maxL a r ∈ a :: r ∧ ∀ y ∈ a :: r, y ≤ maxL a r
  | [], a => by simp [maxL]
  | b :: r, a => by
    obtain ⟨h1, h2⟩ := maxL_mem r (max a b)
    refine ⟨?_, fun y hy => ?_⟩
    · show maxL (max a b) r ∈ _
      rcases List.mem_cons.mp h1 with h | h
      · rw [h]
        rcases Int.le_total a b with q | q
        · rw [Int.max_eq_right q]; simp
        · rw [Int.max_eq_left q]; simp
      · exact List.mem_cons_of_mem _ (List.mem_cons_of_mem _ h)
    · show y ≤ maxL (max a b) r
      have h0 := h2 (max a b) List.mem_cons_self
      rcases List.mem_cons.mp hy with h | h
      · rw [h]; omega
      · rcases List.mem_cons.mp h with h | h
        · rw [h]; omega
        · exact h2 y (List.mem_cons_of_mem _ h)
theorem minL_mem : ∀ (r : List Int) (a : Int), minL a r ∈ a :: r ∧ ∀ y ∈ a :: r, minL a r ≤ y
  | [], a => by simp [minL]
  | b :: r, a => by
    obtain ⟨h1, h2⟩ := minL_mem r (min a b)
    refine ⟨?_, fun y hy => ?_⟩
    · show minL (min a b) r ∈ _
      rcases List.mem_cons.mp h1 with h | h
      · rw [h]
        rcases Int.le_total a b with q | q
        · rw [Int.min_eq_left q]; simp
        · rw [Int.min_eq_right q]; simp
      · exact List.mem_cons_of_mem _ (List.mem_cons_of_mem _ h)
    · show minL (min a b) r ≤ y
      have h0 := h2 (min a b) List.mem_cons_self
      rcases List.mem_cons.mp hy with h | h
      · rw [h]; omega
      · rcases List.mem_cons.mp h with h | h
        · rw [h]; omega
        · exact h2 y (List.mem_cons_of_mem _ h)
def dMax : List D → Option D
  | [.list xs] => match asInts xs with
    | some (a :: r) => some (.int (maxL a r))
    | _ => none
  | [.int a, .int b] => some (.int (if b > a then b else a))
  | _ => none
def dMin : List D → Option D
  | [.list xs] => match asInts xs with
    | some (a :: r) => some (.int (minL a r))
    | _ => none
  | [.int a, .int b] => some (.int (if b < a then b else a))
  | _ => none
def dAll : List D → Option D
  | [.list xs] => (asBls xs).map fun bs => .bool (bs.all id)
  | _ => none
def dAny : List D → Option D
  | [.list xs] => (asBls xs).map fun bs => .bool (bs.any id)
  | _ => none
section
variable {K : PySem.W.Frag}
theorem rc_len : RCS K (rLenA K) dLen := fun H vs ds dz h e Q q => by
  unfold dLen at e
  split at e
  · cases e; cases h with | cons h a => cases a; cases h with | lst h a => exact ⟨_, _, rfl, .inl ⟨_, h, (dpa_len a).symm⟩, q _ fun M => .int _⟩
  · cases e; cases h with | cons h a => cases a; cases h with | tup h a => exact ⟨_, _, rfl, .inr ⟨_, h, (dpa_len a).symm⟩, q _ fun M => .int _⟩
  · split at e
    · cases e; cases h with | cons h a => cases a; cases h; exact ⟨_, _, rfl, ⟨‹_›, rfl⟩, q _ fun M => .int _⟩
    · cases e
  · cases e
theorem rc_abs : RCS K (fun xs H Q => ∃ i, xs = [.int i] ∧ Q (.int (if i < 0 then -i else i)) H) dAbs := fun H vs ds dz h e Q q => by
  unfold dAbs at e
  split at e
  · cases e; cases h with | cons h a => cases a; cases h; exact ⟨_, rfl, q _ fun M => .int _⟩
  · cases e
def rIntA : List V → Hp → VK → Prop := fun xs H Q => ((∃ i, xs = [.int i] ∧ Q (.int i) H) ∨ ∃ k, xs = [.bl k] ∧ Q (.int (if k then 1 else 0)) H) ∨ (∃ a n, xs = [.str a] ∧ PySem.intText? a = some n ∧ a.length ≤ 640 ∧ Q (.int n) H)
theorem call_intA {X : Cx} : CallR X (.type "int") rIntA := call_int1.or call_int_str
theorem rc_int : RCS K rIntA dInt := fun H vs ds dz h e Q q => by
  unfold dInt at e
  split at e
  · cases e; cases h with | cons h a => cases a; cases h; exact .inl (.inl ⟨_, rfl, q _ fun M => .int _⟩)
  · cases e; cases h with | cons h a => cases a; cases h; exact .inl (.inr ⟨_, rfl, q _ fun M => .int _⟩)
  · split at e
    · rename_i z _
      cases h with
      | cons h a =>
        cases a; cases h
        cases e2 : PySem.intText? z with
        | none => rw [e2] at e; cases e
        | some n => rw [e2] at e; cases e; exact .inr ⟨_, _, rfl, e2, ‹_›, q _ fun M => .int _⟩
    · cases e
  · cases e
theorem rc_str : RCS K (fun xs H Q => ∃ i, xs = [.int i] ∧ i.natAbs.log2 < 1920 ∧ Q (.str (toString i)) H) dStr := fun H vs ds dz h e Q q => by
  unfold dStr at e
  split at e
  · split at e
    · cases e; cases h with | cons h a => cases a; cases h; exact ⟨_, rfl, ‹_›, q _ fun M => .str _⟩
    · cases e
  · cases e
theorem rc_sum : RCS K (rSum K) dSum := fun H vs ds dz h e Q q => by
  unfold dSum at e
  split at e
  · rename_i xs
    cases e2 : asInts xs with
    | none => rw [e2] at e; cases e
    | some ns =>
      rw [e2] at e; cases e
      cases asInts_of e2
      cases h with | cons h a => cases a; cases h with | lst h a => exact ⟨_, ns, rfl, of_ints a ▸ h, q _ fun M => .int _⟩
  · cases e
def rMaxA (K : PySem.W.Frag) : List V → Hp → VK → Prop := fun xs H Q => rMax K xs H Q ∨ (∃ i j, xs = [.int i, .int j] ∧ Q (.int (if j > i then j else i)) H)
def rMinA (K : PySem.W.Frag) : List V → Hp → VK → Prop := fun xs H Q => rMin K xs H Q ∨ (∃ i j, xs = [.int i, .int j] ∧ Q (.int (if j < i then j else i)) H)
theorem rc_max : RCS K (rMaxA K) dMax := fun H vs ds dz h e Q q => by
  unfold dMax at e
  split at e
  · rename_i xs
    split at e
    · rename_i a r e2
      cases e
      cases asInts_of e2
      cases h with
      | cons h a2 =>
        cases a2
        cases h with
        | lst h a2 =>
          refine .inl ⟨_, a :: r, rfl, of_ints a2 ▸ h, by simp, fun m hm hle => ?_⟩
          obtain ⟨h1, h2⟩ := maxL_mem r a
          have em : m = maxL a r := Int.le_antisymm (h2 m hm) (hle _ h1)
          rw [em]
          exact q _ fun M => .int _
    · cases e
  · cases e; cases h with | cons h a => cases a with | cons h2 a => cases a; cases h; cases h2; exact .inr ⟨_, _, rfl, q _ fun M => .int _⟩
  · cases e
theorem rc_min : RCS K (rMinA K) dMin := fun H vs ds dz h e Q q => by
  unfold dMin at e
  split at e
  · rename_i xs
    split at e
    · rename_i a r e2
      cases e
      cases asInts_of e2
      cases h with
      | cons h a2 =>
        cases a2
        cases h with
        | lst h a2 =>
          refine .inl ⟨_, a :: r, rfl, of_ints a2 ▸ h, by simp, fun m hm hle => ?_⟩
          obtain ⟨h1, h2⟩ := minL_mem r a
          have em : m = minL a r := Int.le_antisymm (hle _ h1) (h2 m hm)
          rw [em]
          exact q _ fun M => .int _
    · cases e
  · cases e; cases h with | cons h a => cases a with | cons h2 a => cases a; cases h; cases h2; exact .inr ⟨_, _, rfl, q _ fun M => .int _⟩
  · cases e
theorem rc_all : RCS K (rAll K) dAll := fun H vs ds dz h e Q q => by
  unfold dAll at e
  split at e
  · rename_i xs
    cases e2 : asBls xs with
    | none => rw [e2] at e; cases e
    | some ns =>
      rw [e2] at e; cases e
      cases asBls_of e2
      cases h with | cons h a => cases a; cases h with | lst h a => exact ⟨_, ns, rfl, of_bls a ▸ h, q _ fun M => .bl _⟩
  · cases e
theorem rc_any : RCS K (rAny K) dAny := fun H vs ds dz h e Q q => by
  unfold dAny at e
  split at e
  · rename_i xs
    cases e2 : asBls xs with
    | none => rw [e2] at e; cases e
    | some ns =>
      rw [e2] at e; cases e
      cases asBls_of e2
      cases h with | cons h a => cases a; cases h with | lst h a => exact ⟨_, ns, rfl, of_bls a ▸ h, q _ fun M => .bl _⟩
  · cases e
end
section
variable {Γ : G} {O L L0 W : List Nat} {e : Expr} {es : List Expr} {ms : MF} {p pos : Pos}
/-- the built-ins by name; hs, he: the two forms of the written arguments -/
theorem tr_len (hg : Γ.sc.names.lookup ("len" : Str) = some .globalImplicit) (hm : Γ.mg "len" = none) (ha : TrA Γ O L0 W [e] ms) (he : ∀ env : Env, starEach [e] env = (false, eval e env) :: starEach [] env := by intro _; rfl) : TrE Γ O L W (.Call (.Name "len" p) [e] [] pos) (xFn dLen ms) :=
  tr_cbB (r := rLenA Γ.K) (fun X h => by rw [← h.K]; exact call_len) rc_len hg hm PySem.boot_len ha (by decide) (by decide) he
theorem tr_abs (hg : Γ.sc.names.lookup ("abs" : Str) = some .globalImplicit) (hm : Γ.mg "abs" = none) (ha : TrA Γ O L0 W [e] ms) (he : ∀ env : Env, starEach [e] env = (false, eval e env) :: starEach [] env := by intro _; rfl) : TrE Γ O L W (.Call (.Name "abs" p) [e] [] pos) (xFn dAbs ms) :=
  tr_cbB (fun X h => call_abs) rc_abs hg hm (by decide +kernel) ha (by decide) (by decide) he
theorem tr_intC (hg : Γ.sc.names.lookup ("int" : Str) = some .globalImplicit) (hm : Γ.mg "int" = none) (ha : TrA Γ O L0 W [e] ms) (he : ∀ env : Env, starEach [e] env = (false, eval e env) :: starEach [] env := by intro _; rfl) : TrE Γ O L W (.Call (.Name "int" p) [e] [] pos) (xFn dInt ms) :=
  tr_cbT (fun X h => call_intA) rc_int hg hm (by decide +kernel) ha (by decide) (by decide) he
theorem tr_strC (hg : Γ.sc.names.lookup ("str" : Str) = some .globalImplicit) (hm : Γ.mg "str" = none) (ha : TrA Γ O L0 W [e] ms) (he : ∀ env : Env, starEach [e] env = (false, eval e env) :: starEach [] env := by intro _; rfl) : TrE Γ O L W (.Call (.Name "str" p) [e] [] pos) (xFn dStr ms) :=
  tr_cbT (fun X h => call_str_int) rc_str hg hm (by decide +kernel) ha (by decide) (by decide) he
theorem tr_sum (hg : Γ.sc.names.lookup ("sum" : Str) = some .globalImplicit) (hm : Γ.mg "sum" = none) (ha : TrA Γ O L0 W [e] ms) (he : ∀ env : Env, starEach [e] env = (false, eval e env) :: starEach [] env := by intro _; rfl) (hcm : Γ.calm = true := by rfl) : TrE Γ O L W (.Call (.Name "sum" p) [e] [] pos) (xFn dSum ms) :=
  tr_cbB (r := rSum Γ.K) (fun X h => by rw [← h.K]; exact cr_sum (h.cm hcm)) rc_sum hg hm (by decide +kernel) ha (by decide) (by decide) he
theorem tr_max1 (hg : Γ.sc.names.lookup ("max" : Str) = some .globalImplicit) (hm : Γ.mg "max" = none) (ha : TrA Γ O L0 W (e :: es) ms) (he : ∀ env : Env, starEach (e :: es) env = (false, eval e env) :: starEach es env := by intro _; rfl) (hpl : ∀ env : Env, (backTo pos (starEach es env)).any (·.1) = false := by intro _; rfl) (hcm : Γ.calm = true := by rfl) : TrE Γ O L W (.Call (.Name "max" p) (e :: es) [] pos) (xFn dMax ms) :=
  tr_cbB (r := rMaxA Γ.K) (fun X h => by rw [← h.K]; exact (cr_max (h.cm hcm)).or (call_max2 (h.cm hcm))) rc_max hg hm (by decide +kernel) ha (by decide) (by decide) he hpl
theorem tr_min1 (hg : Γ.sc.names.lookup ("min" : Str) = some .globalImplicit) (hm : Γ.mg "min" = none) (ha : TrA Γ O L0 W (e :: es) ms) (he : ∀ env : Env, starEach (e :: es) env = (false, eval e env) :: starEach es env := by intro _; rfl) (hpl : ∀ env : Env, (backTo pos (starEach es env)).any (·.1) = false := by intro _; rfl) (hcm : Γ.calm = true := by rfl) : TrE Γ O L W (.Call (.Name "min" p) (e :: es) [] pos) (xFn dMin ms) :=
  tr_cbB (r := rMinA Γ.K) (fun X h => by rw [← h.K]; exact (cr_min (h.cm hcm)).or (call_min2 (h.cm hcm))) rc_min hg hm (by decide +kernel) ha (by decide) (by decide) he hpl
theorem tr_all (hg : Γ.sc.names.lookup ("all" : Str) = some .globalImplicit) (hm : Γ.mg "all" = none) (ha : TrA Γ O L0 W [e] ms) (he : ∀ env : Env, starEach [e] env = (false, eval e env) :: starEach [] env := by intro _; rfl) (hcm : Γ.calm = true := by rfl) : TrE Γ O L W (.Call (.Name "all" p) [e] [] pos) (xFn dAll ms) :=
  tr_cbB (r := rAll Γ.K) (fun X h => by rw [← h.K]; exact cr_all (h.cm hcm)) rc_all hg hm (by decide +kernel) ha (by decide) (by decide) he
theorem tr_any (hg : Γ.sc.names.lookup ("any" : Str) = some .globalImplicit) (hm : Γ.mg "any" = none) (ha : TrA Γ O L0 W [e] ms) (he : ∀ env : Env, starEach [e] env = (false, eval e env) :: starEach [] env := by intro _; rfl) (hcm : Γ.calm = true := by rfl) : TrE Γ O L W (.Call (.Name "any" p) [e] [] pos) (xFn dAny ms) :=
  tr_cbB (r := rAny Γ.K) (fun X h => by rw [← h.K]; exact cr_any (h.cm hcm)) rc_any hg hm (by decide +kernel) ha (by decide) (by decide) he
end

/-! ## sorted -/
def iSort (ns : List Int) : List Int := ns.mergeSort (fun a b => decide (a ≤ b))
theorem pw_eq : ∀ {a b : List Int}, a.Pairwise (· ≤ ·) → b.Pairwise (· ≤ ·) → a.Perm b → a = b
  | [], b, _, _, p => (List.nil_perm.mp p).symm
  | x :: a, [], _, _, p => by have := p.length_eq; simp at this
  | x :: a, y :: b, ha, hb, p => by
    have hx : x ∈ y :: b := p.mem_iff.mp List.mem_cons_self
    have hy : y ∈ x :: a := p.mem_iff.mpr List.mem_cons_self
    have e : x = y := by
      rcases List.mem_cons.mp hx with h | h
      · exact h
      · rcases List.mem_cons.mp hy with h' | h'
        · exact h'.symm
        · exact Int.le_antisymm ((List.pairwise_cons.mp ha).1 y h') ((List.pairwise_cons.mp hb).1 x h)
    subst e
    rw [pw_eq (List.pairwise_cons.mp ha).2 (List.pairwise_cons.mp hb).2 (List.perm_cons x |>.mp p)]
theorem iSort_pw (ns : List Int) : (iSort ns).Pairwise (· ≤ ·) := by
  have := List.pairwise_mergeSort (le := fun a b : Int => decide (a ≤ b)) (fun a b c h1 h2 => by simp at *; omega) (fun a b => by simp; omega) ns
  exact this.imp fun h => by simpa using h
theorem iSort_perm (ns : List Int) : (iSort ns).Perm ns := List.mergeSort_perm _ _
end Z


namespace Z
open PySem PySem.Spec PyProof.Rows L2

/-! ## sorted, of ints (any number), of texts (fewer than 64) -/
def sLe (a b : Str) : Bool := decide (a.cps.toList ≤ b.cps.toList)
def sSort (ss : List Str) : List Str := ss.mergeSort sLe
theorem sLe_tr (a b c : Str) (h1 : sLe a b = true) (h2 : sLe b c = true) : sLe a c = true := by
  unfold sLe at *
  simp only [decide_eq_true_eq] at *
  exact List.le_trans h1 h2
theorem sLe_tot (a b : Str) : (sLe a b || sLe b a) = true := by
  unfold sLe
  simp only [Bool.or_eq_true, decide_eq_true_eq]
  exact List.le_total _ _
theorem sLe_anti (a b : Str) (h1 : sLe a b = true) (h2 : sLe b a = true) : a = b := by
  unfold sLe at *
  simp only [decide_eq_true_eq] at *
  have := List.le_antisymm h1 h2
  cases a; cases b
  simp only [Array.toList_inj] at this
  rw [this]
theorem risingS_pw : ∀ (r : List Str) (p : Str), risingS p r = true → (p :: r).Pairwise (fun a b => sLe a b = true)
  | [], p, _ => by simp
  | x :: r, p, h => by
    unfold risingS at h
    rw [Bool.and_eq_true] at h
    have ih := risingS_pw r x h.2
    have hx : sLe p x = true := by
      have h1 := h.1
      rw [PyProof.Rows.ltCps_eq] at h1
      unfold sLe
      simpa [List.not_lt] using h1
    refine List.pairwise_cons.mpr ⟨fun y hy => ?_, ih⟩
    rcases List.mem_cons.mp hy with e | hy
    · rw [e]; exact hx
    · exact sLe_tr _ _ _ hx ((List.pairwise_cons.mp ih).1 y hy)
theorem sortedS_pw (ys : List Str) (h : sortedS ys = true) : ys.Pairwise (fun a b => sLe a b = true) := by
  cases ys with
  | nil => exact .nil
  | cons x r => exact risingS_pw r x h
theorem uniq_pw {α : Type} {le : α → α → Prop} (anti : ∀ a b, le a b → le b a → a = b) : ∀ {a b : List α}, a.Pairwise le → b.Pairwise le → a.Perm b → a = b
  | [], b, _, _, p => (List.nil_perm.mp p).symm
  | x :: a, [], _, _, p => by have := p.length_eq; simp at this
  | x :: a, y :: b, ha, hb, p => by
    have hx : x ∈ y :: b := p.mem_iff.mp List.mem_cons_self
    have hy : y ∈ x :: a := p.mem_iff.mpr List.mem_cons_self
    have e : x = y := by
      rcases List.mem_cons.mp hx with h | h
      · exact h
      · rcases List.mem_cons.mp hy with h' | h'
        · exact h'.symm
        · exact anti _ _ ((List.pairwise_cons.mp ha).1 y h') ((List.pairwise_cons.mp hb).1 x h)
    subst e
    rw [uniq_pw anti (List.pairwise_cons.mp ha).2 (List.pairwise_cons.mp hb).2 (List.perm_cons x |>.mp p)]
theorem sSort_is {ss ys : List Str} (h : sortedS ys = true) (p : ys.Perm ss) : ys = sSort ss := by
  refine uniq_pw sLe_anti (sortedS_pw ys h) ?_ (p.trans (List.mergeSort_perm _ _).symm)
  exact List.pairwise_mergeSort sLe_tr sLe_tot ss
def dSorted (xs : List D) : Option (List D) := match asInts xs with
  | some ns => some ((iSort ns).map PyData.int)
  | none => match asStrs xs with
    | some ss => if ss.length < 64 then some ((sSort ss).map PyData.str) else none
    | none => none
def rSortedA (K : PySem.W.Frag) : List V → Hp → VK → Prop := fun xs H Q => rSortedI K xs H Q ∨ rSortedS K xs H Q
def xfMap (f : List D → Option (List D)) (m : MF) : MF := fun s => (m s).bind fun p => (f p.1).map fun z => (z, p.2)
theorem xfMap_of {f : List D → Option (List D)} {m : MF} {s s' : MS} {ds : List D} (h : xfMap f m s = some (ds, s')) : ∃ es, m s = some (es, s') ∧ f es = some ds := by
  unfold xfMap at h
  cases e1 : m s with
  | none => rw [e1] at h; cases h
  | some p =>
    rw [e1] at h
    simp only [Option.bind_some] at h
    cases e2 : f p.1 with
    | none => rw [e2] at h; cases h
    | some z => rw [e2] at h; cases h; exact ⟨p.1, rfl, e2⟩
section
variable {Γ : G} {O L L0 W : List Nat} {a e : Expr} {es : List Expr} {ma ms : MF} {m : ME} {p pos : Pos}
theorem tf_sorted (hg : Γ.sc.names.lookup ("sorted" : Str) = some .globalImplicit) (hm : Γ.mg "sorted" = none) (ha : TrB Γ O L0 W a ma) (hW : ∀ j ∈ W, j ∈ O) (hst : ∀ env : Env, starEach [a] env = (false, eval a env) :: starEach [] env := by intro _; rfl) : TrF Γ O L W (.Call (.Name "sorted" p) [a] [] pos) (xfMap dSorted ma) := by
  obtain ⟨ta, pa, sa⟩ := ha
  refine ⟨_, fun X h => pe_callB (r := rSortedA Γ.K) (id := "sorted") (by rw [← h.K]; exact cr_sortedI.or cr_sortedS) (h.gl hg) (h.mgn hm) (by decide +kernel) (pa_cons (pa X h) pa_nil (hst X.env)) (he := hst X.env), fun c σ H s r ds s' e Q q => ?_⟩
  obtain ⟨es, e1, e2⟩ := xfMap_of e
  refine sa c σ H s r _ _ e1 _ fun p vs H1 r1 x1 rd1 d1 => ?_
  unfold dSorted at e2
  split at e2
  · rename_i ns e3
    cases e2
    cases asInts_of e3
    refine .inl ⟨p, ns, rfl, of_ints d1 ▸ sql_ex ex_hide0 rd1, fun ns' p' hp hs hn => ?_⟩
    have en : ns' = iSort ns := pw_eq hs (iSort_pw ns) (hp.trans (iSort_perm ns).symm)
    subst en
    exact simF_new (vs := (iSort ns).map V.int) r1 x1 (fresh_of r1 hW x1) (dpa_ints (iSort ns)) q p' hn
  · split at e2
    · rename_i ss e3
      split at e2
      · cases e2
        cases asStrs_of e3
        refine .inr ⟨p, ss, rfl, of_strs d1 ▸ sql_ex ex_hide0 rd1, ‹_›, fun ys p' hp hs hn => ?_⟩
        have en : ys = sSort ss := sSort_is hs hp
        subst en
        exact simF_new (vs := (sSort ss).map V.str) r1 x1 (fresh_of r1 hW x1) (dpa_strs (sSort ss)) q p' hn
      · cases e2
    · cases e2

/-! ## the module's constants, its dicts by texts -/
theorem tr_glob {x : Str} {u : Value} {v : V} {d : D} (hg : Γ.sc.names.lookup x = some .globalImplicit) (hm : Γ.mg x = some u) (r : RelV v u) (hd : ∀ M, Rp Γ.K M v d) (hdb : (x == ("__debug__" : Str)) = false := by decide) : TrE Γ O L W (.Name x pos) (xC d) :=
  ⟨tC v, fun X h => pe_glob (h.gl hg) (h.mgn hm) r hdb, fun c σ H s r d s' e Q q => by cases e; exact q v H r refl_hide (hd _)⟩
/-- a dict of the module, as a function of its texts -/
def KDm (K : PySem.W.Frag) (w : World) (a : Addr) (f : Str → Option D) : Prop := ∀ z d, f z = some d → ∃ v, KDct K w a z v ∧ ∀ M, Rp K M v d
def dKey (f : Str → Option D) : D → Option D
  | .str z => f z
  | _ => none
theorem tr_gdict {x : Str} {q : Addr} {f : Str → Option D} {px : Pos} (hg : Γ.sc.names.lookup x = some .globalImplicit) (hm : Γ.mg x = some (.ref q)) (hd : KDm Γ.K Γ.w q f) (he : TrE Γ O L0 W e m) (hs : PlainIx e := by exact fun _ _ => rfl) (hdb : (x == ("__debug__" : Str)) = false := by decide) :
    TrE Γ O L W (.Subscript (.Name x px) e pos) (xUn (dKey f) m) := by
  obtain ⟨t, pe, se⟩ := he
  refine ⟨tOp (rIxD Γ.K Γ.w) (tC (.ref q)) t, fun X h => by rw [← h.K, ← h.w]; exact pe_ix ix_kdict (pe_glob (h.gl hg) (h.mgn hm) rfl hdb) (pe X h) hs, fun c σ H s r d s' e Q k => ?_⟩
  obtain ⟨x, e1, e2⟩ := xUn_of e
  show t σ H _
  refine se c σ H s r _ _ e1 _ fun v H1 r1 x1 d1 => ?_
  cases x <;> first | (cases e2; done) | skip
  cases d1
  obtain ⟨v', h1, h2⟩ := hd _ _ e2
  exact ⟨q, _, v', rfl, rfl, h1, k v' H1 r1 x1 (h2 _)⟩
end

/-! ## methods of texts and lists that give scalars, or new lists of texts -/
def xMt (f : D → List D → Option D) (o : ME) (as : MF) : ME := fun s => (o s).bind fun p => (as p.2).bind fun q => (f p.1 q.1).map fun z => (z, q.2)
theorem xMt_of {f : D → List D → Option D} {o : ME} {as : MF} {s s' : MS} {d : D} (h : xMt f o as s = some (d, s')) : ∃ x s1 ds, o s = some (x, s1) ∧ as s1 = some (ds, s') ∧ f x ds = some d := by
  unfold xMt at h
  cases e1 : o s with
  | none => rw [e1] at h; cases h
  | some p =>
    rw [e1] at h
    simp only [Option.bind_some] at h
    cases e2 : as p.2 with
    | none => rw [e2] at h; cases h
    | some q =>
      rw [e2] at h
      simp only [Option.bind_some] at h
      cases e3 : f p.1 q.1 with
      | none => rw [e3] at h; cases h
      | some z => rw [e3] at h; cases h; exact ⟨p.1, p.2, q.1, rfl, e2, e3⟩
def xfMt (f : D → List D → Option (List D)) (o : ME) (as : MF) : MF := fun s => (o s).bind fun p => (as p.2).bind fun q => (f p.1 q.1).map fun z => (z, q.2)
theorem xfMt_of {f : D → List D → Option (List D)} {o : ME} {as : MF} {s s' : MS} {d : List D} (h : xfMt f o as s = some (d, s')) : ∃ x s1 ds, o s = some (x, s1) ∧ as s1 = some (ds, s') ∧ f x ds = some d := by
  unfold xfMt at h
  cases e1 : o s with
  | none => rw [e1] at h; cases h
  | some p =>
    rw [e1] at h
    simp only [Option.bind_some] at h
    cases e2 : as p.2 with
    | none => rw [e2] at h; cases h
    | some q =>
      rw [e2] at h
      simp only [Option.bind_some] at h
      cases e3 : f p.1 q.1 with
      | none => rw [e3] at h; cases h
      | some z => rw [e3] at h; cases h; exact ⟨p.1, p.2, q.1, rfl, e2, e3⟩
def RMS (K : PySem.W.Frag) (T : String) (r : V → List V → Hp → VK → Prop) (f : D → List D → Option D) : Prop := ∀ (x : V) (dx : D) (ds : List D) (dz : D), f dx ds = some dz → (∀ H, Rp K H x dx → tyV K T x H) ∧
  ∀ (H : Hp) (vs : List V), Rp K H x dx → RpAll K H vs ds → ∀ Q : VK, (∀ v, (∀ M, Rp K M v dz) → Q v H) → r x vs H Q
section
variable {Γ : G} {O L L0 W : List Nat} {o e : Expr} {es : List Expr} {ms : MF} {mo : ME} {r : V → List V → Hp → VK → Prop} {f : D → List D → Option D} {name : Str} {apos cpos : Pos} {T id : String}
theorem tr_bm (hr : RMS Γ.K T r f) (pa : PlainAttrs T) (slot : Slot T name id) (hty : typeOf (.builtin id) = pure (.type "method_descriptor")) (hmt : ∀ X, InG Γ X → MtR X id r) (ho : TrE Γ O L0 W o mo) (ha : TrA Γ O L0 W (e :: es) ms) (hW : ∀ j ∈ W, j ∈ L0)
    (hbase : ∀ env : Env, attributeBase o name env (eval o env) = eval o env := by intro _; rfl)
    (hfew : ∀ env : Env, ((backTo cpos (starEach (e :: es) env)).all (fun x => !x.1) && (backToKw cpos (keywordEach [] env)).all (fun x => x.1.isSome)
      && decide ((e :: es).length + ([] : List Keyword).length + (if ([] : List Keyword).isEmpty then 0 else 1) < 30)) = true := by intro _; rfl)
    (hline : (apos.endLine == cpos.line) = true := by rfl) (hs : ∀ env : Env, starEach (e :: es) env = (false, eval e env) :: starEach es env := by intro _; rfl) (hplain : ∀ env : Env, (backTo cpos (starEach es env)).any (·.1) = false := by intro _; rfl) :
    TrE Γ O L W (.Call (.Attribute o name apos) (e :: es) [] cpos) (xMt f mo ms) := by
  obtain ⟨to, po, so⟩ := ho
  obtain ⟨ta, pa', sa⟩ := ha
  refine ⟨tBM Γ.K T r to ta, fun X h => by rw [← h.K]; exact pe_bm pa slot hty (hmt X h) (po X h) (pa' X h) (hbase X.env) (hfew X.env) hline (hs X.env) (hplain X.env), fun c σ H s r0 d s' e Q q => ?_⟩
  obtain ⟨x, s1, ds, e1, e2, e3⟩ := xMt_of e
  refine so c σ H s r0 _ _ e1 _ fun v H1 r1 x1 d1 => ?_
  obtain ⟨g1, g2⟩ := hr v x ds d e3
  refine ⟨g1 H1 (dp_ex ex_hide0 d1), sa c σ H1 s1 r1 _ _ e2 _ fun vs H2 r2 x2 d2 => ?_⟩
  exact g2 H2 vs (dp_ex ex_hide0 (dp_ex (keep hW x2) d1)) (dpa_ex ex_hide0 d2) Q fun z hz => q z H2 r2 (x1.trans x2) (hz _)
theorem tr_bm0 (hr : RMS Γ.K T r f) (pa : PlainAttrs T) (slot : Slot T name id) (hty : typeOf (.builtin id) = pure (.type "method_descriptor")) (hmt : ∀ X, InG Γ X → MtR X id r) (ho : TrE Γ O L0 W o mo)
    (hbase : ∀ env : Env, attributeBase o name env (eval o env) = eval o env := by intro _; rfl) (hline : (apos.endLine == cpos.line) = true := by rfl) : TrE Γ O L W (.Call (.Attribute o name apos) [] [] cpos) (xMt f mo xaNil) := by
  obtain ⟨to, po, so⟩ := ho
  refine ⟨tBM0 Γ.K T r to, fun X h => by rw [← h.K]; exact pe_bm0 pa slot hty (hmt X h) (po X h) (hbase X.env) hline, fun c σ H s r0 d s' e Q q => ?_⟩
  obtain ⟨x, s1, ds, e1, e2, e3⟩ := xMt_of e
  cases e2
  refine so c σ H s r0 _ _ e1 _ fun v H1 r1 x1 d1 => ?_
  obtain ⟨g1, g2⟩ := hr v x [] d e3
  exact ⟨g1 H1 (dp_ex ex_hide0 d1), g2 H1 [] (dp_ex ex_hide0 d1) .nil Q fun z hz => q z H1 r1 x1 (hz _)⟩
/-- s.split(sep), s.split(): a new list of texts -/
theorem tf_m1 {g : D → List D → Option (List Str)} (hr : ∀ (x : V) (dx : D) (ds : List D) (ys : List Str), g dx ds = some ys → (∀ H, Rp Γ.K H x dx → tyV Γ.K T x H) ∧ ∀ (H : Hp) (vs : List V), Rp Γ.K H x dx → RpAll Γ.K H vs ds → ∀ Q : VK, rNewStrs ys H Q → r x vs H Q)
    (pa : PlainAttrs T) (slot : Slot T name id) (hty : typeOf (.builtin id) = pure (.type "method_descriptor")) (hmt : ∀ X, InG Γ X → MtR X id r) (ho : TrE Γ O L0 W o mo) (ha : TrA Γ O L0 W (e :: es) ms) (hW : ∀ j ∈ W, j ∈ L0) (hO : ∀ j ∈ W, j ∈ O)
    (hbase : ∀ env : Env, attributeBase o name env (eval o env) = eval o env := by intro _; rfl)
    (hfew : ∀ env : Env, ((backTo cpos (starEach (e :: es) env)).all (fun x => !x.1) && (backToKw cpos (keywordEach [] env)).all (fun x => x.1.isSome)
      && decide ((e :: es).length + ([] : List Keyword).length + (if ([] : List Keyword).isEmpty then 0 else 1) < 30)) = true := by intro _; rfl)
    (hline : (apos.endLine == cpos.line) = true := by rfl) (hs : ∀ env : Env, starEach (e :: es) env = (false, eval e env) :: starEach es env := by intro _; rfl) (hplain : ∀ env : Env, (backTo cpos (starEach es env)).any (·.1) = false := by intro _; rfl) :
    TrF Γ O L W (.Call (.Attribute o name apos) (e :: es) [] cpos) (xfMt (fun d ds => (g d ds).map (·.map PyData.str)) mo ms) := by
  obtain ⟨to, po, so⟩ := ho
  obtain ⟨ta, pa', sa⟩ := ha
  refine ⟨tBM Γ.K T r to ta, fun X h => by rw [← h.K]; exact pe_bm pa slot hty (hmt X h) (po X h) (pa' X h) (hbase X.env) (hfew X.env) hline (hs X.env) (hplain X.env), fun c σ H s r0 d s' e Q q => ?_⟩
  obtain ⟨x, s1, ds, e1, e2, e3⟩ := xfMt_of e
  cases e4 : g x ds with
  | none => rw [e4] at e3; cases e3
  | some ys =>
    rw [e4] at e3
    cases e3
    refine so c σ H s r0 _ _ e1 _ fun v H1 r1 x1 d1 => ?_
    obtain ⟨g1, g2⟩ := hr v x ds ys e4
    refine ⟨g1 H1 (dp_ex ex_hide0 d1), sa c σ H1 s1 r1 _ _ e2 _ fun vs H2 r2 x2 d2 => ?_⟩
    exact g2 H2 vs (dp_ex ex_hide0 (dp_ex (keep hW x2) d1)) (dpa_ex ex_hide0 d2) Q (simF_new (vs := ys.map V.str) r2 (x1.trans x2) (fresh_of r2 hO (x1.trans x2)) (dpa_strs ys) q)
theorem tf_m0 {g : D → List D → Option (List Str)} (hr : ∀ (x : V) (dx : D) (ds : List D) (ys : List Str), g dx ds = some ys → (∀ H, Rp Γ.K H x dx → tyV Γ.K T x H) ∧ ∀ (H : Hp) (vs : List V), Rp Γ.K H x dx → RpAll Γ.K H vs ds → ∀ Q : VK, rNewStrs ys H Q → r x vs H Q)
    (pa : PlainAttrs T) (slot : Slot T name id) (hty : typeOf (.builtin id) = pure (.type "method_descriptor")) (hmt : ∀ X, InG Γ X → MtR X id r) (ho : TrE Γ O L0 W o mo) (hO : ∀ j ∈ W, j ∈ O)
    (hbase : ∀ env : Env, attributeBase o name env (eval o env) = eval o env := by intro _; rfl) (hline : (apos.endLine == cpos.line) = true := by rfl) :
    TrF Γ O L W (.Call (.Attribute o name apos) [] [] cpos) (xfMt (fun d ds => (g d ds).map (·.map PyData.str)) mo xaNil) := by
  obtain ⟨to, po, so⟩ := ho
  refine ⟨tBM0 Γ.K T r to, fun X h => by rw [← h.K]; exact pe_bm0 pa slot hty (hmt X h) (po X h) (hbase X.env) hline, fun c σ H s r0 d s' e Q q => ?_⟩
  obtain ⟨x, s1, ds, e1, e2, e3⟩ := xfMt_of e
  cases e2
  cases e4 : g x [] with
  | none => rw [e4] at e3; cases e3
  | some ys =>
    rw [e4] at e3
    cases e3
    refine so c σ H s r0 _ _ e1 _ fun v H1 r1 x1 d1 => ?_
    obtain ⟨g1, g2⟩ := hr v x [] ys e4
    exact ⟨g1 H1 (dp_ex ex_hide0 d1), g2 H1 [] (dp_ex ex_hide0 d1) .nil Q (simF_new (vs := ys.map V.str) r1 x1 (fresh_of r1 hO x1) (dpa_strs ys) q)⟩
end
def dJoin : D → List D → Option D
  | .str a, [.list xs] => (asStrs xs).bind fun ys => if (ys.map (·.length)).sum + ys.length * a.length ≤ 16777216 then some (.str (Txt.join a ys)) else none
  | _, _ => none
def dSplit : D → List D → Option (List Str)
  | .str a, [.str b] => if (b.length == 0) = false ∧ a.length + 2 ≤ sizeLine then some (Txt.split a b) else none
  | _, _ => none
def dWords : D → List D → Option (List Str)
  | .str a, [] => if a.length + 2 ≤ sizeLine then some (Txt.words a) else none
  | _, _ => none
def dUpper : D → List D → Option D
  | .str a, [] => if a.length ≤ 5592405 then some (.str (Txt.upper a)) else none
  | _, _ => none
def dLower : D → List D → Option D
  | .str a, [] => if a.length ≤ 5592405 then some (.str (Txt.lower a)) else none
  | _, _ => none
def rJoinA (K : PySem.W.Frag) : V → List V → Hp → VK → Prop := fun x xs H Q => ∃ a p, ∃ ys : List Str, x = .str a ∧ xs = [.ref p] ∧ (SqL K H p (ys.map V.str) ∨ SqT K H p (ys.map V.str)) ∧ (ys.map (·.length)).sum + ys.length * a.length ≤ 16777216 ∧ Q (.str (Txt.join a ys)) H
section
variable {K : PySem.W.Frag}
theorem rm_join : RMS K "str" (rJoinA K) dJoin := fun x dx ds dz e => by
  unfold dJoin at e
  split at e
  · rename_i a xs
    cases e2 : asStrs xs with
    | none => rw [e2] at e; cases e
    | some ys =>
      rw [e2] at e
      simp only [Option.bind_some] at e
      split at e
      · cases e
        cases asStrs_of e2
        refine ⟨fun H h => by cases h; rfl, fun H vs h hs Q q => ?_⟩
        cases h
        cases hs with
        | cons h2 a2 =>
          cases a2
          cases h2 with
          | lst h3 a3 => exact ⟨a, _, ys, rfl, rfl, .inl (of_strs a3 ▸ h3), ‹_›, q _ fun M => .str _⟩
      · cases e
  · cases e
theorem rm_upper : RMS K "str" (fun x xs H Q => ∃ a, x = .str a ∧ xs = [] ∧ a.length ≤ 5592405 ∧ Q (.str (Txt.upper a)) H) dUpper := fun x dx ds dz e => by
  unfold dUpper at e
  split at e
  · split at e
    · cases e
      refine ⟨fun H h => by cases h; rfl, fun H vs h hs Q q => ?_⟩
      cases h; cases hs
      exact ⟨_, rfl, rfl, ‹_›, q _ fun M => .str _⟩
    · cases e
  · cases e
theorem rm_lower : RMS K "str" (fun x xs H Q => ∃ a, x = .str a ∧ xs = [] ∧ a.length ≤ 5592405 ∧ Q (.str (Txt.lower a)) H) dLower := fun x dx ds dz e => by
  unfold dLower at e
  split at e
  · split at e
    · cases e
      refine ⟨fun H h => by cases h; rfl, fun H vs h hs Q q => ?_⟩
      cases h; cases hs
      exact ⟨_, rfl, rfl, ‹_›, q _ fun M => .str _⟩
    · cases e
  · cases e
theorem rm_split (x : V) (dx : D) (ds : List D) (ys : List Str) (e : dSplit dx ds = some ys) : (∀ H, Rp K H x dx → tyV K "str" x H) ∧ ∀ (H : Hp) (vs : List V), Rp K H x dx → RpAll K H vs ds → ∀ Q : VK, rNewStrs ys H Q →
    (fun (x : V) (xs : List V) (H : Hp) (Q : VK) => ∃ a b, x = .str a ∧ xs = [.str b] ∧ (b.length == 0) = false ∧ a.length + 2 ≤ sizeLine ∧ rNewStrs (Txt.split a b) H Q) x vs H Q := by
  unfold dSplit at e
  split at e
  · split at e
    · rename_i h0
      cases e
      refine ⟨fun H h => by cases h; rfl, fun H vs h hs Q q => ?_⟩
      cases h
      cases hs with
      | cons h2 a2 =>
        cases a2; cases h2
        exact ⟨_, _, rfl, rfl, h0.1, h0.2, q⟩
    · cases e
  · cases e
theorem rm_words (x : V) (dx : D) (ds : List D) (ys : List Str) (e : dWords dx ds = some ys) : (∀ H, Rp K H x dx → tyV K "str" x H) ∧ ∀ (H : Hp) (vs : List V), Rp K H x dx → RpAll K H vs ds → ∀ Q : VK, rNewStrs ys H Q →
    (fun (x : V) (xs : List V) (H : Hp) (Q : VK) => ∃ a, x = .str a ∧ xs = [] ∧ a.length + 2 ≤ sizeLine ∧ rNewStrs (Txt.words a) H Q) x vs H Q := by
  unfold dWords at e
  split at e
  · split at e
    · cases e
      refine ⟨fun H h => by cases h; rfl, fun H vs h hs Q q => ?_⟩
      cases h; cases hs
      exact ⟨_, rfl, rfl, ‹_›, q⟩
    · cases e
  · cases e
/-- the first place of a flat item -/
def dIndex : D → List D → Option D
  | .list ys, [y] => if flatD y = true ∧ ys.all flatD = true then (ys.findIdx? fun z => PyData.eqv z y).map fun j => .int j else none
  | _, _ => none
theorem rm_index : RMS K "list" (rIndex K) dIndex := fun x dx ds dz e => by
  unfold dIndex at e
  split at e
  · rename_i ys y
    split at e
    · rename_i h0
      cases e2 : ys.findIdx? (fun z => PyData.eqv z y) with
      | none => rw [e2] at e; cases e
      | some j =>
        rw [e2] at e
        cases e
        refine ⟨fun H h => by cases h with | lst h a => exact .inl ⟨rfl, _, h⟩, fun H vs h hs Q q => ?_⟩
        cases hs with
        | cons h2 a2 =>
          cases a2
          cases h with
          | lst h3 a3 =>
            rename_i a vs'
            obtain ⟨hj, hb, hm⟩ := List.findIdx?_eq_some_iff_getElem.mp e2
            obtain ⟨z, hz1, hz2⟩ := dpa_get (i := j) a3 (List.getElem?_eq_getElem hj)
            have fl : ∀ k (hk : k < ys.length), flatD ys[k] = true := fun k hk => List.all_eq_true.mp h0.2 _ (List.getElem_mem hk)
            refine ⟨a, vs', _, j, z, rfl, rfl, h3, flat_dp h2 h0.1, flat_all a3 h0.2, hz1, ?_, fun m z' hmj hz' => ?_, q _ fun M => .int _⟩
            · rw [eqv_dp hz2 h2 (fl j hj) h0.1]; exact hb
            · have hmk : m < ys.length := Nat.lt_trans hmj hj
              obtain ⟨z2, g1, g2⟩ := dpa_get (i := m) a3 (List.getElem?_eq_getElem hmk)
              rw [g1] at hz'
              cases hz'
              rw [eqv_dp g2 h2 (fl m hmk) h0.1]
              simpa using hm m hmj
    · cases e
  · cases e
end
section
variable {Γ : G} {O L L0 W : List Nat} {o e : Expr} {ms : MF} {mo : ME} {apos cpos : Pos}
theorem tr_join (ho : TrE Γ O L0 W o mo) (ha : TrA Γ O L0 W [e] ms) (hW : ∀ j ∈ W, j ∈ L0) (hbase : ∀ env : Env, attributeBase o "join" env (eval o env) = eval o env := by intro _; rfl) (hs : ∀ env : Env, starEach [e] env = (false, eval e env) :: starEach [] env := by intro _; rfl) (hline : (apos.endLine == cpos.line) = true := by rfl)
    (hfew : ∀ env : Env, ((backTo cpos (starEach [e] env)).all (fun x => !x.1) && (backToKw cpos (keywordEach [] env)).all (fun x => x.1.isSome)
      && decide (([e] : List Expr).length + ([] : List Keyword).length + (if ([] : List Keyword).isEmpty then 0 else 1) < 30)) = true := by intro _; rfl) : TrE Γ O L W (.Call (.Attribute o "join" apos) [e] [] cpos) (xMt dJoin mo ms) :=
  tr_bm (r := rJoinA Γ.K) rm_join PySem.F.plainAttrs_str PySem.F.slot_str_join PySem.F.type_str_join (fun X h => by rw [← h.K]; exact mt_join) ho ha hW hbase hfew hline hs
theorem tr_upper (ho : TrE Γ O L0 W o mo) (hbase : ∀ env : Env, attributeBase o "upper" env (eval o env) = eval o env := by intro _; rfl) (hline : (apos.endLine == cpos.line) = true := by rfl) : TrE Γ O L W (.Call (.Attribute o "upper" apos) [] [] cpos) (xMt dUpper mo xaNil) :=
  tr_bm0 rm_upper PySem.F.plainAttrs_str PySem.F.slot_str_upper PySem.F.type_str_upper (fun X h => mt_upper) ho hbase hline
theorem tr_lower (ho : TrE Γ O L0 W o mo) (hbase : ∀ env : Env, attributeBase o "lower" env (eval o env) = eval o env := by intro _; rfl) (hline : (apos.endLine == cpos.line) = true := by rfl) : TrE Γ O L W (.Call (.Attribute o "lower" apos) [] [] cpos) (xMt dLower mo xaNil) :=
  tr_bm0 rm_lower PySem.F.plainAttrs_str PySem.F.slot_str_lower PySem.F.type_str_lower (fun X h => mt_lower) ho hbase hline
theorem tf_split (ho : TrE Γ O L0 W o mo) (ha : TrA Γ O L0 W [e] ms) (hW : ∀ j ∈ W, j ∈ L0) (hO : ∀ j ∈ W, j ∈ O) (hbase : ∀ env : Env, attributeBase o "split" env (eval o env) = eval o env := by intro _; rfl) (hs : ∀ env : Env, starEach [e] env = (false, eval e env) :: starEach [] env := by intro _; rfl) (hline : (apos.endLine == cpos.line) = true := by rfl)
    (hfew : ∀ env : Env, ((backTo cpos (starEach [e] env)).all (fun x => !x.1) && (backToKw cpos (keywordEach [] env)).all (fun x => x.1.isSome)
      && decide (([e] : List Expr).length + ([] : List Keyword).length + (if ([] : List Keyword).isEmpty then 0 else 1) < 30)) = true := by intro _; rfl) : TrF Γ O L W (.Call (.Attribute o "split" apos) [e] [] cpos) (xfMt (fun d ds => (dSplit d ds).map (·.map PyData.str)) mo ms) :=
  tf_m1 rm_split PySem.F.plainAttrs_str PySem.F.slot_str_split PySem.F.type_str_split (fun X h => mt_split) ho ha hW hO hbase hfew hline hs
theorem tf_words (ho : TrE Γ O L0 W o mo) (hO : ∀ j ∈ W, j ∈ O) (hbase : ∀ env : Env, attributeBase o "split" env (eval o env) = eval o env := by intro _; rfl) (hline : (apos.endLine == cpos.line) = true := by rfl) : TrF Γ O L W (.Call (.Attribute o "split" apos) [] [] cpos) (xfMt (fun d ds => (dWords d ds).map (·.map PyData.str)) mo xaNil) :=
  tf_m0 rm_words PySem.F.plainAttrs_str PySem.F.slot_str_split PySem.F.type_str_split (fun X h => mt_words) ho hO hbase hline
theorem tr_index (ho : TrE Γ O L0 W o mo) (ha : TrA Γ O L0 W [e] ms) (hW : ∀ j ∈ W, j ∈ L0) (hbase : ∀ env : Env, attributeBase o "index" env (eval o env) = eval o env := by intro _; rfl) (hs : ∀ env : Env, starEach [e] env = (false, eval e env) :: starEach [] env := by intro _; rfl) (hline : (apos.endLine == cpos.line) = true := by rfl)
    (hfew : ∀ env : Env, ((backTo cpos (starEach [e] env)).all (fun x => !x.1) && (backToKw cpos (keywordEach [] env)).all (fun x => x.1.isSome)
      && decide (([e] : List Expr).length + ([] : List Keyword).length + (if ([] : List Keyword).isEmpty then 0 else 1) < 30)) = true := by intro _; rfl) : TrE Γ O L W (.Call (.Attribute o "index" apos) [e] [] cpos) (xMt dIndex mo ms) :=
  tr_bm (r := rIndex Γ.K) rm_index PySem.F.plainAttrs_list PySem.F.slot_list_index PySem.F.type_list_index (fun X h => by rw [← h.K]; exact mt_index) ho ha hW hbase hfew hline hs
end
end Z


namespace Z
open PySem PySem.Spec PyProof.Rows L2

/-! ## tests -/
section
variable {Γ : G} {O L L0 W : List Nat} {a b e : Expr} {es : List Expr} {ma mb m : ME} {ta tb : MT} {pos : Pos}
theorem tt_W (h : TrW Γ O W e ta) : TrT Γ O W e ta := by
  obtain ⟨t, p, q⟩ := h
  exact ⟨t, fun X h => (p X h).pt, q⟩
theorem tw_and1 (h : TrT Γ O W a ta) : TrW Γ O W (.BoolOp .And [a] pos) ta := by
  obtain ⟨t, p, q⟩ := h
  exact ⟨t, fun X h => pw_and1 (p X h), q⟩
theorem tw_or1 (h : TrT Γ O W a ta) : TrW Γ O W (.BoolOp .Or [a] pos) ta := by
  obtain ⟨t, p, q⟩ := h
  exact ⟨t, fun X h => pw_or1 (p X h), q⟩
theorem tw_and (ha : TrT Γ O W a ta) (hb : TrW Γ O W (.BoolOp .And (b :: es) pos) tb) : TrW Γ O W (.BoolOp .And (a :: b :: es) pos) (xAnd ta tb) := by
  obtain ⟨t, p, q⟩ := ha
  obtain ⟨u, p2, q2⟩ := hb
  refine ⟨tAnd t u, fun X h => pw_and (p X h) (p2 X h), fun c σ H s r k s' e Q w => ?_⟩
  unfold xAnd at e
  cases e1 : ta s with
  | none => rw [e1] at e; cases e
  | some pr =>
    obtain ⟨k1, s1⟩ := pr
    rw [e1] at e
    simp only [Option.bind_some] at e
    refine q c σ H s r _ _ e1 _ fun H1 r1 x1 => ?_
    cases k1 with
    | true =>
      rw [if_pos rfl] at e ⊢
      exact q2 c σ H1 s1 r1 _ _ e Q fun H2 r2 x2 => w H2 r2 (x1.trans x2)
    | false =>
      rw [if_neg Bool.false_ne_true] at e ⊢
      cases e
      exact w H1 r1 x1
theorem tw_or (ha : TrT Γ O W a ta) (hb : TrW Γ O W (.BoolOp .Or (b :: es) pos) tb) : TrW Γ O W (.BoolOp .Or (a :: b :: es) pos) (xOr ta tb) := by
  obtain ⟨t, p, q⟩ := ha
  obtain ⟨u, p2, q2⟩ := hb
  refine ⟨tOr t u, fun X h => pw_or (p X h) (p2 X h), fun c σ H s r k s' e Q w => ?_⟩
  unfold xOr at e
  cases e1 : ta s with
  | none => rw [e1] at e; cases e
  | some pr =>
    obtain ⟨k1, s1⟩ := pr
    rw [e1] at e
    simp only [Option.bind_some] at e
    refine q c σ H s r _ _ e1 _ fun H1 r1 x1 => ?_
    cases k1 with
    | true =>
      rw [if_pos rfl] at e ⊢
      cases e
      exact w H1 r1 x1
    | false =>
      rw [if_neg Bool.false_ne_true] at e ⊢
      exact q2 c σ H1 s1 r1 _ _ e Q fun H2 r2 x2 => w H2 r2 (x1.trans x2)
theorem tt_not (ha : TrT Γ O W a ta) : TrT Γ O W (.UnaryOp .Not a pos) (xNot ta) := by
  obtain ⟨t, p, q⟩ := ha
  refine ⟨tNot t, fun X h => pt_not (p X h), fun c σ H s r k s' e Q w => ?_⟩
  unfold xNot at e
  cases e1 : ta s with
  | none => rw [e1] at e; cases e
  | some pr =>
    rw [e1] at e
    cases e
    exact q c σ H s r _ _ e1 _ fun H1 r1 x1 => w H1 r1 x1
/-- truth of a value -/
def dTru : D → Option Bool
  | .none => some false
  | .bool b => some b
  | .int i => some (i != 0)
  | .str y => if y.length ≤ sizeLine then some ((y.length : Int) != 0) else none
  | .list xs => some (!xs.isEmpty)
  | .tuple xs => some (!xs.isEmpty)
  | _ => none
def xTru (m : ME) : MT := fun s => (m s).bind fun p => (dTru p.1).map fun b => (b, p.2)
theorem isEmpty_dp {K : PySem.W.Frag} {H : Hp} {vs : List V} {ds : List D} (h : RpAll K H vs ds) : ds.isEmpty = vs.isEmpty := by cases h <;> rfl
theorem tt_tru (h : TrE Γ O L W e m) (he : ∀ (env : Env) whole, isTrue e env whole = (do let v ← whole; standAt e.pos; holding [v] (truthy v)) := by intro _ _; rfl) : TrT Γ O W e (xTru m) := by
  obtain ⟨t, p, q⟩ := h
  refine ⟨fun σ H Q => t σ H fun x H' => ∃ k, TruV Γ.K x H' k ∧ Q k H', fun X h => by rw [← h.K]; exact pt_truth (p X h) (he X.env), fun c σ H s r k s' e Q w => ?_⟩
  unfold xTru at e
  cases e1 : m s with
  | none => rw [e1] at e; cases e
  | some pr =>
    obtain ⟨d, s1⟩ := pr
    rw [e1] at e
    simp only [Option.bind_some] at e
    cases e2 : dTru d with
    | none => rw [e2] at e; cases e
    | some b =>
      rw [e2] at e
      cases e
      refine q c σ H s r _ _ e1 _ fun v H1 r1 x1 d1 => ⟨k, ?_, w H1 r1 x1⟩
      cases d1 <;> first | (cases e2; rfl) | skip
      · simp only [dTru] at e2
        split at e2
        · cases e2; exact ⟨‹_›, rfl⟩
        · cases e2
      · cases e2
        exact .inl ⟨_, sql_ex ex_hide0 ‹_›, by rw [isEmpty_dp ‹_›]⟩
      · cases e2
        exact .inr (.inl ⟨_, sqt_ex ex_hide0 ‹_›, by rw [isEmpty_dp ‹_›]⟩)
/-- and, or of truth values, as values -/
def xAndV (a : MT) (b : ME) : ME := fun s => (a s).bind fun p => if p.1 = true then b p.2 else some (.bool false, p.2)
def xOrV (a : MT) (b : ME) : ME := fun s => (a s).bind fun p => if p.1 = true then some (.bool true, p.2) else b p.2
theorem tr_one {op} (h : TrE Γ O L W a ma) : TrE Γ O L W (.BoolOp op [a] pos) ma := by
  obtain ⟨t, p, q⟩ := h
  exact ⟨t, fun X h => pe_one (p X h), q⟩
theorem tr_and (ha : TrE Γ O L0 W a ma) (hb : TrE Γ O L W (.BoolOp .And (b :: es) pos) mb) : TrE Γ O L W (.BoolOp .And (a :: b :: es) pos) (xAndV (xT ma) mb) := by
  obtain ⟨t, p, q⟩ := ha
  obtain ⟨u, p2, q2⟩ := hb
  refine ⟨tAndV t u, fun X h => pe_and (p X h) (p2 X h), fun c σ H s r d s' e Q w => ?_⟩
  unfold xAndV at e
  cases e1 : xT ma s with
  | none => rw [e1] at e; cases e
  | some pr =>
    obtain ⟨k1, s1⟩ := pr
    rw [e1] at e
    simp only [Option.bind_some] at e
    refine q c σ H s r _ _ (xT_of e1) _ fun v H1 r1 x1 d1 => ?_
    cases d1
    refine ⟨k1, rfl, ?_⟩
    cases k1 with
    | true =>
      rw [if_pos rfl] at e ⊢
      exact q2 c σ H1 s1 r1 _ _ e Q fun v H2 r2 x2 d2 => w v H2 r2 (x1.trans x2) d2
    | false =>
      rw [if_neg Bool.false_ne_true] at e ⊢
      cases e
      exact w _ H1 r1 x1 (.bl false)
theorem tr_or (ha : TrE Γ O L0 W a ma) (hb : TrE Γ O L W (.BoolOp .Or (b :: es) pos) mb) : TrE Γ O L W (.BoolOp .Or (a :: b :: es) pos) (xOrV (xT ma) mb) := by
  obtain ⟨t, p, q⟩ := ha
  obtain ⟨u, p2, q2⟩ := hb
  refine ⟨tOrV t u, fun X h => pe_or (p X h) (p2 X h), fun c σ H s r d s' e Q w => ?_⟩
  unfold xOrV at e
  cases e1 : xT ma s with
  | none => rw [e1] at e; cases e
  | some pr =>
    obtain ⟨k1, s1⟩ := pr
    rw [e1] at e
    simp only [Option.bind_some] at e
    refine q c σ H s r _ _ (xT_of e1) _ fun v H1 r1 x1 d1 => ?_
    cases d1
    refine ⟨k1, rfl, ?_⟩
    cases k1 with
    | true =>
      rw [if_pos rfl] at e ⊢
      cases e
      exact w _ H1 r1 x1 (.bl true)
    | false =>
      rw [if_neg Bool.false_ne_true] at e ⊢
      exact q2 c σ H1 s1 r1 _ _ e Q fun v H2 r2 x2 d2 => w v H2 r2 (x1.trans x2) d2
theorem tr_not (ha : TrE Γ O L0 W a ma) : TrE Γ O L W (.UnaryOp .Not a pos) (xB (xNot (xT ma))) := by
  obtain ⟨t, p, q⟩ := ha
  refine ⟨tNotV t, fun X h => pe_not (p X h), fun c σ H s r d s' e Q w => ?_⟩
  unfold xB xNot at e
  cases e1 : xT ma s with
  | none => rw [e1] at e; cases e
  | some pr =>
    rw [e1] at e
    cases e
    refine q c σ H s r _ _ (xT_of e1) _ fun v H1 r1 x1 d1 => ?_
    cases d1
    exact ⟨_, rfl, w _ H1 r1 x1 (.bl _)⟩
theorem tr_ifExp {c : Expr} {tc : MT} (hc : TrT Γ O W c tc) (ha : TrE Γ O L W a ma) (hb : TrE Γ O L W b mb) : TrE Γ O L W (.IfExp c a b pos) (xIf tc ma mb) := by
  obtain ⟨t, p, q⟩ := hc
  obtain ⟨u, p2, q2⟩ := ha
  obtain ⟨v, p3, q3⟩ := hb
  refine ⟨tIf t u v, fun X h => pe_ifExp (p X h) (p2 X h) (p3 X h), fun c σ H s r d s' e Q w => ?_⟩
  unfold xIf at e
  cases e1 : tc s with
  | none => rw [e1] at e; cases e
  | some pr =>
    obtain ⟨k1, s1⟩ := pr
    rw [e1] at e
    simp only [Option.bind_some] at e
    refine q c σ H s r _ _ e1 _ fun H1 r1 x1 => ?_
    cases k1 with
    | true =>
      rw [if_pos rfl] at e ⊢
      exact q2 c σ H1 s1 r1 _ _ e Q fun v H2 r2 x2 d2 => w v H2 r2 (x1.trans x2) d2
    | false =>
      rw [if_neg Bool.false_ne_true] at e ⊢
      exact q3 c σ H1 s1 r1 _ _ e Q fun v H2 r2 x2 d2 => w v H2 r2 (x1.trans x2) d2
/-- is None -/
def dIsN (neg : Bool) : D → Option D
  | .none => some (.bool (!neg))
  | _ => some (.bool neg)
theorem tr_isN {j : Nat} {p2 : Pos} (ha : TrE Γ O L0 W a ma) : TrE Γ O L W (.Compare a [.Is] [.Constant .none j p2] pos) (xUn (dIsN false) ma) := by
  obtain ⟨t, p, q⟩ := ha
  refine ⟨tIsN t, fun X h => pe_cmp (pc_isN (p X h)) rfl, fun c σ H s r d s' e Q w => ?_⟩
  obtain ⟨x, e1, e2⟩ := xUn_of e
  refine q c σ H s r _ _ e1 _ fun v H1 r1 x1 d1 => ?_
  cases d1 <;> cases e2 <;> exact w _ H1 r1 x1 (.bl _)
theorem tr_notN {j : Nat} {p2 : Pos} (ha : TrE Γ O L0 W a ma) : TrE Γ O L W (.Compare a [.IsNot] [.Constant .none j p2] pos) (xUn (dIsN true) ma) := by
  obtain ⟨t, p, q⟩ := ha
  refine ⟨tNotN t, fun X h => pe_cmp (pc_notN (p X h)) rfl, fun c σ H s r d s' e Q w => ?_⟩
  obtain ⟨x, e1, e2⟩ := xUn_of e
  refine q c σ H s r _ _ e1 _ fun v H1 r1 x1 d1 => ?_
  cases d1 <;> cases e2 <;> exact w _ H1 r1 x1 (.bl _)
end

/-! ## what a def promises, and its calls -/
/-- reads only; the answer leans on what the caller doesn't hide -/
def spP (K : PySem.W.Frag) (f : List D → Option D) : Sp := fun vs H Q _ => ∃ (C : Addr → Prop) (ds : List D) (d : D), (∀ p, C p → ∃ o, H p = some o) ∧ RpAll K (hide C H) vs ds ∧ f ds = some d ∧
  ∀ v H', Ex H H' → Rp K (hide C H') v d → Q v H'
/-- .. and gives a new list -/
def spL (K : PySem.W.Frag) (f : List D → Option (List D)) : Sp := fun vs H Q _ => ∃ (C : Addr → Prop) (ds es : List D), (∀ p, C p → ∃ o, H p = some o) ∧ RpAll K (hide C H) vs ds ∧ f ds = some es ∧
  ∀ p us H', H p = none → Ex H (hide (· = p) H') → H' p = some (.lst us) → RpAll K (hide C (hide (· = p) H')) us es → Q (.ref p) H'
/-- the first argument is a list that it may change -/
def spT (K : PySem.W.Frag) (f : List D → List D → Option (D × List D)) : Sp := fun vs H Q _ => ∃ (C : Addr → Prop) (p : Addr) (us ws : List V) (fs ds : List D) (d : D) (fs' : List D), vs = .ref p :: ws ∧ C p ∧ (∀ a, C a → ∃ o, H a = some o) ∧
  H p = some (.lst us) ∧ RpAll K (hide C H) us fs ∧ RpAll K (hide C H) ws ds ∧ f fs ds = some (d, fs') ∧
  ∀ v H' us', Ex (hide (· = p) H) (hide (· = p) H') → H' p = some (.lst us') → RpAll K (hide C H') us' fs' → Rp K (hide C H') v d → Q v H'
section
variable {Γ : G} {O L L0 W : List Nat} {e : Expr} {es : List Expr} {ms : MF} {x : Str} {p pos : Pos} {k : Nat} {f : Addr} {fd : FuncData} {ps : List Str}
theorem InG.fn {Γ : G} {X : Cx} (h : InG Γ X) {sp : Sp} (F : FnOk Γ.P Γ.w Γ.K Γ.mg Γ.base CX0 k f fd ps sp) : FnOk X.prog X.w X.K X.mg X.base CX0 k f fd ps sp := by
  rw [h.prog, h.w, h.K, h.mg, h.base]; exact F
theorem InG.room {Γ : G} {X : Cx} (h : InG Γ X) (r : Room k Γ.A) : Room k X.A := by rw [h.A]; exact r
theorem InG.kp {Γ : G} {X : Cx} (h : InG Γ X) {v : Value} (r : PySem.W.keepIn Γ.K v = true) : PySem.W.keepIn X.K v = true := by rw [h.K]; exact r
theorem InG.bd {Γ : G} {X : Cx} (h : InG Γ X) {ds : List Value} (r : Binds Γ.K fd ps ds) : Binds X.K fd ps ds := by rw [h.K]; exact r
/-- what stands of a def of the module, for its callers -/
structure FnAt (P : Program) (w : World) (K : PySem.W.Frag) (mg : Str → Option Value) (base : Heap) (k : Nat) (x : Str) (ps : List Str) (sp : Sp) : Prop where
  ex : ∃ f fd, FnOk P w K mg base CX0 k f fd ps sp ∧ mg x = some (.ref f) ∧ PySem.W.keepIn K (.ref f) = true ∧ Binds K fd ps []
theorem tr_call {mf : List D → Option D} (F : FnAt Γ.P Γ.w Γ.K Γ.mg Γ.base k x ps (spP Γ.K mf)) (hr : Room k Γ.A) (hg : Γ.sc.names.lookup x = some .globalImplicit) (ha : TrA Γ O L W (e :: es) ms) (hL : ∀ j ∈ L, j ∈ O)
    (hdb : (x == ("__debug__" : Str)) = false := by decide) (he : ∀ env : Env, starEach (e :: es) env = (false, eval e env) :: starEach es env := by intro _; rfl) (hpl : ∀ env : Env, (backTo pos (starEach es env)).any (·.1) = false := by intro _; rfl) :
    TrE Γ O L W (.Call (.Name x p) (e :: es) [] pos) (xFn mf ms) := by
  obtain ⟨f, fd, F, hm, hk, hb⟩ := F.ex
  obtain ⟨t, pa, sa⟩ := ha
  refine ⟨tCall (spP Γ.K mf) [] E0 t, fun X h => pe_call (h.fn F) (h.room hr) (h.gl hg) (h.mgn hm) (h.kp hk) (h.bd hb) .nil pass0 (pa X h) hdb (he X.env) (hpl X.env), fun c σ H s r d s' e Q q => ?_⟩
  obtain ⟨ds, e1, e2⟩ := xFn_of e
  refine sa c σ H s r _ _ e1 _ fun vs H1 r1 x1 d1 => ?_
  refine ⟨c.msk L σ, ds, d, msk_there r1 hL, by rw [List.append_nil]; exact d1, e2, fun v H2 x2 d2 => q v H2 (r1.ex x2) (x1.trans (ex_hide x2)) d2⟩
theorem tf_call {mf : List D → Option (List D)} (F : FnAt Γ.P Γ.w Γ.K Γ.mg Γ.base k x ps (spL Γ.K mf)) (hr : Room k Γ.A) (hg : Γ.sc.names.lookup x = some .globalImplicit) (ha : TrA Γ O L W (e :: es) ms) (hL : ∀ j ∈ L, j ∈ O) (hW : ∀ j ∈ W, j ∈ O)
    (hdb : (x == ("__debug__" : Str)) = false := by decide) (he : ∀ env : Env, starEach (e :: es) env = (false, eval e env) :: starEach es env := by intro _; rfl) (hpl : ∀ env : Env, (backTo pos (starEach es env)).any (·.1) = false := by intro _; rfl) :
    TrF Γ O L W (.Call (.Name x p) (e :: es) [] pos) (xfMap mf ms) := by
  obtain ⟨f, fd, F, hm, hk, hb⟩ := F.ex
  obtain ⟨t, pa, sa⟩ := ha
  refine ⟨tCall (spL Γ.K mf) [] E0 t, fun X h => pe_call (h.fn F) (h.room hr) (h.gl hg) (h.mgn hm) (h.kp hk) (h.bd hb) .nil pass0 (pa X h) hdb (he X.env) (hpl X.env), fun c σ H s r ds' s' e Q q => ?_⟩
  obtain ⟨ds, e1, e2⟩ := xfMap_of e
  refine sa c σ H s r _ _ e1 _ fun vs H1 r1 x1 d1 => ?_
  refine ⟨c.msk L σ, ds, ds', msk_there r1 hL, by rw [List.append_nil]; exact d1, e2, fun p us H2 hp x2 h2 d2 => q p us H2 (fresh_of r1 hW x1 p hp) (r1.ex x2) (x1.trans (ex_hide x2)) h2 d2⟩
/-- an owned list has changed, all else stands -/
theorem R.chg2 {K : PySem.W.Frag} {c : Cn} {s : MS} {σ : L2.St} {H H' : Hp} (r : R K c O s σ H) {i : Nat} {p : Addr} {vs : List V} {ds : List D} (hi : i ∈ O) (hp : σ[i]? = some (some (.ref p))) (x : Ex (hide (· = p) H) (hide (· = p) H')) (h' : H' p = some (.lst vs)) (hd : RpAll K (hide (c.msk O σ) H') vs ds) :
    R K c O (s.set i (some (.list ds))) σ H' ∧ Ex (hide (Own [i] σ) H) (hide (Own [i] σ) H') := by
  have hm : c.msk O σ p := .inr ⟨i, hi, hp⟩
  have e0 : Ex (hide (c.msk O σ) H) (hide (c.msk O σ) H') := ex_wide (fun a z => by rw [z]; exact hm) x
  have hl : i < s.length := by
    rw [r.len]
    exact (List.getElem?_eq_some_iff.mp hp).1
  refine ⟨⟨by simpa using r.len, fun j e hj h => ?_, fun j hj => ?_, r.nd, fun q h => ?_, r.th⟩, ex_wide (fun a z => by rw [z]; exact ⟨i, by simp, hp⟩) x⟩
  · have hne : j ≠ i := fun z => hj (z ▸ hi)
    rw [List.getElem?_set_ne (Ne.symm hne)] at h
    obtain ⟨v, h1, h2⟩ := r.sh j e hj h
    exact ⟨v, h1, dp_ex e0 h2⟩
  · obtain ⟨p', vs', ds', h1, h2, h3, h4, h5⟩ := r.ow j hj
    by_cases hne : j = i
    · subst hne
      rw [hp] at h1
      cases h1
      exact ⟨p, vs, ds, hp, List.getElem?_set_self hl, h', hd, h5⟩
    · have hpp : p' ≠ p := fun z => hne (r.nd j i p hj hi (z ▸ h1) hp)
      exact ⟨p', vs', ds', h1, by rw [List.getElem?_set_ne (Ne.symm hne)]; exact h2, (of_hide (x p' _ (hide_of hpp h3))).2, dpa_ex e0 h4, h5⟩
  · by_cases e : q = p
    · exact ⟨_, by rw [e]; exact h'⟩
    · obtain ⟨o, z⟩ := r.cs q h
      exact ⟨o, (of_hide (x q _ (hide_of e z))).2⟩
/-- a call that may change the list in slot i -/
def xCallT (i : Nat) (f : List D → List D → Option (D × List D)) (ms : MF) : ME := fun s => (ms s).bind fun p => match p.2.getD i none with
  | some (.list fs) => (f fs p.1).map fun q => (q.1, p.2.set i (some (.list q.2)))
  | _ => none
theorem tr_callT {mf : List D → List D → Option (D × List D)} {i : Nat} {y : Str} {py : Pos} (F : FnAt Γ.P Γ.w Γ.K Γ.mg Γ.base k x ps (spT Γ.K mf)) (hr : Room k Γ.A) (hg : Γ.sc.names.lookup x = some .globalImplicit) (hN : Γ.N[i]? = some y) (hv : visB Γ.sc y = true) (hi : i ∈ W) (ha : TrA Γ O O W es ms) (hW : ∀ j ∈ W, j ∈ O) (hL : ∀ j ∈ L, j ∈ O)
    (hdb : (x == ("__debug__" : Str)) = false := by decide) (hd : (y == ("__debug__" : Str)) = false := by decide) (hcd : (y == ("__classdict__" : Str)) = false := by decide) (hpl : ∀ env : Env, (backTo pos (starEach es env)).any (·.1) = false := by intro _; rfl) :
    TrE Γ O L W (.Call (.Name x p) (.Name y py :: es) [] pos) (xCallT i mf ms) := by
  obtain ⟨f, fd, F, hm, hk, hb⟩ := F.ex
  obtain ⟨t, pa, sa⟩ := ha
  refine ⟨tCall (spT Γ.K mf) [] E0 (tCons (tVar i) t), fun X h => pe_call (h.fn F) (h.room hr) (h.gl hg) (h.mgn hm) (h.kp hk) (h.bd hb) .nil pass0 (pa_cons (pe_var (h.nx hN) (h.vis hv) hd hcd) (pa X h)) hdb rfl (hpl X.env), fun c σ H s r d s' e Q q => ?_⟩
  unfold xCallT at e
  cases e1 : ms s with
  | none => rw [e1] at e; cases e
  | some pr =>
    obtain ⟨ds, s1⟩ := pr
    rw [e1] at e
    simp only [Option.bind_some] at e
    split at e
    · rename_i fs e2
      cases e3 : mf fs ds with
      | none => rw [e3] at e; cases e
      | some w =>
        rw [e3] at e
        cases e
        have hiO : i ∈ O := hW i hi
        obtain ⟨p0, vs0, _, h1, _⟩ := r.ow i hiO
        refine ⟨.ref p0, h1, ?_⟩
        refine sa c σ H s r _ _ e1 _ fun vs H1 r1 x1 d1 => ?_
        obtain ⟨p', us, fs', k1, k2, k3, k4, k5⟩ := r1.ow i hiO
        rw [h1] at k1
        cases k1
        have e4 : s1[i]? = some (some (.list fs)) := by
          rw [List.getD_eq_getElem?_getD] at e2
          cases e5 : s1[i]? with
          | none => rw [e5] at e2; cases e2
          | some o => rw [e5] at e2; exact congrArg some e2
        rw [k2] at e4
        cases e4
        refine ⟨c.msk O σ, p0, us, vs, fs, ds, _, _, List.append_nil _, .inr ⟨i, hiO, h1⟩, msk_there r1 (fun _ z => z), k3, k4, d1, e3, fun v H2 us' x2 h2 d2 d3 => ?_⟩
        obtain ⟨r2, x3⟩ := r1.chg2 hiO h1 x2 h2 d2
        exact q v H2 r2 (x1.trans (ex_wide (fun a ⟨j, hj, z⟩ => ⟨j, by rw [List.mem_singleton.mp hj]; exact hi, z⟩) x3)) (dp_ex (ex_hide_sub (msk_sub hL)) d3)
    · cases e
end
end Z


namespace Z
open PySem PySem.Spec PyProof.Rows L2

/-! ## what is walked -/
def ItOk (K : PySem.W.Frag) (c : Cn) (O : List Nat) (σ : L2.St) (J : It) (H : Hp) (ds : List D) : Prop := ∀ (i : Nat) (c' : Cn) (σ' : L2.St) (H' : Hp), Ex (hide (c.msk O σ) H) (hide (c'.msk O σ') H') → (∀ a, c'.msk O σ' a → ∃ o, H' a = some o) →
  (∀ d, ds[i]? = some d → J.go i H' ∧ ∀ x H'', J.yld i H' x H'' → Ex H' H'' ∧ Rp K (hide (c'.msk O σ') H'') x d) ∧ (i = ds.length → J.stop i H')
def SimI (K : PySem.W.Frag) (O W : List Nat) (wi : TI) (m : MF) : Prop := ∀ (c : Cn) (σ : L2.St) (H : Hp) (s : MS), R K c O s σ H → ∀ ds s', m s = some (ds, s') → ∀ Q : It → Hp → Prop,
  (∀ J H', R K c O s' σ H' → Ex (hide (Own W σ) H) (hide (Own W σ) H') → ItOk K c O σ J H' ds → Q J H') → wi σ H Q
def TrI (Γ : G) (O W : List Nat) (tg e : Expr) (m : MF) : Prop := ∃ wi, (∀ X, InG Γ X → PI X tg e wi) ∧ SimI Γ.K O W wi m
def iSeq (K : PySem.W.Frag) (tl : TE) : TI := fun σ H R => tl σ H fun x H1 => ∃ a, x = .ref a ∧ (((∃ xs, SqL K H1 a xs) ∧ R (Itl K a) H1) ∨ ((∃ xs, SqT K H1 a xs) ∧ R (Itt K a) H1))
theorem pi_seq {X : Cx} {tg l : Expr} {tl : TE} (hl : PE X l tl) : PI X tg l (iSeq X.K tl) := by
  refine ⟨fun pins s σ H R I h => ?_⟩
  refine thn (hl.run pins s σ H _ I h) fun v s1 ⟨x, H1, I1, r1, q1⟩ => ?_
  obtain ⟨a, e, q⟩ := q1
  subst e
  cases r1
  rcases q with ⟨⟨xs, hq⟩, q⟩ | ⟨⟨xs, hq⟩, q⟩
  · obtain ⟨its, rv, p, hz⟩ := I1.list hq
    refine wpAny_pyIter_list p.isList ?_
    refine ⟨s1.heap.objs.size, [s1.heap.objs.size], _, _, H1, rfl, I1.kept (t' := s1.toks) fun b o e => Heap.get?_push_of_some _ e, turn_list a _, ⟨_, Heap.get?_push_size _ rfl, rfl, rfl⟩, fun b hb => ?_, q⟩
    have e : b = s1.heap.objs.size := by simpa using hb
    subst e
    exact I1.fpOk (Nat.le_refl _) (I1.hok.fresh (Nat.le_refl _))
  · obtain ⟨its, rv, p, hz⟩ := I1.tuple hq
    refine wpAny_pyIter_tuple (show s1.heap.IsTuple a its.toArray from p) ?_
    refine ⟨s1.heap.objs.size, [s1.heap.objs.size], _, _, H1, rfl, I1.kept (t' := s1.toks) fun b o e => Heap.get?_push_of_some _ e, turn_tuple a _, ⟨_, Heap.get?_push_size _ rfl, rfl, rfl⟩, fun b hb => ?_, q⟩
    have e : b = s1.heap.objs.size := by simpa using hb
    subst e
    exact I1.fpOk (Nat.le_refl _) (I1.hok.fresh (Nat.le_refl _))
section
variable {K : PySem.W.Frag} {c : Cn} {O W : List Nat} {σ : L2.St} {H : Hp}
theorem itok_list {a : Addr} {vs : List V} {ds : List D} (h : SqL K (hide (c.msk O σ) H) a vs) (hd : RpAll K (hide (c.msk O σ) H) vs ds) : ItOk K c O σ (Itl K a) H ds := fun i c' σ' H' e t => by
  have h2 : SqL K H' a vs := sql_ex (e.trans ex_hide0) h
  refine ⟨fun d hi => ?_, fun hi => ⟨vs, h2, by rw [dpa_len hd, hi]; exact Nat.le_refl _⟩⟩
  obtain ⟨v, h3, h4⟩ := dpa_get hd hi
  refine ⟨⟨vs, v, h2, h3⟩, fun x H'' y => ?_⟩
  obtain ⟨rfl, y⟩ := y
  have := y vs h2
  rw [h3] at this
  cases this
  exact ⟨Ex.refl _, dp_ex e h4⟩
theorem itok_tup {a : Addr} {vs : List V} {ds : List D} (h : SqT K (hide (c.msk O σ) H) a vs) (hd : RpAll K (hide (c.msk O σ) H) vs ds) : ItOk K c O σ (Itt K a) H ds := fun i c' σ' H' e t => by
  have h2 : SqT K H' a vs := sqt_ex (e.trans ex_hide0) h
  refine ⟨fun d hi => ?_, fun hi => ⟨vs, h2, by rw [dpa_len hd, hi]; exact Nat.le_refl _⟩⟩
  obtain ⟨v, h3, h4⟩ := dpa_get hd hi
  refine ⟨⟨vs, v, h2, h3⟩, fun x H'' y => ?_⟩
  obtain ⟨rfl, y⟩ := y
  have := y vs h2
  rw [h3] at this
  cases this
  exact ⟨Ex.refl _, dp_ex e h4⟩
theorem itok_rng {lo hi : Int} : ItOk K c O σ (Itr lo (hi - lo).toNat) H (dRg lo hi) := fun i c' σ' H' e t => by
  have hl : (dRg lo hi).length = (hi - lo).toNat := by unfold dRg; rw [List.length_map, List.length_range]
  refine ⟨fun d h => ?_, fun h => by rw [hl] at h; show (hi - lo).toNat ≤ i; omega⟩
  have hi' := (List.getElem?_eq_some_iff.mp h).1
  rw [hl] at hi'
  refine ⟨hi', fun x H'' y => ?_⟩
  obtain ⟨rfl, rfl⟩ := y
  unfold dRg at h
  rw [List.getElem?_map, List.getElem?_range hi'] at h
  cases h
  exact ⟨Ex.refl _, .int _⟩
theorem itok_enum {a : Addr} {vs : List V} {ds : List D} (h : SqL K (hide (c.msk O σ) H) a vs) (hd : RpAll K (hide (c.msk O σ) H) vs ds) : ItOk K c O σ (Ite K a) H (ds.mapIdx fun i d => .tuple [.int (i : Nat), d]) := fun i c' σ' H' e t => by
  have h2 : SqL K H' a vs := sql_ex (e.trans ex_hide0) h
  refine ⟨fun d hi => ?_, fun hi => ⟨vs, h2, by rw [dpa_len hd, hi, List.length_mapIdx]; exact Nat.le_refl _⟩⟩
  rw [List.getElem?_mapIdx] at hi
  cases e1 : ds[i]? with
  | none => rw [e1] at hi; cases hi
  | some d0 =>
    rw [e1] at hi
    cases hi
    obtain ⟨v, h3, h4⟩ := dpa_get hd e1
    refine ⟨⟨vs, v, h2, h3⟩, fun x H'' y => ?_⟩
    obtain ⟨T, x, rfl, hT, rfl, y⟩ := y
    have := y vs h2
    rw [h3] at this
    cases this
    have ex := ex_upd (o := HO.tup [V.int (i : Nat), v]) hT
    refine ⟨ex, .tup (.inl (.inl (hide_of (fun z => ?_) upd_same))) (.cons (.int _) (.cons (dp_ex (e.trans (ex_hide ex)) h4) .nil))⟩
    obtain ⟨o, z⟩ := t T z
    rw [hT] at z; cases z
theorem itok_zip {a b : Addr} {vs us : List V} {ds es : List D} (h : SqL K (hide (c.msk O σ) H) a vs) (hd : RpAll K (hide (c.msk O σ) H) vs ds) (hb : SqL K (hide (c.msk O σ) H) b us) (hdb : RpAll K (hide (c.msk O σ) H) us es) : ItOk K c O σ (Itz K a b) H ((ds.zip es).map fun p => .tuple [p.1, p.2]) := fun i c' σ' H' e t => by
  have h2 : SqL K H' a vs := sql_ex (e.trans ex_hide0) h
  have h2b : SqL K H' b us := sql_ex (e.trans ex_hide0) hb
  refine ⟨fun d hi => ?_, fun hi => ⟨vs, us, h2, h2b, ?_⟩⟩
  · rw [List.getElem?_map] at hi
    cases e1 : (ds.zip es)[i]? with
    | none => rw [e1] at hi; cases hi
    | some d0 =>
      rw [e1] at hi
      cases hi
      obtain ⟨g1, g2⟩ := List.getElem?_zip_eq_some.mp e1
      obtain ⟨v, h3, h4⟩ := dpa_get hd g1
      obtain ⟨u, h3b, h4b⟩ := dpa_get hdb g2
      refine ⟨⟨vs, us, v, u, h2, h2b, h3, h3b⟩, fun x H'' y => ?_⟩
      obtain ⟨T, x, x2, rfl, hT, rfl, y, y2⟩ := y
      have := y vs h2
      rw [h3] at this
      cases this
      have := y2 us h2b
      rw [h3b] at this
      cases this
      have ex := ex_upd (o := HO.tup [v, u]) hT
      refine ⟨ex, .tup (.inl (.inl (hide_of (fun z => ?_) upd_same))) (.cons (dp_ex (e.trans (ex_hide ex)) h4) (.cons (dp_ex (e.trans (ex_hide ex)) h4b) .nil))⟩
      obtain ⟨o, z⟩ := t T z
      rw [hT] at z; cases z
  · rw [List.length_map, List.length_zip] at hi
    rw [dpa_len hd, dpa_len hdb]
    omega
theorem itok_str {z : Str} : ItOk K c O σ (Its z) H (z.cps.toList.map fun k => .str ⟨#[k]⟩) := fun i c' σ' H' e t => by
  refine ⟨fun d hi => ?_, fun hi => by rw [List.length_map, Array.length_toList] at hi; show z.cps.size ≤ i; omega⟩
  rw [List.getElem?_map] at hi
  cases e1 : z.cps.toList[i]? with
  | none => rw [e1] at hi; cases hi
  | some k =>
    rw [e1] at hi
    cases hi
    have hlt := (List.getElem?_eq_some_iff.mp e1).1
    rw [Array.length_toList] at hlt
    refine ⟨hlt, fun x H'' y => ?_⟩
    obtain ⟨rfl, k', e2, rfl⟩ := y
    rw [Array.getElem?_toList] at e1
    rw [e1] at e2
    cases e2
    exact ⟨Ex.refl _, .str _⟩
end
section
variable {Γ : G} {O L0 W : List Nat} {tg a b e : Expr} {m ma mb : ME} {ms mt : MF} {p pos tpos : Pos} {elts : List Expr} {kk : Nat}
theorem ti_E (hW : ∀ j ∈ W, j ∈ O) (h : TrE Γ O O W e m) : TrI Γ O W tg e (xSeq m) := by
  obtain ⟨t, p, q⟩ := h
  refine ⟨iSeq Γ.K t, fun X h => by rw [← h.K]; exact pi_seq (p X h), fun c σ H s r ds s' e Q k => ?_⟩
  obtain ⟨d, e1, e2⟩ := xSeq_of e
  refine q c σ H s r _ _ e1 _ fun v H' r' ex hd => ?_
  cases hd <;> first | (cases e2; done) | skip
  · cases e2
    exact ⟨_, rfl, .inl ⟨⟨_, sql_ex ex_hide0 ‹_›⟩, k _ H' r' ex (itok_list ‹_› ‹_›)⟩⟩
  · cases e2
    exact ⟨_, rfl, .inr ⟨⟨_, sqt_ex ex_hide0 ‹_›⟩, k _ H' r' ex (itok_tup ‹_› ‹_›)⟩⟩
theorem ti_F (h : TrF Γ O O W e ms) : TrI Γ O W tg e ms := by
  obtain ⟨t, p, q⟩ := h
  refine ⟨iList Γ.K t, fun X h => by rw [← h.K]; exact pi_list (p X h), fun c σ H s r ds s' e Q k => ?_⟩
  refine q c σ H s r _ _ e _ fun p vs H' hp r' ex ha hd => ⟨p, rfl, ⟨vs, .inl (.inl ha)⟩, k _ H' (r'.ex ex_hide0) (ex.trans (ex_hide ex_hide0)) (itok_list (.inl (.inl (hide_of (fun z => ?_) ha))) (dpa_ex (ex_hide ex_hide0) hd))⟩
  obtain ⟨o, z⟩ := msk_there r' (fun _ z => z) p z
  exact (of_hide z).1 rfl
theorem ti_rng1 (hg : Γ.sc.names.lookup ("range" : Str) = some .globalImplicit) (hm : Γ.mg "range" = none) (h : TrE Γ O L0 W a m) (hs : ∀ env : Env, starEach [a] env = [(false, eval a env)] := by intro _; rfl) : TrI Γ O W tg (.Call (.Name "range" p) [a] [] pos) (xRg1 m) := by
  obtain ⟨t, pa, q⟩ := h
  refine ⟨iRng1 (tCons t tNil), fun X h => pi_range1 (h.gl hg) (h.mgn hm) (pa_cons (pa X h) pa_nil (hs X.env)) (hs X.env), fun c σ H s r ds s' e Q k => ?_⟩
  obtain ⟨n, e1, hn, rfl⟩ := xRg1_of e
  refine q c σ H s r _ _ e1 _ fun v H1 r1 x1 d1 => ?_
  cases d1
  refine ⟨n, rfl, by omega, by omega, k _ H1 r1 x1 ?_⟩
  have := itok_rng (K := Γ.K) (c := c) (O := O) (σ := σ) (H := H1) (lo := 0) (hi := n)
  rw [Int.sub_zero] at this
  exact this
def xRg2 (a b : ME) : MF := fun s => (a s).bind fun p => (b p.2).bind fun q => match p.1, q.1 with
  | .int x, .int n => if (n ≤ 1000000 ∧ -1000000 ≤ n) ∧ (x ≤ 1000000 ∧ -1000000 ≤ x) then some (dRg x n, q.2) else none
  | _, _ => none
theorem ti_rng2 (hg : Γ.sc.names.lookup ("range" : Str) = some .globalImplicit) (hm : Γ.mg "range" = none) (ha : TrE Γ O L0 W a ma) (hb : TrE Γ O L0 W b mb) (hs : ∀ env : Env, starEach [a, b] env = (false, eval a env) :: starEach [b] env := by intro _; rfl) (hs1 : ∀ env : Env, starEach [a, b] env = [(false, eval a env), (false, eval b env)] := by intro _; rfl) (hs2 : ∀ env : Env, starEach [b] env = [(false, eval b env)] := by intro _; rfl) :
    TrI Γ O W tg (.Call (.Name "range" p) [a, b] [] pos) (xRg2 ma mb) := by
  obtain ⟨t, pa, q⟩ := ha
  obtain ⟨t2, pb, q2⟩ := hb
  refine ⟨iRng2 (tCons t (tCons t2 tNil)), fun X h => pi_range2 (h.gl hg) (h.mgn hm) (pa_cons (pa X h) (pa_cons (pb X h) pa_nil (hs2 X.env)) (hs X.env)) (hs1 X.env) (hs2 X.env), fun c σ H s r ds s' e Q k => ?_⟩
  unfold xRg2 at e
  cases e1 : ma s with
  | none => rw [e1] at e; cases e
  | some pr =>
    obtain ⟨d, s1⟩ := pr
    rw [e1] at e
    simp only [Option.bind_some] at e
    cases e2 : mb s1 with
    | none => rw [e2] at e; cases e
    | some pr2 =>
      obtain ⟨d2, s2⟩ := pr2
      rw [e2] at e
      simp only [Option.bind_some] at e
      cases d <;> first | (cases e; done) | skip
      cases d2 <;> first | (cases e; done) | skip
      dsimp only at e
      split at e
      · cases e
        refine q c σ H s r _ _ e1 _ fun v H1 r1 x1 d1 => ?_
        refine q2 c σ H1 _ r1 _ _ e2 _ fun v H2 r2 x2 d2 => ?_
        cases d1; cases d2
        exact ⟨_, _, rfl, ⟨by omega, by omega, by omega, by omega⟩, k _ H2 r2 (x1.trans x2) itok_rng⟩
      · cases e
/-- a list that nothing owned reaches -/
def SimZ (K : PySem.W.Frag) (O W : List Nat) (t : TE) (m : MF) : Prop := ∀ (c : Cn) (σ : L2.St) (H : Hp) (s : MS), R K c O s σ H → ∀ ds s', m s = some (ds, s') → ∀ Q : VK,
  (∀ p vs H', R K c O s' σ H' → Ex (hide (Own W σ) H) (hide (Own W σ) H') → SqL K (hide (c.msk O σ) H') p vs → RpAll K (hide (c.msk O σ) H') vs ds → Q (.ref p) H') → t σ H Q
def TrZ (Γ : G) (O W : List Nat) (e : Expr) (m : MF) : Prop := ∃ t, (∀ X, InG Γ X → PE X e t) ∧ SimZ Γ.K O W t m
theorem tz_E (h : TrE Γ O O W e m) : TrZ Γ O W e (xList m) := by
  obtain ⟨t, p, q⟩ := h
  refine ⟨t, p, fun c σ H s r ds s' e Q k => q c σ H s r _ _ (xList_of e) _ fun v H' r' ex hd => ?_⟩
  cases hd with
  | lst h a => exact k _ _ H' r' ex h a
theorem tz_F (h : TrF Γ O O W e ms) : TrZ Γ O W e ms := by
  obtain ⟨t, p, q⟩ := h
  refine ⟨t, p, fun c σ H s r ds s' e Q k => q c σ H s r _ _ e _ fun p vs H' hp r' ex ha hd => k p vs H' (r'.ex ex_hide0) (ex.trans (ex_hide ex_hide0)) (.inl (.inl (hide_of (fun z => ?_) ha))) (dpa_ex (ex_hide ex_hide0) hd)⟩
  obtain ⟨o, z⟩ := msk_there r' (fun _ z => z) p z
  exact (of_hide z).1 rfl
def xEnum (m : MF) : MF := fun s => (m s).map fun p => (p.1.mapIdx fun i d => .tuple [.int (i : Nat), d], p.2)
def xZip (a b : MF) : MF := fun s => (a s).bind fun p => (b p.2).map fun q => ((p.1.zip q.1).map fun w => .tuple [w.1, w.2], q.2)
theorem ti_enum (hg : Γ.sc.names.lookup ("enumerate" : Str) = some .globalImplicit) (hm : Γ.mg "enumerate" = none) (h : TrZ Γ O W e ms) (hs : ∀ env : Env, starEach [e] env = [(false, eval e env)] := by intro _; rfl) : TrI Γ O W (.Tuple elts kk tpos) (.Call (.Name "enumerate" p) [e] [] pos) (xEnum ms) := by
  obtain ⟨t, pa, q⟩ := h
  refine ⟨iEnum Γ.K (tCons t tNil), fun X h => by rw [← h.K]; exact pi_enum (h.gl hg) (h.mgn hm) (pa_cons (pa X h) pa_nil (hs X.env)) (hs X.env), fun c σ H s r ds s' e Q k => ?_⟩
  unfold xEnum at e
  cases e1 : ms s with
  | none => rw [e1] at e; cases e
  | some pr =>
    rw [e1] at e
    cases e
    exact q c σ H s r _ _ e1 _ fun v vs H1 r1 x1 h1 d1 => ⟨v, vs, rfl, sql_ex ex_hide0 h1, k _ H1 r1 x1 (itok_enum h1 d1)⟩
theorem ti_zip (hg : Γ.sc.names.lookup ("zip" : Str) = some .globalImplicit) (hm : Γ.mg "zip" = none) (ha : TrZ Γ O W a ms) (hb : TrZ Γ O W b mt) (hW : ∀ j ∈ W, j ∈ O) (hs : ∀ env : Env, starEach [a, b] env = (false, eval a env) :: starEach [b] env := by intro _; rfl) (hs2 : ∀ env : Env, starEach [b] env = [(false, eval b env)] := by intro _; rfl)
    (hpl : ∀ env : Env, (backTo pos (starEach [b] env)).any (·.1) = false := by intro _; rfl) : TrI Γ O W (.Tuple elts kk tpos) (.Call (.Name "zip" p) [a, b] [] pos) (xZip ms mt) := by
  obtain ⟨t, pa, q⟩ := ha
  obtain ⟨t2, pb, q2⟩ := hb
  refine ⟨iZip Γ.K (tCons t (tCons t2 tNil)), fun X h => by rw [← h.K]; exact pi_zip (h.gl hg) (h.mgn hm) (pa_cons (pa X h) (pa_cons (pb X h) pa_nil (hs2 X.env)) (hs X.env)) (hs X.env) (hpl X.env), fun c σ H s r ds s' e Q k => ?_⟩
  unfold xZip at e
  cases e1 : ms s with
  | none => rw [e1] at e; cases e
  | some pr =>
    rw [e1] at e
    simp only [Option.bind_some] at e
    cases e2 : mt pr.2 with
    | none => rw [e2] at e; cases e
    | some pr2 =>
      rw [e2] at e
      cases e
      refine q c σ H s r _ _ e1 _ fun v vs H1 r1 x1 h1 d1 => ?_
      refine q2 c σ H1 _ r1 _ _ e2 _ fun u us H2 r2 x2 h2 d2 => ?_
      have kp := keep (c := c) hW x2
      exact ⟨v, u, vs, us, rfl, sql_ex (kp.trans ex_hide0) h1, sql_ex ex_hide0 h2, k _ H2 r2 (x1.trans x2) (itok_zip (sql_ex kp h1) (dpa_ex kp d1) h2 d2)⟩
def xSigns (m : ME) : MF := fun s => (m s).bind fun p => match p.1 with
  | .str z => some (z.cps.toList.map fun k => .str ⟨#[k]⟩, p.2)
  | _ => none
theorem ti_str {L : List Nat} (h : TrE Γ O L W e m) : TrI Γ O W tg e (xSigns m) := by
  obtain ⟨t, p, q⟩ := h
  refine ⟨iStr t, fun X h => pi_str (p X h), fun c σ H s r ds s' e Q k => ?_⟩
  unfold xSigns at e
  cases e1 : m s with
  | none => rw [e1] at e; cases e
  | some pr =>
    obtain ⟨d, s1⟩ := pr
    rw [e1] at e
    simp only [Option.bind_some] at e
    cases d <;> first | (cases e; done) | skip
    cases e
    refine q c σ H s r _ _ e1 _ fun v H1 r1 x1 d1 => ?_
    cases d1
    exact ⟨_, rfl, k _ H1 r1 x1 itok_str⟩
end

/-! ## targets -/
/-- two frames that differ in some slots alone -/
def Off (vs : List Nat) (σ σ' : L2.St) : Prop := σ'.length = σ.length ∧ ∀ j, j ∉ vs → σ'[j]? = σ[j]?
theorem Off.refl (vs : List Nat) (σ : L2.St) : Off vs σ σ := ⟨rfl, fun _ _ => rfl⟩
theorem Off.trans {vs : List Nat} {a b c : L2.St} (h : Off vs a b) (k : Off vs b c) : Off vs a c := ⟨k.1.trans h.1, fun j hj => (k.2 j hj).trans (h.2 j hj)⟩
theorem wipe_get (σ : L2.St) : ∀ (vs : List Nat) (j : Nat), (wipe σ vs)[j]? = if j ∈ vs ∧ j < σ.length then some none else σ[j]?
  | [], j => by simp [wipe]
  | v :: vs, j => by
    unfold wipe
    by_cases e : v = j
    · subst e
      by_cases hl : v < σ.length
      · rw [List.getElem?_set_self (by rw [wipe_length]; exact hl), if_pos ⟨List.mem_cons_self, hl⟩]
      · rw [if_neg (fun h => hl h.2), List.getElem?_eq_none (by rw [List.length_set, wipe_length]; omega), List.getElem?_eq_none (by omega)]
    · rw [List.getElem?_set_ne e, wipe_get σ vs j]
      by_cases h : j ∈ vs ∧ j < σ.length
      · rw [if_pos h, if_pos ⟨List.mem_cons_of_mem _ h.1, h.2⟩]
      · rw [if_neg h, if_neg (fun q => h ⟨(List.mem_cons.mp q.1).resolve_left (fun z => e z.symm), q.2⟩)]
theorem Off.wipe {vs : List Nat} {σ σ' : L2.St} (h : Off vs σ σ') : wipe σ' vs = wipe σ vs := by
  apply List.ext_getElem?
  intro j
  rw [wipe_get, wipe_get, h.1]
  by_cases e : j ∈ vs
  · by_cases hl : j < σ.length
    · rw [if_pos ⟨e, hl⟩, if_pos ⟨e, hl⟩]
    · rw [if_neg (fun z => hl z.2), if_neg (fun z => hl z.2), List.getElem?_eq_none (by rw [h.1]; omega), List.getElem?_eq_none (by omega)]
  · rw [if_neg (fun z => e z.1), if_neg (fun z => e z.1), h.2 j e]
theorem off_wipe (vs : List Nat) (σ : L2.St) : Off vs σ (L2.wipe σ vs) := ⟨wipe_length _ _, fun j hj => by rw [wipe_get, if_neg (fun z => hj z.1)]⟩
theorem Off.own {vs L : List Nat} {σ σ' : L2.St} (h : Off vs σ σ') (d : ∀ j ∈ L, j ∉ vs) : Own L σ' = Own L σ := by
  funext a
  refine propext ⟨fun ⟨j, hj, e⟩ => ⟨j, hj, ?_⟩, fun ⟨j, hj, e⟩ => ⟨j, hj, ?_⟩⟩
  · rw [← h.2 j (d j hj)]; exact e
  · rw [h.2 j (d j hj)]; exact e
theorem Off.msk {vs L : List Nat} {σ σ' : L2.St} {c : Cn} (h : Off vs σ σ') (d : ∀ j ∈ L, j ∉ vs) : c.msk L σ' = c.msk L σ := by
  unfold Cn.msk
  rw [h.own d]
/-- a target's binding: slots vs, none of them owned -/
def SimG (K : PySem.W.Frag) (O vs : List Nat) (g : TG) (b : D → MS → Option MS) : Prop := ∀ (c : Cn) (σ : L2.St) (H : Hp) (s : MS) (v : V) (d : D), R K c O s σ H → Rp K (hide (c.msk O σ) H) v d → ∀ s', b d s = some s' → ∀ Q : L2.St → Hp → Prop,
  (∀ σ', R K c O s' σ' H → Off vs σ σ' → Q σ' H) → g v σ H Q
def SimGs (K : PySem.W.Frag) (O vs : List Nat) (g : TGs) (b : List D → MS → Option MS) : Prop := ∀ (c : Cn) (σ : L2.St) (H : Hp) (s : MS) (us : List V) (ds : List D), R K c O s σ H → RpAll K (hide (c.msk O σ) H) us ds → ∀ s', b ds s = some s' → ∀ Q : L2.St → Hp → Prop,
  (∀ σ', R K c O s' σ' H → Off vs σ σ' → Q σ' H) → g us σ H Q
def TrG (Γ : G) (O vs : List Nat) (tg : Expr) (b : D → MS → Option MS) : Prop := ∃ g, (∀ X, InG Γ X → PG X tg g) ∧ SimG Γ.K O vs g b
def TrGs (Γ : G) (O vs : List Nat) (tgs : List Expr) (b : List D → MS → Option MS) : Prop := ∃ g, (∀ X, InG Γ X → PGs X tgs g) ∧ SimGs Γ.K O vs g b
def bName (i : Nat) : D → MS → Option MS := fun d s => some (s.set i (some d))
def bNil : List D → MS → Option MS := fun ds s => match ds with
  | [] => some s
  | _ => none
def bCons (b : D → MS → Option MS) (bs : List D → MS → Option MS) : List D → MS → Option MS := fun ds s => match ds with
  | [] => none
  | d :: r => (b d s).bind (bs r)
def bTup (n : Nat) (bs : List D → MS → Option MS) : D → MS → Option MS := fun d s => match d with
  | .tuple ds => if ds.length = n then bs ds s else none
  | _ => none
def locB (Γ : G) (x : Str) : Bool := match Γ.sc.names.lookup x with
  | some .local => true
  | some .cell => Γ.fnc x
  | _ => false
theorem InG.loc {Γ : G} {X : Cx} {x : Str} (h : InG Γ X) (e : locB Γ x = true) : L2.Loc X.env.scope x ∧ (X.fn x = true ∨ X.env.scope.names.lookup x = some .local) := by
  rw [h.sc, h.fnc]
  unfold locB at e
  unfold L2.Loc
  split at e
  · exact ⟨.inl ‹_›, .inr ‹_›⟩
  · exact ⟨.inr ‹_›, .inl e⟩
  · cases e
theorem filter_ne {O : List Nat} {i : Nat} (h : i ∉ O) : O.filter (· ≠ i) = O := List.filter_eq_self.mpr fun a ha => by
  have : a ≠ i := by intro z; subst z; exact h ha
  simpa using this
section
variable {Γ : G} {O vs : List Nat} {es : List Expr} {pos : Pos}
theorem tg_name {i : Nat} {x : Str} (hN : Γ.N[i]? = some x) (hv : locB Γ x = true) (hi : i ∉ O) (hvs : i ∈ vs) : TrG Γ O vs (.Name x pos) (bName i) := by
  refine ⟨gName i, fun X h => pg_name h.ndX (h.nx hN) (h.loc hv).1 (h.loc hv).2, fun c σ H s v d r hd s' e Q q => ?_⟩
  cases e
  by_cases hl : i < σ.length
  · have := (r.set (i := i) hd (fun z => hi (r.th i z).1) hl).1
    rw [filter_ne hi] at this
    exact q _ this ⟨by simp, fun j hj => List.getElem?_set_ne (by intro z; subst z; exact hj hvs)⟩
  · have e1 : s.set i (some d) = s := List.set_eq_of_length_le (by rw [r.len]; omega)
    have e2 : σ.set i (some v) = σ := List.set_eq_of_length_le (by omega)
    show Q (σ.set i (some v)) H
    rw [e2]
    rw [e1] at q
    exact q σ r (Off.refl _ _)
theorem tgs_nil : TrGs Γ O vs [] bNil := ⟨gNil, fun _ _ => pgs_nil, fun c σ H s us ds r hd s' e Q q => by
  cases hd with
  | nil => cases e; exact ⟨rfl, q σ r (Off.refl _ _)⟩
  | cons _ _ => cases e⟩
theorem tgs_cons {e : Expr} {b : D → MS → Option MS} {bs : List D → MS → Option MS} (h : TrG Γ O vs e b) (hs : TrGs Γ O vs es bs) (hd : ∀ j ∈ O, j ∉ vs) (ha : ∀ env : Env, (assignEach (e :: es) env).map (·.2) = assign e env :: (assignEach es env).map (·.2) := by intro _; rfl) : TrGs Γ O vs (e :: es) (bCons b bs) := by
  obtain ⟨g, p, q⟩ := h
  obtain ⟨gs, ps, qs⟩ := hs
  refine ⟨gCons g gs, fun X h => pgs_cons (p X h) (ps X h) (ha X.env), fun c σ H s us ds r hds s' e Q k => ?_⟩
  cases hds with
  | nil => cases e
  | cons h1 h2 =>
    rename_i v us d ds
    unfold bCons at e
    dsimp only at e
    cases e1 : b d s with
    | none => rw [e1] at e; cases e
    | some s1 =>
      rw [e1] at e
      refine ⟨v, us, rfl, q c σ H s v d r h1 s1 e1 _ fun σ1 r1 o1 => ?_⟩
      exact qs c σ1 H s1 us ds r1 (by rw [o1.msk hd]; exact h2) s' e Q fun σ2 r2 o2 => k σ2 r2 (o1.trans o2)
theorem tg_tup {k n : Nat} {bs : List D → MS → Option MS} (hs : TrGs Γ O vs es bs) (hn : ∀ env : Env, (assignEach es env).length = n := by intro _; rfl) (hst : ∀ env : Env, (assignEach es env).findIdx? (·.1) = none := by intro _; rfl) (hcm : Γ.calm = true := by rfl) : TrG Γ O vs (.Tuple es k pos) (bTup n bs) := by
  obtain ⟨gs, ps, qs⟩ := hs
  refine ⟨gTup Γ.K n gs, fun X h => by rw [← h.K]; exact pg_tup (h.cm hcm) (ps X h) (hn X.env) (hst X.env), fun c σ H s v d r hd s' e Q q => ?_⟩
  cases hd <;> first | (cases e; done) | skip
  rename_i a xs ds h1 h2
  unfold bTup at e
  dsimp only at e
  split at e
  · rename_i hl
    exact ⟨a, xs, rfl, sqt_ex ex_hide0 h1, by rw [dpa_len h2]; exact hl, qs c σ H s xs ds r h2 s' e Q q⟩
  · cases e
end
end Z


namespace Z
open PySem PySem.Spec PyProof.Rows L2

/-! ## comprehensions -/
def wipeM (s : MS) : List Nat → MS
  | [] => s
  | v :: vs => (wipeM s vs).set v none
def unwipe (s0 s : MS) : List Nat → MS
  | [] => s
  | v :: vs => (unwipe s0 s vs).set v (s0.getD v none)
theorem wipeM_len (s : MS) : ∀ vs : List Nat, (wipeM s vs).length = s.length
  | [] => rfl
  | v :: vs => by unfold wipeM; rw [List.length_set, wipeM_len s vs]
theorem unwipe_len (s0 s : MS) : ∀ vs : List Nat, (unwipe s0 s vs).length = s.length
  | [] => rfl
  | v :: vs => by unfold unwipe; rw [List.length_set, unwipe_len s0 s vs]
theorem wipeM_get (σ : MS) : ∀ (vs : List Nat) (j : Nat), (wipeM σ vs)[j]? = if j ∈ vs ∧ j < σ.length then some none else σ[j]?
  | [], j => by simp [wipeM]
  | v :: vs, j => by
    unfold wipeM
    by_cases e : v = j
    · subst e
      by_cases hl : v < σ.length
      · rw [List.getElem?_set_self (by rw [wipeM_len]; exact hl), if_pos ⟨List.mem_cons_self, hl⟩]
      · rw [if_neg (fun h => hl h.2), List.getElem?_eq_none (by rw [List.length_set, wipeM_len]; omega), List.getElem?_eq_none (by omega)]
    · rw [List.getElem?_set_ne e, wipeM_get σ vs j]
      by_cases h : j ∈ vs ∧ j < σ.length
      · rw [if_pos h, if_pos ⟨List.mem_cons_of_mem _ h.1, h.2⟩]
      · rw [if_neg h, if_neg (fun q => h ⟨(List.mem_cons.mp q.1).resolve_left (fun z => e z.symm), q.2⟩)]
theorem unwipe_get (s0 s : MS) : ∀ (vs : List Nat) (j : Nat), (unwipe s0 s vs)[j]? = if j ∈ vs ∧ j < s.length then some (s0.getD j none) else s[j]?
  | [], j => by simp [unwipe]
  | v :: vs, j => by
    unfold unwipe
    by_cases e : v = j
    · subst e
      by_cases hl : v < s.length
      · rw [List.getElem?_set_self (by rw [unwipe_len]; exact hl), if_pos ⟨List.mem_cons_self, hl⟩]
      · rw [if_neg (fun h => hl h.2), List.getElem?_eq_none (by rw [List.length_set, unwipe_len]; omega), List.getElem?_eq_none (by omega)]
    · rw [List.getElem?_set_ne e, unwipe_get s0 s vs j]
      by_cases h : j ∈ vs ∧ j < s.length
      · rw [if_pos h, if_pos ⟨List.mem_cons_of_mem _ h.1, h.2⟩]
      · rw [if_neg h, if_neg (fun q => h ⟨(List.mem_cons.mp q.1).resolve_left (fun z => e z.symm), q.2⟩)]
def Cn.add (c : Cn) (D : Addr) : Cn := { c with C := fun a => c.C a ∨ a = D }
section
variable {K : PySem.W.Frag} {c : Cn} {O L W vs : List Nat} {s s0 : MS} {σ : L2.St} {H H1 : Hp} {D : Addr} {o : HO}
theorem R.wipeR (r : R K c O s σ H) (hv : ∀ j ∈ O, j ∉ vs) : R K c O (wipeM s vs) (wipe σ vs) H where
  len := by rw [wipeM_len, wipe_length]; exact r.len
  sh := fun i d hi h => by
    rw [wipeM_get] at h
    split at h
    · cases h
    · rename_i hn
      obtain ⟨v, h1, h2⟩ := r.sh i d hi h
      have hl : i < s.length := (List.getElem?_eq_some_iff.mp h).1
      have hi2 : i ∉ vs := fun z => hn ⟨z, hl⟩
      exact ⟨v, by rw [(off_wipe vs σ).2 i hi2]; exact h1, by rw [(off_wipe vs σ).msk hv]; exact h2⟩
  ow := fun i hi => by
    obtain ⟨p, us, ds, h1, h2, h3, h4, h5⟩ := r.ow i hi
    exact ⟨p, us, ds, by rw [(off_wipe vs σ).2 i (hv i hi)]; exact h1, by rw [wipeM_get, if_neg (fun z => hv i hi z.1)]; exact h2, h3, by rw [(off_wipe vs σ).msk hv]; exact h4, h5⟩
  nd := fun i j p hi hj h1 h2 => r.nd i j p hi hj (by rw [← (off_wipe vs σ).2 i (hv i hi)]; exact h1) (by rw [← (off_wipe vs σ).2 j (hv j hj)]; exact h2)
  cs := r.cs
  th := fun i hi => ⟨(r.th i hi).1, by rw [(off_wipe vs σ).2 i (hv i (r.th i hi).1)]; exact (r.th i hi).2⟩
/-- a new object is hidden for the callee's sake -/
theorem R.addC (r : R K c O s σ H) (hD : H D = none) : R K (c.add D) O s σ (upd H D o) := by
  have e : Ex (hide (c.msk O σ) H) (hide ((c.add D).msk O σ) (upd H D o)) := fun a u q => by
    obtain ⟨n, q⟩ := of_hide q
    have ne : a ≠ D := ne_of_none q hD
    refine hide_of (fun z => ?_) (by rw [upd_ne ne]; exact q)
    rcases z with (z | z) | z
    · exact n (.inl z)
    · exact ne z
    · exact n (.inr z)
  refine ⟨r.len, fun i d hi h => ?_, fun i hi => ?_, r.nd, fun p h => ?_, r.th⟩
  · obtain ⟨v, h1, h2⟩ := r.sh i d hi h
    exact ⟨v, h1, dp_ex e h2⟩
  · obtain ⟨p, us, ds, h1, h2, h3, h4, h5⟩ := r.ow i hi
    have ne : p ≠ D := ne_of_none h3 hD
    exact ⟨p, us, ds, h1, h2, by rw [upd_ne ne]; exact h3, dpa_ex e h4, fun z => z.elim h5 ne⟩
  · by_cases ne : p = D
    · exact ⟨_, by rw [ne]; exact upd_same⟩
    · obtain ⟨u, q⟩ := r.cs p (h.resolve_right ne)
      exact ⟨u, by rw [upd_ne ne]; exact q⟩
/-- what the caller hides may change -/
theorem R.updC (r : R K c O s σ H) (hC : c.C D) : R K c O s σ (upd H D o) := by
  have e : Ex (hide (c.msk O σ) H) (hide (c.msk O σ) (upd H D o)) := ex_hide_up (.inl hC)
  refine ⟨r.len, fun i d hi h => ?_, fun i hi => ?_, r.nd, fun p h => ?_, r.th⟩
  · obtain ⟨v, h1, h2⟩ := r.sh i d hi h
    exact ⟨v, h1, dp_ex e h2⟩
  · obtain ⟨p, us, ds, h1, h2, h3, h4, h5⟩ := r.ow i hi
    have ne : p ≠ D := fun z => h5 (z ▸ hC)
    exact ⟨p, us, ds, h1, h2, by rw [upd_ne ne]; exact h3, dpa_ex e h4, h5⟩
  · by_cases ne : p = D
    · exact ⟨_, by rw [ne]; exact upd_same⟩
    · obtain ⟨u, q⟩ := r.cs p h
      exact ⟨u, by rw [upd_ne ne]; exact q⟩
/-- back from a block -/
theorem R.unblk (r : R K (c.add D) O s (wipe σ vs) H) (r0 : R K c O s0 σ H1) (hD : H1 D = none) (hv : ∀ j ∈ O, j ∉ vs) (e0 : Ex (hide (c.msk O σ) H1) (hide (c.msk O σ) (hide (· = D) H))) : R K c O (unwipe s0 s vs) σ (hide (· = D) H) := by
  have em : (c.add D).msk O (wipe σ vs) = (c.add D).msk O σ := (off_wipe vs σ).msk hv
  have e : Ex (hide ((c.add D).msk O (wipe σ vs)) H) (hide (c.msk O σ) (hide (· = D) H)) := fun a u q => by
    rw [em] at q
    obtain ⟨n, q⟩ := of_hide q
    exact hide_of (fun z => n (z.elim (fun z => .inl (.inl z)) .inr)) (hide_of (fun z => n (.inl (.inr z))) q)
  refine ⟨by rw [unwipe_len, r.len, wipe_length], fun i d hi h => ?_, fun i hi => ?_, r0.nd, fun p h => ?_, r0.th⟩
  · rw [unwipe_get] at h
    split at h
    · rename_i hh
      have h' : s0[i]? = some (some d) := by
        rw [List.getD_eq_getElem?_getD] at h
        cases e3 : s0[i]? with
        | none => rw [e3] at h; cases h
        | some w => rw [e3] at h; exact h
      obtain ⟨v, h1, h2⟩ := r0.sh i d hi h'
      exact ⟨v, h1, dp_ex e0 h2⟩
    · rename_i hn
      have hl : i < s.length := (List.getElem?_eq_some_iff.mp h).1
      have hi2 : i ∉ vs := fun z => hn ⟨z, hl⟩
      obtain ⟨v, h1, h2⟩ := r.sh i d hi h
      exact ⟨v, by rw [← (off_wipe vs σ).2 i hi2]; exact h1, dp_ex e h2⟩
  · obtain ⟨p, us, ds, h1, h2, h3, h4, h5⟩ := r.ow i hi
    have ne : p ≠ D := fun z => h5 (.inr z)
    exact ⟨p, us, ds, by rw [← (off_wipe vs σ).2 i (hv i hi)]; exact h1, by rw [unwipe_get, if_neg (fun z => hv i hi z.1)]; exact h2, hide_of ne h3, dpa_ex e h4, fun z => h5 (.inl z)⟩
  · obtain ⟨u, q⟩ := r0.cs p h
    have ne : p ≠ D := ne_of_none q hD
    obtain ⟨u', q'⟩ := r.cs p (.inl h)
    exact ⟨u', hide_of ne q'⟩
end
def lcL (vs : List Nat) (b : D → MS → Option MS) (t : MT) (e : ME) : List D → MS → Option (List D × MS)
  | [], s => some ([], s)
  | d :: ds, s => (b d s).bind fun s1 => (t s1).bind fun q => if q.1 = true then (e q.2).bind fun y => (lcL vs b t e ds (wipeM y.2 vs)).map fun z => (y.1 :: z.1, z.2) else lcL vs b t e ds (wipeM q.2 vs)
def xLc (src : MF) (vs : List Nat) (b : D → MS → Option MS) (t : MT) (e : ME) : MF := fun s => (src s).bind fun p => if p.1.length ≤ 1000000 then (lcL vs b t e p.1 (wipeM p.2 vs)).map fun q => (q.1, unwipe p.2 q.2 vs) else none
def xYes : MT := fun s => some (true, s)
theorem sim_lc {K : PySem.W.Frag} {O L W vs : List Nat} {wi : TI} {g : TG} {tt : TT} {te : TE} {msrc : MF} {b : D → MS → Option MS} {mt : MT} {me : ME} (hi : SimI K O W wi msrc) (hg : SimG K O vs g b) (ht : SimT K O W tt mt) (he : SimE K O L W te me)
    (hv : ∀ j ∈ O, j ∉ vs) (hW : ∀ j ∈ W, j ∈ L) (hL : ∀ j ∈ L, j ∈ O) : SimF K O L W (tLc wi g tt te vs) (xLc msrc vs b mt me) := fun c σ H s r ds s' e Q q => by
  unfold xLc at e
  cases e1 : msrc s with
  | none => rw [e1] at e; cases e
  | some p =>
    obtain ⟨xs, s1⟩ := p
    rw [e1] at e
    simp only [Option.bind_some] at e
    split at e
    · rename_i hsz
      cases e2 : lcL vs b mt me xs (wipeM s1 vs) with
      | none => rw [e2] at e; cases e
      | some w =>
        obtain ⟨ds0, s2⟩ := w
        rw [e2] at e
        cases e
        have hWO : ∀ j ∈ W, j ∈ O := fun j hj => hL j (hW j hj)
        refine hi c σ H s r _ _ e1 _ fun J H1 r1 x1 it => ?_
        intro D hD
        have ow2 : ∀ {σ2 : L2.St}, Off vs (wipe σ vs) σ2 → Own W σ2 = Own W σ := fun {σ2} o => ((off_wipe vs σ).trans o).own fun j hj => hv j (hWO j hj)
        let Pv : Nat → Hp → Prop := fun i H' => ∃ (si : MS) (acc : List PyData) (us : List V) (rest : List PyData), R K (c.add D) O si (wipe σ vs) H' ∧ H' D = some (.lst us) ∧ RpAll K (hide ((c.add D).msk L (wipe σ vs)) H') us acc ∧
          Ex (hide (fun a => Own W σ a ∨ a = D) H1) (hide (fun a => Own W σ a ∨ a = D) H') ∧ lcL vs b mt me (xs.drop i) si = some (rest, s2) ∧ ds0 = acc ++ rest ∧ acc.length ≤ i
        refine ⟨fun i m H' => m = xs.length - i ∧ i ≤ xs.length ∧ Pv i H', ⟨xs.length, by simp, Nat.zero_le _, wipeM s1 vs, [], [], ds0, (r1.addC hD).wipeR hv, upd_same, .nil, ?_, e2, rfl, Nat.le_refl _⟩, ?_⟩
        · exact ex_hide_up (.inr rfl)
        rintro i m H' ⟨rfl, hile, si, acc, us, rest, ri, hDi, dacc, exi, erun, eds, hacc⟩
        have exm : Ex (hide (c.msk O σ) H1) (hide ((c.add D).msk O (wipe σ vs)) H') := fun a u z => by
          obtain ⟨n, z⟩ := of_hide z
          have ne : a ≠ D := ne_of_none z hD
          have z2 := (of_hide (exi a u (hide_of (fun y => y.elim (fun y => n (.inr (own_sub hWO a y))) ne) z))).2
          refine hide_of (fun y => ?_) z2
          rw [(off_wipe vs σ).msk hv] at y
          rcases y with (y | y) | y
          · exact n (.inl y)
          · exact ne y
          · exact n (.inr y)
        have trk := msk_there ri (L := O) (fun _ z => z)
        obtain ⟨itgo, itstop⟩ := it i (c.add D) (wipe σ vs) H' exm trk
        by_cases hlt : i < xs.length
        · obtain ⟨d, hd⟩ : ∃ d, xs[i]? = some d := ⟨xs[i], List.getElem?_eq_getElem hlt⟩
          obtain ⟨go, yl⟩ := itgo d hd
          have edrop : xs.drop i = d :: xs.drop (i + 1) := by
            rw [List.drop_eq_getElem_cons hlt]
            rw [List.getElem?_eq_getElem hlt] at hd
            cases hd; rfl
          rw [edrop] at erun
          unfold lcL at erun
          cases eb : b d si with
          | none => rw [eb] at erun; cases erun
          | some sb =>
            rw [eb] at erun
            simp only [Option.bind_some] at erun
            cases et : mt sb with
            | none => rw [et] at erun; cases erun
            | some pt =>
              obtain ⟨bt, st⟩ := pt
              rw [et] at erun
              simp only [Option.bind_some] at erun
              refine .inr ⟨go, Pv (i + 1), fun H2 p2 => ⟨xs.length - (i + 1), by omega, rfl, hlt, p2⟩, fun x H2 y => ?_⟩
              obtain ⟨ex2, dx⟩ := yl x H2 y
              refine hg (c.add D) (wipe σ vs) H2 si x d (ri.ex ex2) dx sb eb _ fun σ2 rb ob => ?_
              refine ⟨ob.wipe.trans ((off_wipe vs σ).wipe), ?_⟩
              have offσ : Off vs σ σ2 := (off_wipe vs σ).trans ob
              have mL : (c.add D).msk L σ2 = (c.add D).msk L (wipe σ vs) := ob.msk fun j hj => hv j (hL j hj)
              have wEq : wipe σ2 vs = wipe σ vs := ob.wipe.trans ((off_wipe vs σ).wipe)
              have dn : ∀ {H3 : Hp} {s3 : MS}, R K (c.add D) O s3 σ2 H3 → ¬ Own W σ2 D := fun {H3 s3} r3 ⟨j, hj, z⟩ => by
                obtain ⟨p', _, _, k1, _, _, _, k5⟩ := r3.ow j (hWO j hj)
                rw [z] at k1
                cases k1
                exact k5 (.inr rfl)
              refine ht (c.add D) σ2 H2 sb rb bt st et _ fun H3 r3 x3 => ?_
              have hD3 : H3 D = some (.lst us) := (of_hide (x3 D _ (hide_of (dn rb) (ex2 D _ hDi)))).2
              cases bt with
              | false =>
                rw [if_neg Bool.false_ne_true] at erun ⊢
                refine ⟨wipeM st vs, acc, us, rest, wEq ▸ (r3.wipeR hv), hD3, ?_, ?_, erun, eds, by omega⟩
                · rw [← mL]
                  exact dpa_ex (keep hW x3) (by rw [mL]; exact dpa_ex (ex_hide ex2) dacc)
                · refine exi.trans ((ex_hide ex2).trans (ex_wide (fun a z => ?_) x3))
                  rw [ow2 ob] at z
                  exact .inl z
              | true =>
                rw [if_pos rfl] at erun ⊢
                cases ee : me st with
                | none => rw [ee] at erun; cases erun
                | some pe =>
                  obtain ⟨dy, s4⟩ := pe
                  rw [ee] at erun
                  simp only [Option.bind_some] at erun
                  cases er : lcL vs b mt me (xs.drop (i + 1)) (wipeM s4 vs) with
                  | none => rw [er] at erun; cases erun
                  | some pz =>
                    obtain ⟨rz, sz⟩ := pz
                    rw [er] at erun
                    cases erun
                    refine he (c.add D) σ2 H3 st r3 dy s4 ee _ fun yv H4 r4 x4 d4 => ?_
                    have hD4 : H4 D = some (.lst us) := (of_hide (x4 D _ (hide_of (dn r3) hD3))).2
                    have hlen : us.length = acc.length := dpa_len dacc
                    refine ⟨us, hD4, Nat.lt_of_lt_of_le (show us.length < 1000001 by omega) (by decide), wipeM s4 vs, acc ++ [dy], us ++ [yv], rz, ?_, upd_same, ?_, ?_, er, by rw [eds, List.append_assoc]; rfl, by rw [List.length_append, List.length_singleton]; omega⟩
                    · rw [← wEq]
                      exact (r4.updC (.inr rfl)).wipeR hv
                    · rw [← mL]
                      have up : Ex (hide ((c.add D).msk L σ2) H4) (hide ((c.add D).msk L σ2) (upd H4 D (.lst (us ++ [yv])))) := ex_hide_up (.inl (.inr rfl))
                      refine dpa_app (dpa_ex up (dpa_ex (keep hW x4) (dpa_ex (keep hW x3) ?_))) (.cons (dp_ex up d4) .nil)
                      rw [mL]
                      exact dpa_ex (ex_hide ex2) dacc
                    · refine exi.trans ((ex_hide ex2).trans ((ex_wide (fun a z => ?_) x3).trans ((ex_wide (fun a z => ?_) x4).trans (ex_hide_up (.inr rfl)))))
                      · rw [ow2 ob] at z
                        exact .inl z
                      · rw [ow2 ob] at z
                        exact .inl z
        · have hie : i = xs.length := by omega
          refine .inl ⟨itstop hie, ?_⟩
          rw [hie, List.drop_length] at erun
          unfold lcL at erun
          cases erun
          rw [List.append_nil] at eds
          have e0 : Ex (hide (c.msk O σ) H1) (hide (c.msk O σ) (hide (· = D) H')) := fun a u z => by
            obtain ⟨n, z⟩ := of_hide z
            have ne : a ≠ D := ne_of_none z hD
            exact hide_of n (hide_of ne (of_hide (exi a u (hide_of (fun y => y.elim (fun y => n (.inr (own_sub hWO a y))) ne) z))).2)
          refine q D us H' (fresh_of r1 hWO x1 D hD) (ri.unblk r1 hD hv e0) (x1.trans fun a u z => ?_) hDi ?_
          · obtain ⟨n, z⟩ := of_hide z
            have ne : a ≠ D := ne_of_none z hD
            exact hide_of n (hide_of ne (of_hide (exi a u (hide_of (fun y => y.elim n ne) z))).2)
          · rw [eds]
            refine dpa_ex (fun a u z => ?_) dacc
            rw [(off_wipe vs σ).msk fun j hj => hv j (hL j hj)] at z
            obtain ⟨n, z⟩ := of_hide z
            exact hide_of (fun y => n (y.elim (fun y => .inl (.inl y)) .inr)) (hide_of (fun y => n (.inl (.inr y))) z)
    · cases e
/-- the context of a block -/
abbrev G.blk (Γ : G) (scope : Scope) : G := { Γ with sc := relS scope Γ.sc, fnc := fun x => scope.names.lookup x == some .cell }
theorem InG.blk {Γ : G} {X : Cx} (h : InG Γ X) (scope : Scope) (s : Shared) (H : Hp) (C : Addr) (cl : List (Str × Addr)) (fp : List Addr) : InG (Γ.blk scope) (X.blk s H scope (compEnvC scope cl C X.env) fp) where
  prog := h.prog
  w := h.w
  K := h.K
  mg := h.mg
  base := h.base
  A := h.A
  N := h.N
  sc := by show relS scope X.env.scope = relS scope Γ.sc; rw [h.sc]
  fnc := rfl
  nd := h.nd
  calm := h.calm
  xe := rfl
def TrTs (Γ : G) (O W : List Nat) (ifs : List Expr) (m : MT) : Prop := ∃ t, (∀ X, InG Γ X → PTs X ifs t) ∧ SimT Γ.K O W t m
section
variable {Γ : G} {O L W vs : List Nat} {elt tg iter e : Expr} {ifs : List Expr} {scope : Scope} {own : List (Str × Nat)} {pos : Pos} {msrc : MF} {b : D → MS → Option MS} {mt : MT} {me : ME}
theorem tts_nil : TrTs Γ O W [] xYes := ⟨tYes, fun _ _ => pts_nil, fun c σ H s r b s' e Q q => by cases e; exact q H r refl_hide⟩
theorem tts_one (h : TrT Γ O W e mt) : TrTs Γ O W [e] mt := by
  obtain ⟨t, p, q⟩ := h
  exact ⟨t, fun X h => pts_one (p X h), q⟩
theorem tf_lc (own : List (Str × Nat)) (hi : TrI Γ O W tg iter msrc) (ok : blkC Γ.N Γ.sc scope own = true) (hg : TrG (Γ.blk scope) O (own.map (·.2)) tg b) (ht : TrTs (Γ.blk scope) O W ifs mt) (he : TrE (Γ.blk scope) O L W elt me)
    (hv : ∀ j ∈ O, j ∉ own.map (·.2)) (hW : ∀ j ∈ W, j ∈ L) (hL : ∀ j ∈ L, j ∈ O) (hs : ∀ (env : Env) x, foldedSetIterable iter env x = pure x := by intro _ _; rfl) (hcm : Γ.calm = true := by rfl) :
    TrF Γ O L W (.ListComp elt [⟨tg, iter, ifs, 0⟩] scope pos) (xLc msrc (own.map (·.2)) b mt me) := by
  obtain ⟨wi, pi, si⟩ := hi
  obtain ⟨g, pg, sg⟩ := hg
  obtain ⟨t, pt, st⟩ := ht
  obtain ⟨te, pe, se⟩ := he
  exact ⟨tLc wi g t te (own.map (·.2)), fun X h => pe_lc (h.cm hcm) h.ndX (pi X h) (by rw [h.N, h.sc]; exact blkOk_by ok) (fun s H C cl fp => pg _ (h.blk scope s H C cl fp)) (fun s H C cl fp => pt _ (h.blk scope s H C cl fp)) (fun s H C cl fp => pe _ (h.blk scope s H C cl fp)) (hs X.env), sim_lc si sg st se hv hW hL⟩
end
end Z


namespace Z
open PySem PySem.Spec PyProof.Rows L2

/-! ## statements -/
def Fr (O : List Nat) (σ : L2.St) (H : Hp) (O' : List Nat) (σ' : L2.St) (H' : Hp) : Prop := Ex (hide (Own O σ) H) (hide (Own O' σ') H')
theorem Fr.trans {O O1 O2 : List Nat} {σ σ1 σ2 : L2.St} {H H1 H2 : Hp} (a : Fr O σ H O1 σ1 H1) (b : Fr O1 σ1 H1 O2 σ2 H2) : Fr O σ H O2 σ2 H2 := Ex.trans a b
theorem Fr.refl (O : List Nat) (σ : L2.St) (H : Hp) : Fr O σ H O σ H := Ex.refl _
/-- what is lent, as it stood at the entry -/
def Cn.T (c : Cn) : Addr → Prop := Own c.Th c.τ
/-- a return: the value v of d at H'; fz: a new list -/
structure RtOk (K : PySem.W.Frag) (fz : Bool) (c : Cn) (O : List Nat) (σ : L2.St) (H : Hp) (d : D) (s' : MS) (v : V) (H' : Hp) : Prop where
  fr : Ex (hide (Own O σ) H) (hide c.T H')
  th : ∀ i : Nat, i ∈ c.Th → ∃ (p : Addr) (vs : List V) (ds : List D), c.τ[i]? = some (some (.ref p)) ∧ s'[i]? = some (some (.list ds)) ∧ H' p = some (.lst vs) ∧ RpAll K (hide (fun a => c.C a ∨ c.T a) H') vs ds
  val : Rp K (hide (fun a => c.C a ∨ c.T a) H') v d
  fresh : fz = true → ∃ (p : Addr) (vs : List V) (ds : List D), v = .ref p ∧ d = .list ds ∧ hide (Own O σ) H p = none ∧ ¬ c.T p ∧ ¬ c.C p ∧ H' p = some (.lst vs) ∧ RpAll K (hide (fun a => (c.C a ∨ c.T a) ∨ a = p) H') vs ds
theorem RtOk.ahead {K : PySem.W.Frag} {fz : Bool} {c : Cn} {O O1 : List Nat} {σ σ1 : L2.St} {H H1 H' : Hp} {d : D} {s' : MS} {v : V} (a : Fr O σ H O1 σ1 H1) (r : RtOk K fz c O1 σ1 H1 d s' v H') : RtOk K fz c O σ H d s' v H' where
  fr := Ex.trans a r.fr
  th := r.th
  val := r.val
  fresh := fun h => by
    obtain ⟨p, vs, ds, h1, h2, h3, h4⟩ := r.fresh h
    refine ⟨p, vs, ds, h1, h2, ?_, h4⟩
    cases e : hide (Own O σ) H p with
    | none => rfl
    | some u => rw [a p u e] at h3; cases h3
/-- what stands of an exception: its class, its dict -/
structure RX (K : PySem.W.Frag) (H : Hp) (cls : Value) (d : Option Addr) (x : Exn) : Prop where
  cl : cls = .ref (He.ga K x.cls)
  fs : (x.fs = [] ∧ d = none) ∨ ∃ (dd : Addr) (vs : List (Str × V)), d = some dd ∧ H dd = some (.xd vs) ∧ ∀ (f : Str) (y : D), x.fs.lookup f = some y → ∃ v, vs.lookup f = some v ∧ Rp K H v y
theorem rx_ex {K : PySem.W.Frag} {H H' : Hp} {cls : Value} {d : Option Addr} {x : Exn} (e : Ex H H') (h : RX K H cls d x) : RX K H' cls d x where
  cl := h.cl
  fs := h.fs.imp id fun ⟨dd, vs, h1, h2, h3⟩ => ⟨dd, vs, h1, e _ _ h2, fun f y hy => let ⟨v, k1, k2⟩ := h3 f y hy; ⟨v, k1, dp_ex e k2⟩⟩
/-- the ways out of a statement that lets no exception out -/
structure Ways0 (K : PySem.W.Frag) (fz : Bool) (c : Cn) (O O' Ol : List Nat) (σ : L2.St) (H : Hp) (o : Out) (E : Ends) : Prop where
  nx : ∀ s' σ' H', o = .nx s' → R K c O' s' σ' H' → Fr O σ H O' σ' H' → E.nx σ' H'
  bk : ∀ s' σ' H', o = .bk s' → R K c Ol s' σ' H' → Fr O σ H Ol σ' H' → E.bk σ' H'
  ct : ∀ s' σ' H', o = .ct s' → R K c Ol s' σ' H' → Fr O σ H Ol σ' H' → E.ct σ' H'
  rt : ∀ d s' v H', o = .rt d s' → RtOk K fz c O σ H d s' v H' → E.rt v H'
/-- .. and of one that may: W what is wanted of it -/
structure Ways (K : PySem.W.Frag) (fz : Bool) (c : Cn) (O O' Ol Ox : List Nat) (σ : L2.St) (H : Hp) (o : Out) (E : Ends) (W : WX) : Prop where
  nx : ∀ s' σ' H', o = .nx s' → R K c O' s' σ' H' → Fr O σ H O' σ' H' → E.nx σ' H'
  bk : ∀ s' σ' H', o = .bk s' → R K c Ol s' σ' H' → Fr O σ H Ol σ' H' → E.bk σ' H'
  ct : ∀ s' σ' H', o = .ct s' → R K c Ol s' σ' H' → Fr O σ H Ol σ' H' → E.ct σ' H'
  rt : ∀ d s' v H', o = .rt d s' → RtOk K fz c O σ H d s' v H' → E.rt v H'
  ex : ∀ x s' σ' H' cls d, o = .ex x s' → R K c Ox s' σ' H' → Fr O σ H Ox σ' H' → RX K (hide (c.msk Ox σ') H') cls d x → W cls d σ' H'
theorem Ways.w0 {K : PySem.W.Frag} {fz : Bool} {c : Cn} {O O' Ol Ox : List Nat} {σ : L2.St} {H : Hp} {o : Out} {E : Ends} {W : WX} (w : Ways K fz c O O' Ol Ox σ H o E W) : Ways0 K fz c O O' Ol σ H o E := ⟨w.nx, w.bk, w.ct, w.rt⟩
def SimS0 (K : PySem.W.Frag) (Th : List Nat) (fz : Bool) (O O' Ol : List Nat) (t : TS) (m : MM) : Prop := ∀ (c : Cn), c.Th = Th → ∀ (σ : L2.St) (H : Hp) (s : MS), R K c O s σ H → ∀ o, m s = some o → ∀ E : Ends, Ways0 K fz c O O' Ol σ H o E → t E σ H
def SimS (K : PySem.W.Frag) (Th : List Nat) (fz : Bool) (O O' Ol Ox : List Nat) (t : WX → TS) (m : MM) : Prop := ∀ (c : Cn), c.Th = Th → ∀ (σ : L2.St) (H : Hp) (s : MS), R K c O s σ H → ∀ o, m s = some o → ∀ (E : Ends) (W : WX), Ways K fz c O O' Ol Ox σ H o E W → t W E σ H
/-- a context from which exceptions may go out -/
structure InX (Γ : G) (X : Cx) : Prop where
  g : InG Γ X.nox
  po : PassesOwn (model X.prog X.w) X.A X.env X.xe
  st : X.stack = X.env :: X.outer
  fr : X.env.frame = some X.env.locals
section
variable (Γ : G) (Th : List Nat) (fz : Bool) (O O' Ol : List Nat)
def TrS0 (st : Stmt) (m : MM) : Prop := ∃ t, (∀ X, InG Γ X → PS X st t) ∧ SimS0 Γ.K Th fz O O' Ol t m
def TrS (st : Stmt) (m : MM) : Prop := ∃ t : WX → TS, (∀ X W, InX Γ X → Takes X W → PS X st (t W)) ∧ SimS Γ.K Th fz O O' Ol Γ.ox t m
def TrSs (sts : List Stmt) (m : MM) : Prop := ∃ t : WX → TS, (∀ X W, InX Γ X → Takes X W → PSs X sts (t W)) ∧ SimS Γ.K Th fz O O' Ol Γ.ox t m
end
theorem ps_nox {X : Cx} {st : Stmt} {t : TS} (h : PS X.nox st t) : PS X st t := ⟨fun pins s σ H D I hw =>
  wpAny_mono (h.run pins s σ H D (I.wish _) hw) (fun _ _ q => q.unwish) fun _ _ z => False.elim z⟩
theorem TrS0.up {Γ : G} {Th : List Nat} {fz : Bool} {O O' Ol : List Nat} {st : Stmt} {m : MM} (h : TrS0 Γ Th fz O O' Ol st m) : TrS Γ Th fz O O' Ol st m := by
  obtain ⟨t, p, q⟩ := h
  exact ⟨fun _ => t, fun X W h _ => ps_nox (p _ h.g), fun c hc σ H s r o e E W w => q c hc σ H s r o e E w.w0⟩
def mSkip : MM := fun s => some (.nx s)
def mSeq (a b : MM) : MM := fun s => (a s).bind fun o => match o with
  | .nx s' => b s'
  | o => some o
def mSet (i : Nat) (a : ME) : MM := fun s => (a s).map fun p => .nx (p.2.set i (some p.1))
def mSetF (i : Nat) (a : MF) : MM := fun s => (a s).bind fun p => if i < p.2.length then some (.nx (p.2.set i (some (.list p.1)))) else none
def mAsg (a : ME) (b : D → MS → Option MS) : MM := fun s => (a s).bind fun p => (b p.1 p.2).map .nx
def mPar (i j : Nat) (a : MF) : MM := fun s => (a s).bind fun p => match p.1 with
  | [x, y] => some (.nx ((p.2.set i (some x)).set j (some y)))
  | _ => none
def mIf (c : MT) (a b : MM) : MM := fun s => (c s).bind fun p => if p.1 = true then a p.2 else b p.2
def mRet (a : ME) : MM := fun s => (a s).map fun p => .rt p.1 p.2
def mRetF (a : MF) : MM := fun s => (a s).map fun p => .rt (.list p.1) p.2
def mRetN : MM := fun s => some (.rt .none s)
def mDrop (a : ME) : MM := fun s => (a s).map fun p => .nx p.2
def mBrk : MM := fun s => some (.bk s)
def mCt : MM := fun s => some (.ct s)
def mForget (vs : List Nat) (a : MM) : MM := fun s => (a s).map fun o => match o with
  | .nx s' => .nx (wipeM s' vs)
  | o => o
def forL (b : D → MS → Option MS) (m : MM) : List D → MS → Option Out
  | [], s => some (.nx s)
  | d :: ds, s => (b d s).bind fun s1 => (m s1).bind fun o => match o with
    | .nx s2 => forL b m ds s2
    | .ct s2 => forL b m ds s2
    | .bk s2 => some (.nx s2)
    | .rt d s2 => some (.rt d s2)
    | .ex x s2 => some (.ex x s2)
def mFor (src : MF) (b : D → MS → Option MS) (m : MM) : MM := fun s => (src s).bind fun p => forL b m p.1 p.2
section
variable {Γ : G} {Th : List Nat} {fz : Bool} {O O1 O' Ol L L0 W : List Nat} {st : Stmt} {sts : List Stmt} {e a : Expr} {m m1 m2 : MM} {me ma : ME} {mf ms : MF} {mt : MT} {pos : Pos}
theorem mapNx_of {α β : Type} {f : α → β} {x : Option α} {o : β} (h : x.map f = some o) : ∃ p, x = some p ∧ o = f p := by
  cases x with
  | none => cases h
  | some p => cases h; exact ⟨p, rfl, rfl⟩
theorem bind_of {α β : Type} {f : α → Option β} {x : Option α} {o : β} (h : x.bind f = some o) : ∃ p, x = some p ∧ f p = some o := by
  cases x with
  | none => cases h
  | some p => exact ⟨p, rfl, h⟩
/-- an effect of an expression, seen from the frame -/
theorem Fr.of_ex {σ : L2.St} {H H' : Hp} (hW : ∀ j ∈ W, j ∈ O) (x : Ex (hide (Own W σ) H) (hide (Own W σ) H')) : Fr O σ H O σ H' := ex_wide (own_sub hW) x

theorem sss_nil : TrSs Γ Th fz O O Ol [] mSkip := ⟨fun _ => tNext, fun _ _ _ _ => pss_nil, fun c hc σ H s r o e E W w => by cases e; exact w.nx s σ H rfl r (Fr.refl _ _ _)⟩
theorem sim_seq {K : PySem.W.Frag} {Ox : List Nat} {t u : WX → TS} (h1 : SimS K Th fz O O1 Ol Ox t m1) (h2 : SimS K Th fz O1 O' Ol Ox u m2) : SimS K Th fz O O' Ol Ox (fun W => tSeq (t W) (u W)) (mSeq m1 m2) := fun c hc σ H s r o e E W w => by
  unfold mSeq at e
  obtain ⟨o1, e1, e2⟩ := bind_of e
  refine h1 c hc σ H s r o1 e1 _ W ⟨fun s' σ' H' eo r' f => ?_, fun s' σ' H' eo r' f => ?_, fun s' σ' H' eo r' f => ?_, fun d s' v H' eo rt => ?_, fun x s' σ' H' cls d eo r' f rx => ?_⟩
  · subst eo
    exact h2 c hc σ' H' s' r' o e2 E W ⟨fun s2 σ2 H2 eo r2 f2 => w.nx s2 σ2 H2 eo r2 (f.trans f2), fun s2 σ2 H2 eo r2 f2 => w.bk s2 σ2 H2 eo r2 (f.trans f2), fun s2 σ2 H2 eo r2 f2 => w.ct s2 σ2 H2 eo r2 (f.trans f2), fun d s2 v H2 eo rt => w.rt d s2 v H2 eo (rt.ahead f), fun x s2 σ2 H2 cls d eo r2 f2 rx => w.ex x s2 σ2 H2 cls d eo r2 (f.trans f2) rx⟩
  · subst eo
    cases e2
    exact w.bk s' σ' H' rfl r' f
  · subst eo
    cases e2
    exact w.ct s' σ' H' rfl r' f
  · subst eo
    cases e2
    exact w.rt d s' v H' rfl rt
  · subst eo
    cases e2
    exact w.ex x s' σ' H' cls d rfl r' f rx
theorem sss_cons (h1 : TrS Γ Th fz O O1 Ol st m1) (h2 : TrSs Γ Th fz O1 O' Ol sts m2) : TrSs Γ Th fz O O' Ol (st :: sts) (mSeq m1 m2) := by
  obtain ⟨t, p, q⟩ := h1
  obtain ⟨u, p2, q2⟩ := h2
  exact ⟨fun W => tSeq (t W) (u W), fun X W h k => pss_cons (p X W h k) (p2 X W h k), sim_seq q q2⟩
theorem sss_one (h1 : TrS Γ Th fz O O' Ol st m1) : TrSs Γ Th fz O O' Ol [st] m1 := by
  obtain ⟨t, p, q⟩ := h1
  exact ⟨t, fun X W h k => pss_one (p X W h k), q⟩
theorem wipeR2 {K : PySem.W.Frag} {c : Cn} {s : MS} {σ : L2.St} {H : Hp} (r : R K c O s σ H) : ∀ vs : List Nat, (∀ j ∈ vs, j ∉ O) → R K c O (wipeM s vs) σ H
  | [], _ => r
  | v :: vs, h => by
    unfold wipeM
    exact (wipeR2 r vs fun j hj => h j (List.mem_cons_of_mem _ hj)).forget (h v List.mem_cons_self)
theorem sim_forget {K : PySem.W.Frag} {Ox : List Nat} {t : WX → TS} (vs : List Nat) (h : SimS K Th fz O O' Ol Ox t m) (hv : ∀ j ∈ vs, j ∉ O') : SimS K Th fz O O' Ol Ox t (mForget vs m) := fun c hc σ H s r o e E W w => by
  unfold mForget at e
  obtain ⟨o1, e1, rfl⟩ := mapNx_of e
  refine h c hc σ H s r o1 e1 E W ⟨fun s' σ' H' eo r' f => ?_, fun s' σ' H' eo r' f => ?_, fun s' σ' H' eo r' f => ?_, fun d s' v H' eo rt => ?_, fun x s' σ' H' cls d eo r' f rx => ?_⟩
  · subst eo
    exact w.nx _ σ' H' rfl (wipeR2 r' vs hv) f
  · subst eo; exact w.bk s' σ' H' rfl r' f
  · subst eo; exact w.ct s' σ' H' rfl r' f
  · subst eo; exact w.rt d s' v H' rfl rt
  · subst eo; exact w.ex x s' σ' H' cls d rfl r' f rx
theorem sss_forget (vs : List Nat) (h : TrSs Γ Th fz O O' Ol sts m) (hv : ∀ j ∈ vs, j ∉ O') : TrSs Γ Th fz O O' Ol sts (mForget vs m) := by
  obtain ⟨t, p, q⟩ := h
  exact ⟨t, p, sim_forget vs q hv⟩
theorem Ways.after {K : PySem.W.Frag} {Ox : List Nat} {c : Cn} {σ σ1 : L2.St} {H H1 : Hp} {o : Out} {E : Ends} {W : WX} (f : Fr O σ H O1 σ1 H1) (w : Ways K fz c O O' Ol Ox σ H o E W) : Ways K fz c O1 O' Ol Ox σ1 H1 o E W :=
  ⟨fun s2 σ2 H2 eo r2 f2 => w.nx s2 σ2 H2 eo r2 (f.trans f2), fun s2 σ2 H2 eo r2 f2 => w.bk s2 σ2 H2 eo r2 (f.trans f2), fun s2 σ2 H2 eo r2 f2 => w.ct s2 σ2 H2 eo r2 (f.trans f2), fun d s2 v H2 eo rt => w.rt d s2 v H2 eo (rt.ahead f), fun x s2 σ2 H2 cls d eo r2 f2 rx => w.ex x s2 σ2 H2 cls d eo r2 (f.trans f2) rx⟩
/-- slots are let go -/
theorem sss_free (h : TrSs Γ Th fz L O' Ol sts m) (hL : ∀ j ∈ L, j ∈ O) (hT : ∀ j ∈ Th, j ∈ L) : TrSs Γ Th fz O O' Ol sts m := by
  obtain ⟨t, p, q⟩ := h
  refine ⟨t, p, fun c hc σ H s r o e E W w => ?_⟩
  obtain ⟨r1, x1⟩ := r.free hL (by rw [hc]; exact hT)
  exact q c hc σ H s r1 o e E W (w.after x1)
theorem sss_out (h : TrSs Γ Th fz O O1 Ol sts m) (hL : ∀ j ∈ O', j ∈ O1) (hT : ∀ j ∈ Th, j ∈ O') : TrSs Γ Th fz O O' Ol sts m := by
  obtain ⟨t, p, q⟩ := h
  refine ⟨t, p, fun c hc σ H s r o e E W w => q c hc σ H s r o e E W ⟨fun s2 σ2 H2 eo r2 f2 => ?_, w.bk, w.ct, w.rt, w.ex⟩⟩
  obtain ⟨r1, x1⟩ := r2.free hL (by rw [hc]; exact hT)
  exact w.nx s2 σ2 H2 eo r1 (Fr.trans f2 x1)

/-! ### stores -/
theorem setR {K : PySem.W.Frag} {c : Cn} {s : MS} {σ : L2.St} {H : Hp} {i : Nat} {v : V} {d : D} (r : R K c O s σ H) (hd : Rp K (hide (c.msk O σ) H) v d) (ht : i ∉ c.Th) (hO : ∀ j ∈ O', j ∈ O.filter (· ≠ i)) (hT : ∀ j ∈ c.Th, j ∈ O') :
    R K c O' (s.set i (some d)) (σ.set i (some v)) H ∧ Fr O σ H O' (σ.set i (some v)) H := by
  by_cases hl : i < σ.length
  · obtain ⟨r1, x1⟩ := r.set hd ht hl
    obtain ⟨r2, x2⟩ := r1.free hO hT
    exact ⟨r2, x1.trans x2⟩
  · have e1 : s.set i (some d) = s := List.set_eq_of_length_le (by rw [r.len]; omega)
    have e2 : σ.set i (some v) = σ := List.set_eq_of_length_le (by omega)
    rw [e1, e2]
    exact r.free (fun j hj => (List.mem_filter.mp (hO j hj)).1) hT
theorem ss_set {i : Nat} {x : Str} {p2 : Pos} (hN : Γ.N[i]? = some x) (hv : locB Γ x = true) (he : TrE Γ O O W e me) (ht : i ∉ Th) (hO : ∀ j ∈ O', j ∈ O.filter (· ≠ i)) (hT : ∀ j ∈ Th, j ∈ O') (hW : ∀ j ∈ W, j ∈ O) (hs : ∀ env : Env, swapsWith e (some (.Name x p2)) pos.line env = pure false := by intro _; rfl) :
    TrS Γ Th fz O O' Ol (.Assign [.Name x p2] e pos) (mSet i me) := TrS0.up <| by
  obtain ⟨t, p, q⟩ := he
  refine ⟨tAsg t (gName i), fun X h => ps_set h.ndX (h.nx hN) (h.loc hv).1 (p X h) (hs X.env) (h.loc hv).2, fun c hc σ H s r o e E w => ?_⟩
  unfold mSet at e
  obtain ⟨pr, e1, rfl⟩ := mapNx_of e
  refine q c σ H s r _ _ e1 _ fun v H1 r1 x1 d1 => ?_
  obtain ⟨r2, x2⟩ := setR r1 d1 (by rw [hc]; exact ht) hO (by rw [hc]; exact hT)
  exact w.nx _ _ H1 rfl r2 ((Fr.of_ex hW x1).trans x2)
theorem setOwnR {K : PySem.W.Frag} {c : Cn} {s : MS} {σ : L2.St} {H' : Hp} {i : Nat} {p : Addr} {vs : List V} {ds : List D} (r : R K c O s σ (hide (· = p) H')) (hp : H' p = some (.lst vs)) (hd : RpAll K (hide (c.msk O σ) (hide (· = p) H')) vs ds) (ht : i ∉ c.Th) (hi : i < σ.length) (hO : ∀ j ∈ O', j ∈ i :: O.filter (· ≠ i)) (hT : ∀ j ∈ c.Th, j ∈ O') :
    R K c O' (s.set i (some (.list ds))) (σ.set i (some (.ref p))) H' ∧ Fr O σ (hide (· = p) H') O' (σ.set i (some (.ref p))) H' := by
  obtain ⟨r1, x1⟩ := r.setOwn hp hd ht hi
  obtain ⟨r2, x2⟩ := r1.free hO hT
  exact ⟨r2, x1.trans x2⟩
/-- a frame of that scope -/
def envS (sc : Scope) : Env := { scope := sc, locals := 0, globals := 0, cells := [], qual := "", func := none, code := .none, frame := none, builtins := 0 }
theorem swaps_sc {env env' : Env} {v : Expr} {o : Option Expr} {l : Nat} (h : env.scope = env'.scope) : swapsWith v o l env = swapsWith v o l env' := by
  unfold swapsWith Env.blockKind Env.kindOf
  rw [h]
theorem swapped_sc {env env' : Env} {ts : List Expr} {v : Expr} (h : env.scope = env'.scope) : swappedStores ts v env = swappedStores ts v env' := by
  unfold swappedStores Env.blockKind Env.kindOf
  rw [h]
theorem simF_set {K : PySem.W.Frag} {t : TE} {i : Nat} (q : SimF K O O W t mf) (ht : i ∉ Th) (hO : ∀ j ∈ O', j ∈ i :: O.filter (· ≠ i)) (hT : ∀ j ∈ Th, j ∈ O') (hW : ∀ j ∈ W, j ∈ O) : SimS0 K Th fz O O' Ol (tAsg t (gName i)) (mSetF i mf) := fun c hc σ H s r o e E w => by
  unfold mSetF at e
  obtain ⟨pr, e1, e2⟩ := bind_of e
  split at e2
  · rename_i hl
    cases e2
    refine q c σ H s r _ _ e1 _ fun p vs H1 hp r1 x1 h1 d1 => ?_
    obtain ⟨r2, x2⟩ := setOwnR r1 h1 d1 (by rw [hc]; exact ht) (by rw [← r1.len]; exact hl) hO (by rw [hc]; exact hT)
    exact w.nx _ _ H1 rfl r2 ((Fr.of_ex hW x1).trans x2)
  · cases e2
/-- a slot takes a new list, and owns it -/
theorem ss_setF {i : Nat} {x : Str} {p2 : Pos} (hN : Γ.N[i]? = some x) (hv : locB Γ x = true) (he : TrF Γ O O W e mf) (ht : i ∉ Th) (hO : ∀ j ∈ O', j ∈ i :: O.filter (· ≠ i)) (hT : ∀ j ∈ Th, j ∈ O') (hW : ∀ j ∈ W, j ∈ O) (hs : swapsWith e (some (.Name x p2)) pos.line (envS Γ.sc) = pure false := by rfl) :
    TrS Γ Th fz O O' Ol (.Assign [.Name x p2] e pos) (mSetF i mf) := TrS0.up <| by
  obtain ⟨t, p, q⟩ := he
  exact ⟨tAsg t (gName i), fun X h => ps_set h.ndX (h.nx hN) (h.loc hv).1 (p X h) ((swaps_sc (h.sc.trans rfl)).trans hs) (h.loc hv).2, simF_set q ht hO hT hW⟩
/-- .. and keeps it unowned -/
theorem ss_setFu {i : Nat} {x : Str} {p2 : Pos} (hN : Γ.N[i]? = some x) (hv : locB Γ x = true) (he : TrF Γ O O W e mf) (ht : i ∉ Th) (hO : ∀ j ∈ O', j ∈ O.filter (· ≠ i)) (hT : ∀ j ∈ Th, j ∈ O') (hW : ∀ j ∈ W, j ∈ O) (hs : swapsWith e (some (.Name x p2)) pos.line (envS Γ.sc) = pure false := by rfl) :
    TrS Γ Th fz O O' Ol (.Assign [.Name x p2] e pos) (mSet i (xLst mf)) := TrS0.up <| by
  obtain ⟨t, p, q⟩ := tr_F (fun _ z => z) he
  refine ⟨tAsg t (gName i), fun X h => ps_set h.ndX (h.nx hN) (h.loc hv).1 (p X h) ((swaps_sc (h.sc.trans rfl)).trans hs) (h.loc hv).2, fun c hc σ H s r o e E w => ?_⟩
  unfold mSet at e
  obtain ⟨pr, e1, rfl⟩ := mapNx_of e
  refine q c σ H s r _ _ e1 _ fun v H1 r1 x1 d1 => ?_
  obtain ⟨r2, x2⟩ := setR r1 d1 (by rw [hc]; exact ht) hO (by rw [hc]; exact hT)
  exact w.nx _ _ H1 rfl r2 ((Fr.of_ex hW x1).trans x2)
section
variable {vs : List Nat} {elt tg iter : Expr} {ifs : List Expr} {scope : Scope} {msrc : MF} {b : D → MS → Option MS}
/-- y = [..] on one line, y a local: the comprehension itself, for ps_setLc -/
theorem setLc_t {i : Nat} {y : Str} {py lpos : Pos} (own : List (Str × Nat)) (hN : Γ.N[i]? = some y) (hyl : Γ.sc.names.lookup y = some .local) (hsw : swapsWith (.ListComp elt [⟨tg, iter, ifs, 0⟩] scope lpos) (some (.Name y py)) pos.line (envS Γ.sc) = pure true)
    (hi : TrI Γ O W tg iter msrc) (ok : blkC Γ.N Γ.sc scope own = true) (hg : TrG (Γ.blk scope) O (own.map (·.2)) tg b) (ht : TrTs (Γ.blk scope) O W ifs mt) (he : TrE (Γ.blk scope) O O W elt me)
    (hv : ∀ j ∈ O, j ∉ own.map (·.2)) (hW : ∀ j ∈ W, j ∈ O) (hs : ∀ (env : Env) x, foldedSetIterable iter env x = pure x := by intro _ _; rfl) (hcm : Γ.calm = true := by rfl) :
    ∃ t : TE, (∀ X, InG Γ X → PS X (.Assign [.Name y py] (.ListComp elt [⟨tg, iter, ifs, 0⟩] scope lpos) pos) (tAsg t (gName i))) ∧ SimF Γ.K O O W t (xLc msrc (own.map (·.2)) b mt me) := by
  obtain ⟨wi, pi, si⟩ := hi
  obtain ⟨g, pg, sg⟩ := hg
  obtain ⟨t, pt, st⟩ := ht
  obtain ⟨te, pe, se⟩ := he
  exact ⟨tLc wi g t te (own.map (·.2)), fun X h => ps_setLc (h.cm hcm) h.ndX (h.nx hN) (by rw [h.sc]; exact hyl) ((swaps_sc (h.sc.trans rfl)).trans hsw) (pi X h) (by rw [h.N, h.sc]; exact blkOk_by ok) (fun s H C cl fp => pg _ (h.blk scope s H C cl fp)) (fun s H C cl fp => pt _ (h.blk scope s H C cl fp)) (fun s H C cl fp => pe _ (h.blk scope s H C cl fp)) (hs X.env), sim_lc si sg st se hv hW (fun _ z => z)⟩
theorem ss_lc {i : Nat} {y : Str} {py lpos : Pos} (h : ∃ t : TE, (∀ X, InG Γ X → PS X (.Assign [.Name y py] (.ListComp elt [⟨tg, iter, ifs, 0⟩] scope lpos) pos) (tAsg t (gName i))) ∧ SimF Γ.K O O W t mf) (ht : i ∉ Th) (hO : ∀ j ∈ O', j ∈ i :: O.filter (· ≠ i)) (hT : ∀ j ∈ Th, j ∈ O') (hW : ∀ j ∈ W, j ∈ O) :
    TrS Γ Th fz O O' Ol (.Assign [.Name y py] (.ListComp elt [⟨tg, iter, ifs, 0⟩] scope lpos) pos) (mSetF i mf) := TrS0.up <| by
  obtain ⟨t, p, q⟩ := h
  exact ⟨tAsg t (gName i), p, simF_set q ht hO hT hW⟩
theorem ss_lcu {i : Nat} {y : Str} {py lpos : Pos} (h : ∃ t : TE, (∀ X, InG Γ X → PS X (.Assign [.Name y py] (.ListComp elt [⟨tg, iter, ifs, 0⟩] scope lpos) pos) (tAsg t (gName i))) ∧ SimF Γ.K O O W t mf) (ht : i ∉ Th) (hO : ∀ j ∈ O', j ∈ O.filter (· ≠ i)) (hT : ∀ j ∈ Th, j ∈ O') (hW : ∀ j ∈ W, j ∈ O) :
    TrS Γ Th fz O O' Ol (.Assign [.Name y py] (.ListComp elt [⟨tg, iter, ifs, 0⟩] scope lpos) pos) (mSet i (xLst mf)) := TrS0.up <| by
  obtain ⟨t, p, q⟩ := h
  refine ⟨tAsg t (gName i), p, fun c hc σ H s r o e E w => ?_⟩
  unfold mSet at e
  obtain ⟨pr, e1, rfl⟩ := mapNx_of e
  refine q.toE (fun _ z => z) c σ H s r _ _ e1 _ fun v H1 r1 x1 d1 => ?_
  obtain ⟨r2, x2⟩ := setR r1 d1 (by rw [hc]; exact ht) hO (by rw [hc]; exact hT)
  exact w.nx _ _ H1 rfl r2 ((Fr.of_ex hW x1).trans x2)
end
/-- a tuple parted, or any target that is not owned -/
theorem ss_asg {tg : Expr} {vs : List Nat} {b : D → MS → Option MS} (he : TrE Γ O O W e me) (hg : TrG Γ O vs tg b) (hv : ∀ j ∈ O, j ∉ vs) (hW : ∀ j ∈ W, j ∈ O) (hs : swapsWithSole [tg] e pos.line (envS Γ.sc) = pure false := by rfl) (hw : swappedStores [tg] e (envS Γ.sc) = pure none := by rfl)
    (h1 : ∀ env : Env, (assignEach [tg] env).map (·.2) = [assign tg env] := by intro _; rfl) : TrS Γ Th fz O O Ol (.Assign [tg] e pos) (mAsg me b) := TrS0.up <| by
  obtain ⟨t, p, q⟩ := he
  obtain ⟨g, pg, sg⟩ := hg
  refine ⟨tAsg t g, fun X h => ps_asg (p X h) (pg X h) ((swaps_sc (h.sc.trans rfl)).trans hs) ((swapped_sc (h.sc.trans rfl)).trans hw) (h1 X.env), fun c hc σ H s r o e E w => ?_⟩
  unfold mAsg at e
  obtain ⟨pr, e1, e2⟩ := bind_of e
  obtain ⟨s2, e3, rfl⟩ := mapNx_of e2
  refine q c σ H s r _ _ e1 _ fun v H1 r1 x1 d1 => ?_
  refine sg c σ H1 _ v _ r1 d1 s2 e3 _ fun σ2 r2 o2 => ?_
  refine w.nx _ _ H1 rfl r2 ((Fr.of_ex hW x1).trans ?_)
  unfold Fr
  rw [o2.own hv]
  exact Ex.refl _
/-- a, b = x, y: two locals at once -/
theorem ss_par {i j : Nat} {x y : Str} {a b : Expr} {px py pt : Pos} {kt k2 : Nat} {pt2 : Pos} (hN : Γ.N[i]? = some x) (hN2 : Γ.N[j]? = some y) (hij : i ≠ j) (hx : Γ.sc.names.lookup x = some .local) (hy : Γ.sc.names.lookup y = some .local) (ha : TrA Γ O O W [a, b] mf)
    (ht : i ∉ Th) (ht2 : j ∉ Th) (hO : ∀ k ∈ O', k ∈ (O.filter (· ≠ i)).filter (· ≠ j)) (hT : ∀ k ∈ Th, k ∈ O') (hW : ∀ j ∈ W, j ∈ O)
    (hw : swappedStores [.Tuple [.Name x px, .Name y py] kt pt] (.Tuple [a, b] k2 pt2) (envS Γ.sc) = pure (some [x, y]) := by rfl) (hcm : Γ.calm = true := by rfl) : TrS Γ Th fz O O' Ol (.Assign [.Tuple [.Name x px, .Name y py] kt pt] (.Tuple [a, b] k2 pt2) pos) (mPar i j mf) := TrS0.up <| by
  obtain ⟨t, p, q⟩ := ha
  refine ⟨tPar i j t, fun X h => ps_par (h.cm hcm) h.ndX (h.nx hN) (h.nx hN2) hij (by rw [h.sc]; exact hx) (by rw [h.sc]; exact hy) (p X h) ((swapped_sc (h.sc.trans rfl)).trans hw), fun c hc σ H s r o e E w => ?_⟩
  unfold mPar at e
  obtain ⟨pr, e1, e2⟩ := bind_of e
  split at e2
  · rename_i d1 d2 ed
    cases e2
    refine q c σ H s r _ _ e1 _ fun vs H1 r1 x1 dd => ?_
    rw [ed] at dd
    cases dd with
    | cons h1 dd =>
      cases dd with
      | cons h2 dd =>
        cases dd
        have hT1 : ∀ k ∈ c.Th, k ∈ O.filter (· ≠ i) := fun k hk => (List.mem_filter.mp (hO k (hT k (by rw [← hc]; exact hk)))).1
        obtain ⟨r2, x2⟩ := setR (O' := O.filter (· ≠ i)) r1 h1 (by rw [hc]; exact ht) (fun _ z => z) hT1
        obtain ⟨r3, x3⟩ := setR (O' := O') r2 (dp_ex (fun a u z => by
          obtain ⟨n, z⟩ := of_hide z
          exact hide_of (fun y => y.elim (fun y => n (.inl y)) fun y => (of_hide (x2 a u (hide_of (fun k => n (.inr k)) z))).1 y) z) h2) (by rw [hc]; exact ht2) hO (by rw [hc]; exact hT)
        exact ⟨_, _, rfl, w.nx _ _ H1 rfl r3 (((Fr.of_ex hW x1).trans x2).trans x3)⟩
  · cases e2
end
end Z


namespace Z
open PySem PySem.Spec PyProof.Rows L2
section
variable {Γ : G} {Th : List Nat} {fz : Bool} {O O1 O' Ol L L0 W : List Nat} {st : Stmt} {sts sts2 : List Stmt} {e a : Expr} {m m1 m2 : MM} {me ma : ME} {mf ms : MF} {mt : MT} {pos : Pos}

/-! ### if, pass, break, continue, dropped values -/
theorem pg_nox {X : Cx} {tg : Expr} {g : TG} (h : PG X.nox tg g) : PG X tg g := ⟨fun pins s σ H v u Q I r hw =>
  wpAny_mono (h.run pins s σ H v u Q (I.wish _) r hw) (fun _ _ ⟨σ', H', I', q⟩ => ⟨σ', H', I'.unwish, q⟩) fun _ _ z => False.elim z⟩
theorem pi_nox {X : Cx} {tg it : Expr} {wi : TI} (h : PI X.nox tg it wi) : PI X tg it wi := ⟨fun pins s σ H R I hw =>
  wpAny_mono (h.run pins s σ H R (I.wish _) hw) (fun _ _ q => wpAny_mono q (fun _ _ ⟨a, fp, tn, J, H', e, I', T, k, f, r⟩ => ⟨a, fp, tn, J, H', e, I'.unwish, T, k, f, r⟩) fun _ _ z => False.elim z) fun _ _ z => False.elim z⟩
theorem ss_if (hc : TrT Γ O W e mt) (ha : TrSs Γ Th fz O O' Ol sts m1) (hb : TrSs Γ Th fz O O' Ol sts2 m2) (hW : ∀ j ∈ W, j ∈ O) : TrS Γ Th fz O O' Ol (.If e sts sts2 pos) (mIf mt m1 m2) := by
  obtain ⟨t, p, q⟩ := hc
  obtain ⟨u, p2, q2⟩ := ha
  obtain ⟨v, p3, q3⟩ := hb
  refine ⟨fun W => tIfS t (u W) (v W), fun X W h k => ps_if (p _ h.g).nox (p2 X W h k) (p3 X W h k), fun c hc σ H s r o e E W w => ?_⟩
  unfold mIf at e
  obtain ⟨⟨k, s1⟩, e1, e2⟩ := bind_of e
  refine q c σ H s r _ _ e1 _ fun H1 r1 x1 => ?_
  cases k with
  | true =>
    rw [if_pos rfl] at e2 ⊢
    exact q2 c hc σ H1 s1 r1 o e2 E W (w.after (Fr.of_ex hW x1))
  | false =>
    rw [if_neg Bool.false_ne_true] at e2 ⊢
    exact q3 c hc σ H1 s1 r1 o e2 E W (w.after (Fr.of_ex hW x1))
theorem ss_pass : TrS Γ Th fz O O Ol (.Pass pos) mSkip := TrS0.up ⟨tNext, fun _ _ => ps_pass, fun c hc σ H s r o e E w => by cases e; exact w.nx s σ H rfl r (Fr.refl _ _ _)⟩
theorem ss_break (hL : ∀ j ∈ Ol, j ∈ O) (hT : ∀ j ∈ Th, j ∈ Ol) : TrS Γ Th fz O O' Ol (.Break pos) mBrk := TrS0.up ⟨tBreak, fun _ _ => ps_break, fun c hc σ H s r o e E w => by
  cases e
  obtain ⟨r1, x1⟩ := r.free hL (by rw [hc]; exact hT)
  exact w.bk s σ H rfl r1 x1⟩
theorem ss_continue (hL : ∀ j ∈ Ol, j ∈ O) (hT : ∀ j ∈ Th, j ∈ Ol) : TrS Γ Th fz O O' Ol (.Continue pos) mCt := TrS0.up ⟨tCont, fun _ _ => ps_continue, fun c hc σ H s r o e E w => by
  cases e
  obtain ⟨r1, x1⟩ := r.free hL (by rw [hc]; exact hT)
  exact w.ct s σ H rfl r1 x1⟩
theorem ss_expr (h : TrE Γ O L W e me) (hW : ∀ j ∈ W, j ∈ O) (hs : ∀ env : Env, swapsWith e none pos.line env = pure false := by intro _; rfl) : TrS Γ Th fz O O Ol (.Expr e pos) (mDrop me) := TrS0.up <| by
  obtain ⟨t, p, q⟩ := h
  refine ⟨tDrop t, fun X h => ps_expr (p X h) (hs X.env), fun c hc σ H s r o e E w => ?_⟩
  unfold mDrop at e
  obtain ⟨pr, e1, rfl⟩ := mapNx_of e
  exact q c σ H s r _ _ e1 _ fun v H1 r1 x1 d1 => w.nx _ σ H1 rfl r1 (Fr.of_ex hW x1)

/-! ### return -/
theorem th_ret {K : PySem.W.Frag} {c : Cn} {s : MS} {σ : L2.St} {H : Hp} (r : R K c O s σ H) : Own c.Th σ = c.T := by
  funext a
  refine propext ⟨fun ⟨i, hi, e⟩ => ⟨i, hi, by rw [← (r.th i hi).2]; exact e⟩, fun ⟨i, hi, e⟩ => ⟨i, hi, by rw [(r.th i hi).2]; exact e⟩⟩
theorem rt_th {K : PySem.W.Frag} {c : Cn} {s : MS} {σ : L2.St} {H : Hp} (r : R K c O s σ H) : ∀ i : Nat, i ∈ c.Th → ∃ (p : Addr) (vs : List V) (ds : List D), c.τ[i]? = some (some (.ref p)) ∧ s[i]? = some (some (.list ds)) ∧ H p = some (.lst vs) ∧ RpAll K (hide (fun a => c.C a ∨ c.T a) H) vs ds := fun i hi => by
  obtain ⟨h0, h1⟩ := r.th i hi
  obtain ⟨p, vs, ds, k1, k2, k3, k4, k5⟩ := r.ow i h0
  refine ⟨p, vs, ds, by rw [← h1]; exact k1, k2, k3, dpa_ex (ex_hide_sub fun a z => ?_) k4⟩
  rcases z with z | z
  · exact .inl z
  · rw [← th_ret r] at z
    exact .inr (own_sub (fun j hj => (r.th j hj).1) a z)
theorem rt_ex {K : PySem.W.Frag} {c : Cn} {s : MS} {σ : L2.St} {H H1 : Hp} (r : R K c O s σ H1) (hW : ∀ j ∈ W, j ∈ O) (x : Ex (hide (Own W σ) H) (hide (Own W σ) H1)) : Ex (hide (Own O σ) H) (hide c.T H1) := fun a u z => by
  have := ex_wide (own_sub hW) x a u z
  obtain ⟨n, z⟩ := of_hide this
  refine hide_of (fun y => ?_) z
  rw [← th_ret r] at y
  exact n (own_sub (fun j hj => (r.th j hj).1) a y)
theorem msk_th {K : PySem.W.Frag} {c : Cn} {s : MS} {σ : L2.St} {H : Hp} (r : R K c O s σ H) : c.msk c.Th σ = fun a => c.C a ∨ c.T a := by
  unfold Cn.msk
  rw [th_ret r]
theorem ss_ret (h : TrE Γ O Th W e me) (hW : ∀ j ∈ W, j ∈ O) : TrS Γ Th false O O' Ol (.Return (some e) pos) (mRet me) := TrS0.up <| by
  obtain ⟨t, p, q⟩ := h
  refine ⟨tRet t, fun X h => ps_ret (p X h), fun c hc σ H s r o e E w => ?_⟩
  unfold mRet at e
  obtain ⟨pr, e1, rfl⟩ := mapNx_of e
  refine q c σ H s r _ _ e1 _ fun v H1 r1 x1 d1 => w.rt _ _ v H1 rfl ⟨rt_ex r1 hW x1, rt_th r1, ?_, fun z => Bool.noConfusion z⟩
  rw [← hc, msk_th r1] at d1
  exact d1
theorem ss_retN : TrS Γ Th false O O' Ol (.Return none pos) mRetN := TrS0.up ⟨tRetN, fun _ _ => ps_retN, fun c hc σ H s r o e E w => by
  cases e
  exact w.rt _ _ .non H rfl ⟨rt_ex (W := []) r (fun _ z => nomatch z) (Ex.refl _), rt_th r, .non, fun z => Bool.noConfusion z⟩⟩
/-- a new list is returned -/
theorem ss_retF (h : TrF Γ O Th W e mf) (hW : ∀ j ∈ W, j ∈ O) : TrS Γ Th fz O O' Ol (.Return (some e) pos) (mRetF mf) := TrS0.up <| by
  obtain ⟨t, p, q⟩ := h
  refine ⟨tRet t, fun X h => ps_ret (p X h), fun c hc σ H s r o e E w => ?_⟩
  unfold mRetF at e
  obtain ⟨pr, e1, rfl⟩ := mapNx_of e
  refine q c σ H s r _ _ e1 _ fun p vs H1 hp r1 x1 h1 d1 => ?_
  have r2 := r1.ex ex_hide0
  have nt : ¬ c.T p := fun z => by
    rw [← th_ret r1] at z
    obtain ⟨i, hi, z⟩ := z
    obtain ⟨p', vs', _, k1, _, k3, _⟩ := r1.ow i (r1.th i hi).1
    rw [z] at k1
    cases k1
    exact (of_hide k3).1 rfl
  have nc : ¬ c.C p := fun z => by
    obtain ⟨u, k⟩ := r1.cs p z
    exact (of_hide k).1 rfl
  rw [← hc, msk_th r1] at d1
  refine w.rt _ _ _ H1 rfl ⟨rt_ex r2 hW (x1.trans (ex_hide ex_hide0)), rt_th r2, .lst (.inl (.inl (hide_of (fun z => z.elim nc nt) h1))) (dpa_ex (ex_hide ex_hide0) d1), fun _ => ⟨p, vs, _, rfl, rfl, ?_, nt, nc, h1, dpa_ex (fun a u z => ?_) d1⟩⟩
  · cases k : hide (Own O σ) H p with
    | none => rfl
    | some u => rw [(of_hide k).2] at hp; cases hp
  · obtain ⟨n, z⟩ := of_hide z
    obtain ⟨n2, z⟩ := of_hide z
    exact hide_of (fun y => y.elim n n2) z
/-- an owned list is returned -/
theorem ss_retO {i : Nat} {x : Str} {p2 : Pos} (hN : Γ.N[i]? = some x) (hv : visB Γ.sc x = true) (hi : i ∈ O) (ht : i ∉ Th) (hd : (x == ("__debug__" : Str)) = false := by decide) (hcd : (x == ("__classdict__" : Str)) = false := by decide) : TrS Γ Th fz O O' Ol (.Return (some (.Name x p2)) pos) (mRet (xLst (xOwn i))) := TrS0.up <| by
  refine ⟨tRet (tVar i), fun X h => ps_ret (pe_var (h.nx hN) (h.vis hv) hd hcd), fun c hc σ H s r o e E w => ?_⟩
  unfold mRet at e
  obtain ⟨pr, e1, rfl⟩ := mapNx_of e
  unfold xLst at e1
  obtain ⟨⟨ds, s1⟩, e2, rfl⟩ := mapNx_of e1
  obtain ⟨e3, rfl⟩ := xOwn_of e2
  obtain ⟨p, vs, ds', h1, h2, h3, h4, h5⟩ := r.ow i hi
  rw [h2] at e3
  cases e3
  have nt : ¬ c.T p := fun ⟨j, hj, z⟩ => by
    obtain ⟨k1, k2⟩ := r.th j hj
    rw [← k2] at z
    have := r.nd i j p hi k1 h1 z
    subst this
    rw [hc] at hj
    exact ht hj
  have sub : ∀ a, ((c.C a ∨ c.T a) ∨ a = p) → c.msk O σ a := fun a z => by
    rcases z with (z | z) | z
    · exact .inl z
    · rw [← th_ret r] at z
      exact .inr (own_sub (fun j hj => (r.th j hj).1) a z)
    · rw [z]; exact .inr ⟨i, hi, h1⟩
  refine ⟨.ref p, h1, w.rt _ _ (.ref p) H rfl ⟨rt_ex (W := []) r (fun _ z => nomatch z) (Ex.refl _), rt_th r, .lst (.inl (.inl (hide_of (fun z => z.elim h5 nt) h3))) (dpa_ex (ex_hide_sub fun a z => sub a (.inl z)) h4), fun _ => ⟨p, vs, _, rfl, rfl, hide_no ⟨i, hi, h1⟩, nt, h5, h3, dpa_ex (ex_hide_sub sub) h4⟩⟩⟩

/-! ### for -/
theorem ss_for {tg iter : Expr} {vs : List Nat} {b : D → MS → Option MS} (hi : TrI Γ O W tg iter ms) (hg : TrG Γ O vs tg b) (hb : TrSs Γ Th fz O O O sts m) (hv : ∀ j ∈ O, j ∉ vs) (hW : ∀ j ∈ W, j ∈ O) (hs : ∀ (env : Env) x, foldedSetIterable iter env x = pure x := by intro _ _; rfl) (hcm : Γ.calm = true := by rfl) :
    TrS Γ Th fz O O Ol (.For tg iter sts [] pos) (mFor ms b m) := by
  obtain ⟨wi, pi, si⟩ := hi
  obtain ⟨g, pg, sg⟩ := hg
  obtain ⟨t, pb, sb⟩ := hb
  refine ⟨fun W => tFor wi g (t W), fun X W h k => ps_for h.po (h.g.cm hcm) (pi_nox (pi _ h.g)) (pg_nox (pg _ h.g)) (pb X W h k) (hs X.env), fun c hc σ H s r o e E W w => ?_⟩
  unfold mFor at e
  obtain ⟨⟨xs, s1⟩, e1, e2⟩ := bind_of e
  refine si c σ H s r _ _ e1 _ fun J H1 r1 x1 it => ?_
  have f1 : Fr O σ H O σ H1 := Fr.of_ex hW x1
  let Pv : Nat → L2.St → Hp → Prop := fun i σ' H' => ∃ si : MS, R Γ.K c O si σ' H' ∧ Fr O σ H1 O σ' H' ∧ forL b m (xs.drop i) si = some o
  refine ⟨fun i k σ' H' => k = xs.length - i ∧ i ≤ xs.length ∧ Pv i σ' H', ⟨xs.length, by simp, Nat.zero_le _, s1, r1, Fr.refl _ _ _, e2⟩, ?_⟩
  rintro i k σ' H' ⟨rfl, hile, si, ri, fi, run⟩
  have exm : Ex (hide (c.msk O σ) H1) (hide (c.msk O σ') H') := fun a u z => by
    obtain ⟨n, z⟩ := of_hide z
    obtain ⟨n2, z2⟩ := of_hide (fi a u (hide_of (fun y => n (.inr y)) z))
    exact hide_of (fun y => y.elim (fun y => n (.inl y)) n2) z2
  obtain ⟨itgo, itstop⟩ := it i c σ' H' exm (msk_there ri fun _ z => z)
  by_cases hlt : i < xs.length
  · obtain ⟨d, hd⟩ : ∃ d, xs[i]? = some d := ⟨xs[i], List.getElem?_eq_getElem hlt⟩
    obtain ⟨go, yl⟩ := itgo d hd
    have edrop : xs.drop i = d :: xs.drop (i + 1) := by
      rw [List.drop_eq_getElem_cons hlt]
      rw [List.getElem?_eq_getElem hlt] at hd
      cases hd; rfl
    rw [edrop] at run
    unfold forL at run
    obtain ⟨s2, e3, run⟩ := bind_of run
    obtain ⟨ob, e4, run⟩ := bind_of run
    refine .inr ⟨go, Pv (i + 1), fun σ2 H2 p2 => ⟨xs.length - (i + 1), by omega, rfl, hlt, p2⟩, fun x H2 y => ?_⟩
    obtain ⟨ex2, dx⟩ := yl x H2 y
    refine sg c σ' H2 si x d (ri.ex ex2) dx s2 e3 _ fun σ2 r2 o2 => ?_
    have f2 : Fr O σ H1 O σ2 H2 := fi.trans (by unfold Fr; rw [o2.own hv]; exact ex_hide ex2)
    refine sb c hc σ2 H2 s2 r2 ob e4 _ W ⟨fun s3 σ3 H3 eo r3 f3 => ?_, fun s3 σ3 H3 eo r3 f3 => ?_, fun s3 σ3 H3 eo r3 f3 => ?_, fun d3 s3 v3 H3 eo rt => ?_, fun x3 s3 σ3 H3 cls d3 eo r3 f3 rx => ?_⟩
    · subst eo
      exact ⟨s3, r3, f2.trans f3, run⟩
    · subst eo
      cases run
      exact w.nx s3 σ3 H3 rfl r3 ((f1.trans f2).trans f3)
    · subst eo
      exact ⟨s3, r3, f2.trans f3, run⟩
    · subst eo
      cases run
      exact w.rt d3 s3 v3 H3 rfl (rt.ahead (f1.trans f2))
    · subst eo
      cases run
      exact w.ex x3 s3 σ3 H3 cls d3 rfl r3 ((f1.trans f2).trans f3) rx
  · have hie : i = xs.length := by omega
    rw [hie, List.drop_length] at run
    unfold forL at run
    cases run
    exact .inl ⟨itstop hie, w.nx si σ' H' rfl ri (f1.trans fi)⟩

/-! ### while, by fuel -/
def whileM (c : MT) (m : MM) : Nat → MS → Option Out
  | 0, _ => none
  | n + 1, s => (c s).bind fun p => if p.1 = true then (m p.2).bind fun o => match o with
      | .nx s2 => whileM c m n s2
      | .ct s2 => whileM c m n s2
      | .bk s2 => some (.nx s2)
      | .rt d s2 => some (.rt d s2)
      | .ex x s2 => some (.ex x s2) else some (.nx p.2)
theorem ss_while (n : Nat) (hc : TrT Γ O W e mt) (hb : TrSs Γ Th fz O O O sts m) (hW : ∀ j ∈ W, j ∈ O) : TrS Γ Th fz O O Ol (.While e sts [] pos) (whileM mt m n) := by
  obtain ⟨t, p, q⟩ := hc
  obtain ⟨u, pb, sb⟩ := hb
  refine ⟨fun W => tWhile t (u W), fun X W h k => ps_while h.po (p _ h.g).nox (pb X W h k), fun c hc σ H s r o e E W w => ?_⟩
  refine ⟨fun k σ' H' => ∃ si : MS, R Γ.K c O si σ' H' ∧ Fr O σ H O σ' H' ∧ whileM mt m k si = some o, ⟨n, s, r, Fr.refl _ _ _, e⟩, ?_⟩
  rintro k σ' H' ⟨si, ri, fi, run⟩
  cases k with
  | zero => cases run
  | succ k =>
    unfold whileM at run
    obtain ⟨⟨bt, s1⟩, e1, run⟩ := bind_of run
    refine q c σ' H' si ri _ _ e1 _ fun H1 r1 x1 => ?_
    have f1 : Fr O σ H O σ' H1 := fi.trans (Fr.of_ex hW x1)
    cases bt with
    | true =>
      rw [if_pos rfl] at run ⊢
      obtain ⟨ob, e4, run⟩ := bind_of run
      refine ⟨fun σ3 H3 => ∃ s3 : MS, R Γ.K c O s3 σ3 H3 ∧ Fr O σ H O σ3 H3 ∧ whileM mt m k s3 = some o, fun σ3 H3 p3 => ⟨k, Nat.lt_succ_self k, p3⟩, ?_⟩
      refine sb c hc σ' H1 s1 r1 ob e4 _ W ⟨fun s3 σ3 H3 eo r3 f3 => ?_, fun s3 σ3 H3 eo r3 f3 => ?_, fun s3 σ3 H3 eo r3 f3 => ?_, fun d3 s3 v3 H3 eo rt => ?_, fun x3 s3 σ3 H3 cls d3 eo r3 f3 rx => ?_⟩
      · subst eo
        exact ⟨s3, r3, f1.trans f3, run⟩
      · subst eo
        cases run
        exact w.nx s3 σ3 H3 rfl r3 (f1.trans f3)
      · subst eo
        exact ⟨s3, r3, f1.trans f3, run⟩
      · subst eo
        cases run
        exact w.rt d3 s3 v3 H3 rfl (rt.ahead f1)
      · subst eo
        cases run
        exact w.ex x3 s3 σ3 H3 cls d3 rfl r3 (f1.trans f3) rx
    | false =>
      rw [if_neg Bool.false_ne_true] at run ⊢
      cases run
      exact w.nx s1 σ' H1 rfl r1 f1

/-! ### owned lists changed -/
theorem own_at {K : PySem.W.Frag} {c : Cn} {s : MS} {σ : L2.St} {H : Hp} {i : Nat} {ds : List D} (r : R K c O s σ H) (hi : i ∈ O) (e : s.getD i none = some (.list ds)) {p0 : Addr} (h0 : σ[i]? = some (some (.ref p0))) : ∃ vs, H p0 = some (.lst vs) ∧ RpAll K (hide (c.msk O σ) H) vs ds := by
  obtain ⟨p, vs, ds', k1, k2, k3, k4, k5⟩ := r.ow i hi
  rw [h0] at k1
  cases k1
  rw [List.getD_eq_getElem?_getD, k2] at e
  cases e
  exact ⟨vs, k3, k4⟩
def mApp (i : Nat) (a : ME) : MM := fun s => (a s).bind fun p => match p.2.getD i none with
  | some (.list ds) => if ds.length ≤ 1000000 then some (.nx (p.2.set i (some (.list (ds ++ [p.1]))))) else none
  | _ => none
theorem ss_app {i : Nat} {x : Str} {px apos cpos : Pos} (hN : Γ.N[i]? = some x) (hv : visB Γ.sc x = true) (hi : i ∈ O) (he : TrE Γ O O W e me) (hW : ∀ j ∈ W, j ∈ O) (hst : ∀ env : Env, starEach [e] env = (false, eval e env) :: starEach [] env := by intro _; rfl) (hd : (x == ("__debug__" : Str)) = false := by decide) (hcd : (x == ("__classdict__" : Str)) = false := by decide)
    (hbase : ∀ env : Env, attributeBase (.Name x px) "append" env (eval (.Name x px) env) = eval (.Name x px) env := by intro _; rfl)
    (hfew : ∀ env : Env, ((backTo cpos (starEach [e] env)).all (fun x => !x.1) && (backToKw cpos (keywordEach [] env)).all (fun x => x.1.isSome)
      && decide (([e] : List Expr).length + ([] : List Keyword).length + (if ([] : List Keyword).isEmpty then 0 else 1) < 30)) = true := by intro _; rfl)
    (hline : (apos.endLine == cpos.line) = true := by rfl) :
    TrS Γ Th fz O O Ol (.Expr (.Call (.Attribute (.Name x px) "append" apos) [e] [] cpos) pos) (mApp i me) := TrS0.up <| by
  obtain ⟨t, p, q⟩ := he
  refine ⟨tDrop (tBM Γ.K "list" rAppend (tVar i) (tCons t tNil)), fun X h => by rw [← h.K]; exact ps_expr (pe_bm PySem.F.plainAttrs_list PySem.F.slot_list_append PySem.F.type_list_append mt_append (pe_var (h.nx hN) (h.vis hv) hd hcd) (pa_cons (p X h) pa_nil (hst X.env)) (hbase X.env) (hfew X.env) hline (hst X.env)), fun c hc σ H s r o e E w => ?_⟩
  unfold mApp at e
  obtain ⟨⟨d, s1⟩, e1, e2⟩ := bind_of e
  dsimp only at e2
  split at e2
  · rename_i ds e3
    split at e2
    · rename_i hl
      cases e2
      obtain ⟨p0, vs0, _, h1, _, h3, _⟩ := r.ow i hi
      refine ⟨.ref p0, h1, .inl ⟨rfl, vs0, .inl (.inl h3)⟩, ?_⟩
      refine q c σ H s r _ _ e1 _ fun v H1 r1 x1 d1 => ?_
      obtain ⟨vs, k3, k4⟩ := own_at r1 hi e3 h1
      refine ⟨p0, vs, v, rfl, rfl, k3, Nat.lt_of_lt_of_le (show vs.length < 1000001 by rw [dpa_len k4]; omega) (by decide), ?_⟩
      obtain ⟨r2, x2⟩ := r1.chg hi h1 (vs := vs ++ [v]) (ds := ds ++ [d]) (dpa_app k4 (.cons d1 .nil))
      exact w.nx _ σ _ rfl r2 ((Fr.of_ex hW x1).trans (ex_wide (own_sub fun j hj => by rw [List.mem_singleton.mp hj]; exact hi) x2))
    · cases e2
  · cases e2
def mExt (i : Nat) (a : MF) : MM := fun s => (a s).bind fun p => match p.2.getD i none with
  | some (.list ds) => if ds.length + p.1.length ≤ 1000000 then some (.nx (p.2.set i (some (.list (ds ++ p.1))))) else none
  | _ => none
/-- xs.extend(a new list) -/
theorem ss_ext {i : Nat} {x : Str} {px apos cpos : Pos} (hN : Γ.N[i]? = some x) (hv : visB Γ.sc x = true) (hi : i ∈ O) (he : TrF Γ O O W e mf) (hW : ∀ j ∈ W, j ∈ O) (hst : ∀ env : Env, starEach [e] env = (false, eval e env) :: starEach [] env := by intro _; rfl) (hd : (x == ("__debug__" : Str)) = false := by decide) (hcd : (x == ("__classdict__" : Str)) = false := by decide)
    (hbase : ∀ env : Env, attributeBase (.Name x px) "extend" env (eval (.Name x px) env) = eval (.Name x px) env := by intro _; rfl)
    (hfew : ∀ env : Env, ((backTo cpos (starEach [e] env)).all (fun x => !x.1) && (backToKw cpos (keywordEach [] env)).all (fun x => x.1.isSome)
      && decide (([e] : List Expr).length + ([] : List Keyword).length + (if ([] : List Keyword).isEmpty then 0 else 1) < 30)) = true := by intro _; rfl)
    (hline : (apos.endLine == cpos.line) = true := by rfl) :
    TrS Γ Th fz O O Ol (.Expr (.Call (.Attribute (.Name x px) "extend" apos) [e] [] cpos) pos) (mExt i mf) := TrS0.up <| by
  obtain ⟨t, p, q⟩ := he
  refine ⟨tDrop (tBM Γ.K "list" rExtend (tVar i) (tCons t tNil)), fun X h => by rw [← h.K]; exact ps_expr (pe_bm PySem.F.plainAttrs_list PySem.F.slot_list_extend PySem.F.type_list_extend mt_extend (pe_var (h.nx hN) (h.vis hv) hd hcd) (pa_cons (p X h) pa_nil (hst X.env)) (hbase X.env) (hfew X.env) hline (hst X.env)), fun c hc σ H s r o e E w => ?_⟩
  unfold mExt at e
  obtain ⟨⟨es, s1⟩, e1, e2⟩ := bind_of e
  dsimp only at e2
  split at e2
  · rename_i ds e3
    split at e2
    · rename_i hl
      cases e2
      obtain ⟨p0, vs0, _, h1, _, h3, _⟩ := r.ow i hi
      refine ⟨.ref p0, h1, .inl ⟨rfl, vs0, .inl (.inl h3)⟩, ?_⟩
      refine q c σ H s r _ _ e1 _ fun b us H1 hb r1 x1 hb1 d1 => ?_
      obtain ⟨vs, k3, k4⟩ := own_at r1 hi e3 h1
      have r1' := r1.ex (ex_hide0 (A := (· = b)))
      have k4' := dpa_ex (ex_hide (ex_hide0 (A := (· = b)))) k4
      have d1' := dpa_ex (ex_hide (ex_hide0 (A := (· = b)))) d1
      refine ⟨p0, b, vs, us, rfl, rfl, (of_hide k3).2, hb1, sz1M (by rw [dpa_len k4, dpa_len d1]; exact hl), ?_⟩
      obtain ⟨r2, x2⟩ := r1'.chg hi h1 (vs := vs ++ us) (ds := ds ++ es) (dpa_app k4' d1')
      exact w.nx _ σ _ rfl r2 ((Fr.of_ex hW (x1.trans (ex_hide ex_hide0))).trans (ex_wide (own_sub fun j hj => by rw [List.mem_singleton.mp hj]; exact hi) x2))
    · cases e2
  · cases e2
def mSetIx (i : Nat) (v k : ME) : MM := fun s => (v s).bind fun p => (k p.2).bind fun q => match q.1, q.2.getD i none with
  | .int n, some (.list ds) => (ixN ds.length n).map fun j => .nx (q.2.set i (some (.list (ds.set j p.1))))
  | _, _ => none
/-- xs[k] = v -/
theorem ss_setIx {i : Nat} {x : Str} {px tpos : Pos} {k : Expr} {mk : ME} (hN : Γ.N[i]? = some x) (hv : visB Γ.sc x = true) (hi : i ∈ O) (he : TrE Γ O O W e me) (hk : TrE Γ O L0 W k mk) (hW : ∀ j ∈ W, j ∈ O) (hs : ∀ env : Env, swapsWithSole [.Subscript (.Name x px) k tpos] e pos.line env = pure false := by intro _; rfl) (hw : ∀ env : Env, swappedStores [.Subscript (.Name x px) k tpos] e env = pure none := by intro _; rfl)
    (h1 : ∀ env : Env, (assignEach [.Subscript (.Name x px) k tpos] env).map (·.2) = [assign (.Subscript (.Name x px) k tpos) env] := by intro _; rfl)
    (ha : ∀ (env : Env) v, assign (.Subscript (.Name x px) k tpos) env v = (do
      let ov ← holding [v] (eval (.Name x px) env)
      let iv ← holding [v, ov] (eval k env)
      standAt tpos
      holding [v, ov, iv] (setItem ov iv v)
      release [v, ov, iv] []) := by intro _ _; rfl) (hd : (x == ("__debug__" : Str)) = false := by decide) (hcd : (x == ("__classdict__" : Str)) = false := by decide) :
    TrS Γ Th fz O O Ol (.Assign [.Subscript (.Name x px) k tpos] e pos) (mSetIx i me mk) := TrS0.up <| by
  obtain ⟨t, p, q⟩ := he
  obtain ⟨t2, p2, q2⟩ := hk
  refine ⟨tAsg t (gSub (tVar i) t2 rSetL), fun X h => ps_asg (p X h) (pg_sub (pe_var (h.nx hN) (h.vis hv) hd hcd) (p2 X h) set_list (ha X.env)) (hs X.env) (hw X.env) (h1 X.env), fun c hc σ H s r o e E w => ?_⟩
  unfold mSetIx at e
  obtain ⟨⟨d, s1⟩, e1, e2⟩ := bind_of e
  obtain ⟨⟨dk, s2⟩, e3, e4⟩ := bind_of e2
  dsimp only at e4
  split at e4
  · rename_i n ds e5
    obtain ⟨j, ej, rfl⟩ := mapNx_of e4
    obtain ⟨p0, vs0, _, h1, _, _, _⟩ := r.ow i hi
    refine q c σ H s r _ _ e1 _ fun v H1 r1 x1 d1 => ?_
    refine ⟨.ref p0, h1, ?_⟩
    refine q2 c σ H1 s1 r1 _ _ e3 _ fun u H2 r2 x2 d2 => ?_
    cases d2
    obtain ⟨vs, k3, k4⟩ := own_at r2 hi e5 h1
    refine ⟨p0, vs, n, j, rfl, rfl, k3, by rw [dpa_len k4]; exact ej, ?_⟩
    obtain ⟨r3, x3⟩ := r2.chg hi h1 (vs := vs.set j v) (ds := ds.set j d) (dpa_set (dp_ex (keep hW x2) d1) j k4)
    exact w.nx _ σ _ rfl r3 ((Fr.of_ex hW (x1.trans x2)).trans (ex_wide (own_sub fun j hj => by rw [List.mem_singleton.mp hj]; exact hi) x3))
  · cases e4
theorem pget_list {X : Cx} : PGet X (fun o i H Q => ∃ p xs k v, o = .ref p ∧ i = .int k ∧ H p = some (.lst xs) ∧ 0 ≤ k ∧ xs[k.toNat]? = some v ∧ Q v H) := by
  intro pins s σ H o i ov iv Q I ro ri h
  obtain ⟨p, xs, k, v, rfl, rfl, hp, h0, hv, q⟩ := h
  cases ro
  obtain ⟨t, rfl⟩ := ri
  obtain ⟨its, n, r, ho, hz⟩ := I.lst hp
  obtain ⟨u, hu, ru⟩ := r.get hv
  have hl := r.length
  have hn := line63
  have hk := (List.getElem?_eq_some_iff.mp hu).1
  exact wpAny_getItem_list (IsL.isList ho) h0 (by omega) (by simpa using hu) ⟨v, H, I, ru, q⟩
/-- xs[k] op= v, of ints -/
def mAugIx (f : D → D → Option D) (i : Nat) (k v : ME) : MM := fun s => (k s).bind fun q => match q.1, q.2.getD i none with
  | .int n, some (.list ds) => if 0 ≤ n then match ds[n.toNat]? with
      | some d => (v q.2).bind fun p => match p.2.getD i none with
        | some (.list es) => if n < es.length then (f d p.1).map fun z => .nx (p.2.set i (some (.list (es.set n.toNat z)))) else none
        | _ => none
      | none => none else none
  | _, _ => none
theorem ss_augIx {op : Operator} {r : R2} {f : D → D → Option D} {i : Nat} {x : Str} {px tpos : Pos} {k : Expr} {mk : ME} (ho : ∀ X, InG Γ X → OpR X (inplaceOp op) r) (hr : RS Γ.K r f) (hN : Γ.N[i]? = some x) (hv : visB Γ.sc x = true) (hi : i ∈ O) (hk : TrE Γ O L0 [] k mk) (he : TrE Γ O L [] e me)
    (ha : ∀ ov iv new, augStore k ov iv new = (do holding [new, ov, iv] (setItem ov iv new); release [new, ov, iv] []; pure .next) := by intros; rfl) (hd : (x == ("__debug__" : Str)) = false := by decide) (hcd : (x == ("__classdict__" : Str)) = false := by decide) :
    TrS Γ Th fz O O Ol (.AugAssign (.Subscript (.Name x px) k tpos) op e pos) (mAugIx f i mk me) := TrS0.up <| by
  obtain ⟨t, p, q⟩ := he
  obtain ⟨t2, p2, q2⟩ := hk
  refine ⟨tAugS (tVar i) t2 t (fun o i H Q => ∃ p xs k v, o = .ref p ∧ i = .int k ∧ H p = some (.lst xs) ∧ 0 ≤ k ∧ xs[k.toNat]? = some v ∧ Q v H) r rSetL, fun X h => ps_augS (pe_var (h.nx hN) (h.vis hv) hd hcd) (p2 X h) pget_list (p X h) (ho X h) set_list ha, fun c hc σ H s r0 o e E w => ?_⟩
  unfold mAugIx at e
  obtain ⟨⟨dk, s1⟩, e1, e2⟩ := bind_of e
  dsimp only at e2
  split at e2
  · rename_i n ds e3
    split at e2
    · rename_i h0
      split at e2
      · rename_i d ed
        obtain ⟨⟨dv, s2⟩, e4, e5⟩ := bind_of e2
        dsimp only at e5
        split at e5
        · rename_i es e6
          split at e5
          · rename_i hn
            obtain ⟨z, ez, rfl⟩ := mapNx_of e5
            obtain ⟨p0, vs0, _, h1, _, _, _⟩ := r0.ow i hi
            refine ⟨.ref p0, h1, ?_⟩
            refine q2 c σ H s r0 _ _ e1 _ fun u H1 r1 x1 d1 => ?_
            cases d1
            obtain ⟨vs, k3, k4⟩ := own_at r1 hi e3 h1
            obtain ⟨v, g1, g2⟩ := dpa_get k4 ed
            refine ⟨p0, vs, n, v, rfl, rfl, k3, h0, g1, ?_⟩
            refine q c σ H1 s1 r1 _ _ e4 _ fun y H2 r2 x2 d2 => ?_
            obtain ⟨us, k3', k4'⟩ := own_at r2 hi e6 h1
            have ee : Ex H1 H2 := fun a o z => (of_hide (x2 a o (hide_of (fun ⟨j, hj, _⟩ => nomatch hj) z))).2
            refine hr H2 v y d dv z (dp_ex (ex_hide0.trans ee) g2) (dp_ex ex_hide0 d2) ez _ fun zv hz => ?_
            refine ⟨p0, us, n, n.toNat, rfl, rfl, k3', ?_, ?_⟩
            · rw [dpa_len k4']
              unfold ixN
              rw [if_pos h0, if_pos hn]
            · obtain ⟨r3, x3⟩ := r2.chg hi h1 (vs := us.set n.toNat zv) (ds := es.set n.toNat z) (dpa_set (hz _) n.toNat k4')
              exact w.nx _ σ _ rfl r3 ((Fr.of_ex (W := []) (fun _ z => nomatch z) (x1.trans x2)).trans (ex_wide (own_sub fun j hj => by rw [List.mem_singleton.mp hj]; exact hi) x3))
          · cases e5
        · cases e5
      · cases e2
    · cases e2
  · cases e2
/-- name op= e, of scalars -/
def mAug (f : D → D → Option D) (i : Nat) (v : ME) : MM := fun s => match s.getD i none with
  | some d => (v s).bind fun p => (f d p.1).map fun z => .nx (p.2.set i (some z))
  | none => none
theorem ss_aug {op : Operator} {r : R2} {f : D → D → Option D} {i : Nat} {x : Str} {px : Pos} (ho : ∀ X, InG Γ X → OpR X (inplaceOp op) r) (hr : RS Γ.K r f) (hN : Γ.N[i]? = some x) (hv : locB Γ x = true) (hi : i ∉ O) (ht : i ∉ Th) (hT : ∀ j ∈ Th, j ∈ O) (he : TrE Γ O O W e me) (hW : ∀ j ∈ W, j ∈ O) :
    TrS Γ Th fz O O Ol (.AugAssign (.Name x px) op e pos) (mAug f i me) := TrS0.up <| by
  obtain ⟨t, p, q⟩ := he
  refine ⟨tAug i t r, fun X h => ps_aug h.ndX (h.nx hN) (h.loc hv).1 (p X h) (ho X h) (h.loc hv).2, fun c hc σ H s r0 o e E w => ?_⟩
  unfold mAug at e
  split at e
  · rename_i d ed
    obtain ⟨⟨dv, s1⟩, e1, e2⟩ := bind_of e
    obtain ⟨z, ez, rfl⟩ := mapNx_of e2
    have ed2 : s[i]? = some (some d) := by
      rw [List.getD_eq_getElem?_getD] at ed
      cases e3 : s[i]? with
      | none => rw [e3] at ed; cases ed
      | some o => rw [e3] at ed; exact congrArg some ed
    obtain ⟨v0, h1, h2⟩ := r0.sh i d hi ed2
    refine ⟨v0, h1, ?_⟩
    refine q c σ H s r0 _ _ e1 _ fun v H1 r1 x1 d1 => ?_
    refine hr H1 v0 v d dv z (dp_ex ((keep hW x1).trans ex_hide0) h2) (dp_ex ex_hide0 d1) ez _ fun zv hz => ?_
    obtain ⟨r2, x2⟩ := setR (O' := O) r1 (hz _) (by rw [hc]; exact ht) (fun j hj => List.mem_filter.mpr ⟨hj, by simpa using (fun e => hi (e ▸ hj) : j ≠ i)⟩) (by rw [hc]; exact hT)
    exact w.nx _ _ H1 rfl r2 ((Fr.of_ex hW x1).trans x2)
  · cases e
/-- xs.pop(k), xs.pop() of an owned list, as a value -/
def xPopAt (i : Nat) (k : ME) : ME := fun s => (k s).bind fun q => match q.1, q.2.getD i none with
  | .int n, some (.list ds) => if (0 ≤ n ∧ n < ds.length) ∧ ds.length ≤ 1000000 then (ds[n.toNat]?).map fun d => (d, q.2.set i (some (.list (ds.eraseIdx n.toNat)))) else none
  | _, _ => none
theorem tr_popAt {i : Nat} {x : Str} {px apos cpos : Pos} {k : Expr} {mk : ME} (hN : Γ.N[i]? = some x) (hv : visB Γ.sc x = true) (hi : i ∈ O) (hiW : i ∈ W) (hk : TrE Γ O L0 W k mk) (hW : ∀ j ∈ W, j ∈ O) (hL : ∀ j ∈ L, j ∈ O) (hst : ∀ env : Env, starEach [k] env = (false, eval k env) :: starEach [] env := by intro _; rfl) (hd : (x == ("__debug__" : Str)) = false := by decide) (hcd : (x == ("__classdict__" : Str)) = false := by decide)
    (hbase : ∀ env : Env, attributeBase (.Name x px) "pop" env (eval (.Name x px) env) = eval (.Name x px) env := by intro _; rfl)
    (hfew : ∀ env : Env, ((backTo cpos (starEach [k] env)).all (fun x => !x.1) && (backToKw cpos (keywordEach [] env)).all (fun x => x.1.isSome)
      && decide (([k] : List Expr).length + ([] : List Keyword).length + (if ([] : List Keyword).isEmpty then 0 else 1) < 30)) = true := by intro _; rfl)
    (hline : (apos.endLine == cpos.line) = true := by rfl) : TrE Γ O L W (.Call (.Attribute (.Name x px) "pop" apos) [k] [] cpos) (xPopAt i mk) := by
  obtain ⟨t, p, q⟩ := hk
  refine ⟨tBM Γ.K "list" rPopAt (tVar i) (tCons t tNil), fun X h => by rw [← h.K]; exact pe_bm PySem.F.plainAttrs_list PySem.F.slot_list_pop PySem.F.type_list_pop mt_popAt (pe_var (h.nx hN) (h.vis hv) hd hcd) (pa_cons (p X h) pa_nil (hst X.env)) (hbase X.env) (hfew X.env) hline (hst X.env), fun c σ H s r d s' e Q w => ?_⟩
  unfold xPopAt at e
  obtain ⟨⟨dk, s1⟩, e1, e2⟩ := bind_of e
  dsimp only at e2
  split at e2
  · rename_i n ds e3
    split at e2
    · rename_i hn
      obtain ⟨z, ez, e4⟩ := mapNx_of e2
      cases e4
      obtain ⟨p0, vs0, _, h1, _, h3, _⟩ := r.ow i hi
      refine ⟨.ref p0, h1, .inl ⟨rfl, vs0, .inl (.inl h3)⟩, ?_⟩
      refine q c σ H s r _ _ e1 _ fun v H1 r1 x1 d1 => ?_
      cases d1
      obtain ⟨vs, k3, k4⟩ := own_at r1 hi e3 h1
      obtain ⟨y, g1, g2⟩ := dpa_get k4 ez
      have hlen : vs.length = ds.length := dpa_len k4
      obtain ⟨hn, hsz⟩ := hn
      refine ⟨p0, vs, n, n.toNat, y, rfl, rfl, k3, by omega, by omega, ?_, g1, ?_⟩
      · rw [PySem.StrLaws.seqIndex_nonneg hn.1 (by omega)]
      · obtain ⟨r2, x2⟩ := r1.chg hi h1 (vs := vs.eraseIdx n.toNat) (ds := ds.eraseIdx n.toNat) (dpa_erase n.toNat k4)
        refine w y _ r2 (x1.trans (ex_wide (own_sub fun j hj => by rw [List.mem_singleton.mp hj]; exact hiW) x2)) ?_
        exact dp_ex (ex_hide_sub (msk_sub hL)) (dp_ex (ex_hide_up (.inr ⟨i, hi, h1⟩)) g2)
    · cases e2
  · cases e2
end
end Z


namespace Z
open PySem PySem.Spec PyProof.Rows L2

/-! ## a def's promise by its body -/
def startM (n : Nat) (ds : List D) : MS := ds.map some ++ List.replicate (n - ds.length) none
def outP : Out → Option D
  | .rt d _ => some d
  | .nx _ => some .none
  | _ => none
def outL : Out → Option (List D)
  | .rt (.list ds) _ => some ds
  | _ => none
def outT : Out → Option (D × List D)
  | .rt d s => match s.getD 0 none with
    | some (.list fs) => some (d, fs)
    | _ => none
  | .nx s => match s.getD 0 none with
    | some (.list fs) => some (.none, fs)
    | _ => none
  | _ => none
def fnP (a n : Nat) (m : MM) : List D → Option D := fun ds => if ds.length = a then (m (startM n ds)).bind outP else none
def fnL (a n : Nat) (m : MM) : List D → Option (List D) := fun ds => if ds.length = a then (m (startM n ds)).bind outL else none
def fnT (a n : Nat) (m : MM) : List D → List D → Option (D × List D) := fun fs ds => if ds.length + 1 = a then (m (startM n (.list fs :: ds))).bind outT else none
section
variable {K : PySem.W.Frag} {H : Hp}
theorem dpa_getV : ∀ {vs : List V} {ds : List PyData} {i : Nat} {v : V}, RpAll K H vs ds → vs[i]? = some v → ∃ d, ds[i]? = some d ∧ Rp K H v d
  | _, _, _, _, .nil, e => by simp at e
  | _, _, 0, _, .cons h a, e => by
    simp at e; subst e; exact ⟨_, rfl, h⟩
  | _, _, i + 1, _, .cons h a, e => by
    obtain ⟨v, h1, h2⟩ := dpa_getV (i := i) a (by simpa using e)
    exact ⟨v, by simpa using h1, h2⟩
theorem startM_get {n : Nat} {ds : List D} {i : Nat} {d : D} (h : (startM n ds)[i]? = some (some d)) : ds[i]? = some d := by
  unfold startM at h
  by_cases hi : i < ds.length
  · rw [List.getElem?_append_left (by simpa using hi), List.getElem?_map] at h
    cases e : ds[i]? with
    | none => rw [e] at h; cases h
    | some a => rw [e] at h; cases h; rfl
  · rw [List.getElem?_append_right (by simpa using hi), List.getElem?_replicate] at h
    split at h <;> cases h
theorem start_get {N : List Str} {vs : List V} {i : Nat} {v : V} (h : vs[i]? = some v) : (start N vs)[i]? = some (some v) := by
  unfold L2.start
  have hi := (List.getElem?_eq_some_iff.mp h).1
  rw [List.getElem?_append_left (by simpa using hi), List.getElem?_map, h]
  rfl
theorem start_len {N : List Str} {vs : List V} {ds : List D} {n : Nat} (hn : N.length = n) (h : vs.length = ds.length) : (startM n ds).length = (start N vs).length := by
  unfold L2.start startM
  rw [List.length_append, List.length_append, List.length_map, List.length_map, List.length_replicate, List.length_replicate, hn, h]
theorem own_nil {σ : L2.St} : Own [] σ = fun _ => False := by
  funext a
  exact propext (Iff.intro (fun ⟨i, h, _⟩ => absurd h (by simp)) (fun h => False.elim h))
theorem hide_false {H : Hp} : hide (fun _ => False) H = H := by
  funext a
  unfold hide
  rw [if_neg (fun h => h)]
/-- the entry of a def that only reads -/
theorem R_start {N : List Str} {vs : List V} {ds : List D} {n : Nat} {C : Addr → Prop} (hn : N.length = n) (hC : ∀ p, C p → ∃ o, H p = some o) (hd : RpAll K (hide C H) vs ds) : R K ⟨C, [], start N vs⟩ [] (startM n ds) (start N vs) H where
  len := start_len hn (dpa_len hd)
  sh := fun i d _ h => by
    obtain ⟨v, h1, h2⟩ := dpa_get hd (startM_get h)
    exact ⟨v, start_get h1, dp_ex (ex_hide_sub fun a z => Or.elim z id fun ⟨_, q, _⟩ => nomatch q) h2⟩
  ow := fun i h => nomatch h
  nd := fun i j p h => nomatch h
  cs := hC
  th := fun i h => nomatch h
end
section
abbrev FnP (K : PySem.W.Frag) (x qual : Str) (st : Stmt) (f : Addr) (fd : FuncData) : Prop := FunD K x qual (defArgs st) (defBody st) (defScope st) [] [] f fd
variable {P : Program} {w : World} {K : PySem.W.Frag} {mg : Str → Option Value} {base : Heap} {x qual : Str} {st : Stmt} {f : Addr} {fd : FuncData} {N ps : List Str} {k a n : Nat} {m : MM}
abbrev G0 (P : Program) (w : World) (K : PySem.W.Frag) (mg : Str → Option Value) (base : Heap) (A : Around) (N : List Str) (sc : Scope) : G := ⟨P, w, K, mg, base, A, N, sc, fun _ => true, true, []⟩
theorem inX0 {CX : CXT} {A : Around} {outer : List Env} {s : Shared} {H : Hp} {E : XK} {cdv : Value} (nd : N.Nodup) : InX (G0 P w K mg base (A.deeper (envOfC qual (defScope st) s.heap.objs.size f cdv)) N (defScope st)) (cxOf CX P w K mg base N qual (defScope st) f cdv A outer s H E) where
  g := ⟨rfl, rfl, rfl, rfl, rfl, rfl, rfl, rfl, rfl, nd, rfl, rfl⟩
  po := passes_of (E₁ := fun e' s'' => CX outer H s E e' s'') rfl
  st := rfl
  fr := rfl
theorem fn_P (F : FnP K x qual st f fd) (S : FnScope N ps (defScope st)) (ha : ps.length = a) (hn : N.length = n) (h : ∀ A, Room k A → TrSs (G0 P w K mg base A N (defScope st)) [] false [] [] [] (defBody st) m) : FnOk P w K mg base CX0 (k + 1) f fd ps (spP K (fnP a n m)) := by
  refine F.ok S (fun vs H Q E hs => ?_) (fun cdv A outer s H vs Q E hr hs => ?_)
  · obtain ⟨C, ds, d, _, hd, e, _⟩ := hs
    unfold fnP at e
    split at e
    · rw [dpa_len hd, ha]; assumption
    · cases e
  · obtain ⟨C, ds, d, hC, hd, e, q⟩ := hs
    unfold fnP at e
    split at e
    · obtain ⟨o, e1, e2⟩ := bind_of e
      obtain ⟨t, pt, st'⟩ := h _ hr
      refine ⟨t fun _ _ _ _ => False, pt _ _ (inX0 S.nd) takes_none5, st' ⟨C, [], start N vs⟩ rfl (start N vs) H (startM n ds) (R_start hn hC hd) o e1 _ _ ⟨fun s' σ' H' eo r' fr => ?_, fun s' σ' H' eo r' fr => ?_, fun s' σ' H' eo r' fr => ?_, fun d' s' v H' eo rt => ?_, fun x s' σ' H' cls d' eo r' fr rx => by subst eo; cases e2⟩⟩
      · subst eo
        cases e2
        unfold Fr at fr
        rw [own_nil, own_nil, hide_false, hide_false] at fr
        exact q .non H' fr .non
      · subst eo; cases e2
      · subst eo; cases e2
      · subst eo
        cases e2
        have fr := rt.fr
        have hT : (Cn.mk C [] (start N vs)).T = fun _ => False := own_nil
        rw [own_nil, hT, hide_false, hide_false] at fr
        exact q v H' fr (dp_ex (ex_hide_sub fun a z => .inl z) rt.val)
    · cases e
theorem fn_L (F : FnP K x qual st f fd) (S : FnScope N ps (defScope st)) (ha : ps.length = a) (hn : N.length = n) (h : ∀ A, Room k A → TrSs (G0 P w K mg base A N (defScope st)) [] true [] [] [] (defBody st) m) : FnOk P w K mg base CX0 (k + 1) f fd ps (spL K (fnL a n m)) := by
  refine F.ok S (fun vs H Q E hs => ?_) (fun cdv A outer s H vs Q E hr hs => ?_)
  · obtain ⟨C, ds, es, _, hd, e, _⟩ := hs
    unfold fnL at e
    split at e
    · rw [dpa_len hd, ha]; assumption
    · cases e
  · obtain ⟨C, ds, es, hC, hd, e, q⟩ := hs
    unfold fnL at e
    split at e
    · obtain ⟨o, e1, e2⟩ := bind_of e
      obtain ⟨t, pt, st'⟩ := h _ hr
      refine ⟨t fun _ _ _ _ => False, pt _ _ (inX0 S.nd) takes_none5, st' ⟨C, [], start N vs⟩ rfl (start N vs) H (startM n ds) (R_start hn hC hd) o e1 _ _ ⟨fun s' σ' H' eo r' fr => ?_, fun s' σ' H' eo r' fr => ?_, fun s' σ' H' eo r' fr => ?_, fun d' s' v H' eo rt => ?_, fun x s' σ' H' cls d' eo r' fr rx => by subst eo; cases e2⟩⟩
      · subst eo; cases e2
      · subst eo; cases e2
      · subst eo; cases e2
      · subst eo
        have fr := rt.fr
        have hT : (Cn.mk C [] (start N vs)).T = fun _ => False := own_nil
        rw [own_nil, hT, hide_false, hide_false] at fr
        obtain ⟨p, us, ds', rfl, rfl, k3, k4, k5, k6, k7⟩ := rt.fresh rfl
        cases e2
        rw [own_nil, hide_false] at k3
        refine q p us H' k3 (fun b o z => hide_of (ne_of_none z k3) (fr b o z)) k6 (dpa_ex (fun b o z => ?_) k7)
        obtain ⟨n1, z⟩ := of_hide z
        exact hide_of (fun y => n1 (.inl (.inl y))) (hide_of (fun y => n1 (.inr y)) z)
    · cases e
theorem fn_T (F : FnP K x qual st f fd) (S : FnScope N ps (defScope st)) (ha : ps.length = a) (hn : N.length = n) (h : ∀ A, Room k A → TrSs (G0 P w K mg base A N (defScope st)) [0] false [0] [0] [0] (defBody st) m) : FnOk P w K mg base CX0 (k + 1) f fd ps (spT K (fnT a n m)) := by
  refine F.ok S (fun vs H Q E hs => ?_) (fun cdv A outer s H vs Q E hr hs => ?_)
  · obtain ⟨C, p, us, ws, fs, ds, d, fs', rfl, _, _, _, _, hd, e, _⟩ := hs
    unfold fnT at e
    split at e
    · rw [List.length_cons, dpa_len hd, ha]; assumption
    · cases e
  · obtain ⟨C, p, us, ws, fs, ds, d, fs', rfl, hCp, hC, hp, hus, hd, e, q⟩ := hs
    unfold fnT at e
    split at e
    · obtain ⟨o, e1, e2⟩ := bind_of e
      obtain ⟨t, pt, st'⟩ := h _ hr
      have hs0 : (start N (.ref p :: ws))[0]? = some (some (.ref p)) := start_get rfl
      have own : ∀ b, Own [0] (start N (.ref p :: ws)) b ↔ b = p := fun b => ⟨fun ⟨i, hi, e⟩ => by
        rw [List.mem_singleton.mp hi, hs0] at e
        cases e; rfl, fun e => ⟨0, by simp, by rw [e]; exact hs0⟩⟩
      have sub : ∀ b, (Cn.mk (fun a => C a ∧ a ≠ p) [0] (start N (.ref p :: ws))).msk [0] (start N (.ref p :: ws)) b → C b := fun b z => by
        rcases z with z | z
        · exact z.1
        · rw [(own b).mp z]; exact hCp
      have R0 : R K ⟨fun a => C a ∧ a ≠ p, [0], start N (.ref p :: ws)⟩ [0] (startM n (.list fs :: ds)) (start N (.ref p :: ws)) H := by
        refine ⟨start_len hn (by rw [List.length_cons, List.length_cons, dpa_len hd]), fun i d hi e => ?_, fun i hi => ?_, fun i j _ hi hj _ _ => ?_, fun b z => hC b z.1, fun i hi => ⟨hi, rfl⟩⟩
        · have e' := startM_get e
          cases i with
          | zero => exact absurd (by simp) hi
          | succ i =>
            obtain ⟨v, h1, h2⟩ := dpa_get hd (i := i) (by simpa using e')
            exact ⟨v, start_get (by simpa using h1), dp_ex (ex_hide_sub sub) h2⟩
        · rw [List.mem_singleton.mp hi]
          exact ⟨p, us, fs, hs0, by unfold startM; rfl, hp, dpa_ex (ex_hide_sub sub) hus, fun z => z.2 rfl⟩
        · rw [List.mem_singleton.mp hi, List.mem_singleton.mp hj]
      have fin : ∀ {H' : Hp} {v : V} {d' : D} {s' : MS}, Ex (hide (Own [0] (start N (.ref p :: ws))) H) (hide (Cn.mk (fun a => C a ∧ a ≠ p) [0] (start N (.ref p :: ws))).T H') → (∃ (p' : Addr) (vs : List V) (ds : List D), (start N (.ref p :: ws))[0]? = some (some (.ref p')) ∧ s'[0]? = some (some (.list ds)) ∧ H' p' = some (.lst vs) ∧ RpAll K (hide C H') vs ds) → Rp K (hide C H') v d' →
          (match s'.getD 0 none with | some (.list fs) => some (d', fs) | _ => none) = some (d, fs') → Q v H' := fun {H' v d' s'} fr th val e => by
        obtain ⟨p', vs', ds', g1, g2, g3, g4⟩ := th
        rw [hs0] at g1
        cases g1
        rw [List.getD_eq_getElem?_getD, g2] at e
        cases e
        refine q v H' vs' (fun b o z => ?_) g3 g4 val
        obtain ⟨n1, z⟩ := of_hide z
        exact hide_of n1 (of_hide (fr b o (hide_of (fun y => n1 ((own b).mp y)) z))).2
      have big : ∀ b, C b → (C b ∧ b ≠ p) ∨ (Cn.mk (fun a => C a ∧ a ≠ p) [0] (start N (.ref p :: ws))).T b := fun b z => by
        by_cases e : b = p
        · exact .inr ((own b).mpr e)
        · exact .inl ⟨z, e⟩
      have big2 : ∀ b, (C b ∧ b ≠ p) ∨ (Cn.mk (fun a => C a ∧ a ≠ p) [0] (start N (.ref p :: ws))).T b → C b := fun b z => by
        rcases z with z | z
        · exact z.1
        · rw [(own b).mp z]; exact hCp
      refine ⟨t fun _ _ _ _ => False, pt _ _ (inX0 S.nd) takes_none5, st' ⟨fun a => C a ∧ a ≠ p, [0], start N (.ref p :: ws)⟩ rfl (start N (.ref p :: ws)) H (startM n (.list fs :: ds)) R0 o e1 _ _ ⟨fun s' σ' H' eo r' fr => ?_, fun s' σ' H' eo r' fr => ?_, fun s' σ' H' eo r' fr => ?_, fun d' s' v H' eo rt => ?_, fun x s' σ' H' cls d' eo r' fr rx => by subst eo; cases e2⟩⟩
      · subst eo
        have f2 := rt_ex (W := []) r' (fun _ z => nomatch z) (Ex.refl _)
        obtain ⟨p', vs', ds', g1, g2, g3, g4⟩ := rt_th r' 0 (by simp)
        exact fin (s' := s') (Ex.trans fr f2) ⟨p', vs', ds', g1, g2, g3, dpa_ex (ex_hide_sub big) g4⟩ .non e2
      · subst eo; cases e2
      · subst eo; cases e2
      · subst eo
        obtain ⟨p', vs', ds', g1, g2, g3, g4⟩ := rt.th 0 (by simp)
        exact fin (s' := s') rt.fr ⟨p', vs', ds', g1, g2, g3, dpa_ex (ex_hide_sub big) g4⟩ (dp_ex (ex_hide_sub big) rt.val) e2
    · cases e
theorem fnAt {sp : Sp} (F : FnP K x qual st f fd) (G : FnOk P w K mg base CX0 k f fd ps sp) (hm : mg x = some (.ref f)) (hb : Binds K fd ps []) : FnAt P w K mg base k x ps sp := ⟨f, fd, G, hm, F.kp, hb⟩
end

/-! ## the law -/
def spLaw (K : PySem.W.Frag) : Sp := fun vs H Q _ => ∃ (a : Addr) (ns : List Int), vs = [.ref a] ∧ SqL K H a (ns.map V.int) ∧ ns.length ≤ 63 ∧ ∀ H', Q (.bl true) H'
theorem law_of {P : Program} {w : World} {K : PySem.W.Frag} {mg : Str → Option Value} {base : Heap} {k : Nat} {f : Addr} {fd : FuncData} {ps : List Str} {mf : List D → Option D} (h : FnOk P w K mg base CX0 k f fd ps (spP K mf)) (hl : ∀ ns : List Int, ns.length ≤ 63 → mf [.list (ns.map PyData.int)] = some (.bool true)) : FnOk P w K mg base CX0 k f fd ps (spLaw K) :=
  h.imp fun vs H Q E ⟨a, ns, e, hs, hn, q⟩ => by
    subst e
    refine ⟨fun _ => False, [.list (ns.map PyData.int)], .bool true, fun _ z => False.elim z, .cons (.lst (by rw [hide_false]; exact hs) (dpa_ints ns)) .nil, hl ns hn, fun v H' _ hv => ?_⟩
    cases hv
    exact q H'
end Z


namespace Z
open PySem PySem.Spec PyProof.Rows L2

/-! ## weaker judgements -/
section
variable {Γ : G} {O L L' W : List Nat} {e : Expr} {es : List Expr} {m : ME} {mf : MF} {mt : MT}
theorem own_emp {W : List Nat} {σ : L2.St} : ∀ a, Own [] σ a → Own W σ a := fun a ⟨i, h, _⟩ => absurd h (by simp)
theorem tr_wk (h : TrE Γ O L [] e m) : TrE Γ O L W e m := by
  obtain ⟨t, p, q⟩ := h
  exact ⟨t, p, fun c σ H s r d s' e Q k => q c σ H s r d s' e Q fun v H' r' x => k v H' r' (ex_wide own_emp x)⟩
theorem tt_wk (h : TrT Γ O [] e mt) : TrT Γ O W e mt := by
  obtain ⟨t, p, q⟩ := h
  exact ⟨t, p, fun c σ H s r d s' e Q k => q c σ H s r d s' e Q fun H' r' x => k H' r' (ex_wide own_emp x)⟩
theorem tf_wk (h : TrF Γ O L [] e mf) : TrF Γ O L W e mf := by
  obtain ⟨t, p, q⟩ := h
  exact ⟨t, p, fun c σ H s r d s' e Q k => q c σ H s r d s' e Q fun v vs H' n r' x => k v vs H' n r' (ex_wide own_emp x)⟩
theorem ta_wk (h : TrA Γ O L [] es mf) : TrA Γ O L W es mf := by
  obtain ⟨t, p, q⟩ := h
  exact ⟨t, p, fun c σ H s r d s' e Q k => q c σ H s r d s' e Q fun v H' r' x => k v H' r' (ex_wide own_emp x)⟩
theorem tr_lo (h : TrE Γ O L' W e m) (hL : ∀ j ∈ L, j ∈ L') : TrE Γ O L W e m := by
  obtain ⟨t, p, q⟩ := h
  exact ⟨t, p, fun c σ H s r d s' e Q k => q c σ H s r d s' e Q fun v H' r' x d => k v H' r' x (dp_ex (ex_hide_sub (msk_sub hL)) d)⟩
theorem tf_lo (h : TrF Γ O L' W e mf) (hL : ∀ j ∈ L, j ∈ L') : TrF Γ O L W e mf := by
  obtain ⟨t, p, q⟩ := h
  exact ⟨t, p, fun c σ H s r d s' e Q k => q c σ H s r d s' e Q fun v vs H' n r' x h d => k v vs H' n r' x h (dpa_ex (ex_hide_sub (msk_sub hL)) d)⟩
theorem tb_lo (h : TrB Γ O L' W e mf) (hL : ∀ j ∈ L, j ∈ L') : TrB Γ O L W e mf := by
  obtain ⟨t, p, q⟩ := h
  exact ⟨t, p, fun c σ H s r d s' e Q k => q c σ H s r d s' e Q fun v vs H' r' x h d => k v vs H' r' x h (dpa_ex (ex_hide_sub (msk_sub hL)) d)⟩
theorem tq_lo (h : TrQ Γ O L' W e mf) (hL : ∀ j ∈ L, j ∈ L') : TrQ Γ O L W e mf := by
  obtain ⟨t, p, q⟩ := h
  exact ⟨t, p, fun c σ H s r d s' e Q k => q c σ H s r d s' e Q fun v vs H' r' x h d => k v vs H' r' x h (dpa_ex (ex_hide_sub (msk_sub hL)) d)⟩
/-- a list's other way round, made anew -/
theorem tf_rev {k : Nat} {p1 p2 p3 pos : Pos} (ha : TrB Γ O L W e mf) (hW : ∀ j ∈ W, j ∈ O) : TrF Γ O L W (.Subscript e (.Slice none none (some (.UnaryOp .USub (.Constant (.int 1) k p1) p2)) p3) pos) (xfMap (fun ds => some ds.reverse) mf) := by
  obtain ⟨t, p, q⟩ := ha
  refine ⟨tRevL Γ.K t, fun X h => by rw [← h.K]; exact pe_revL (p X h), fun c σ H s r d s' e Q k => ?_⟩
  obtain ⟨es, e1, e2⟩ := xfMap_of e
  cases e2
  refine q c σ H s r _ _ e1 _ fun a vs H1 r1 x1 hs d1 => ⟨a, vs, rfl, sql_ex ex_hide0 hs, ?_⟩
  exact simF_new r1 x1 (fresh_of r1 hW x1) (dpa_rev d1) k
end

/-! ## a dict written out, and one of its values taken at once -/
section
variable {K : PySem.W.Frag} {H : Hp} {p : Addr} {k1 : List (Key × V)} {o : HO} {A : Addr → Prop}
theorem rd_dk {a : Addr} {u : HO} (hp : H p = some (.dK k1)) (hu : (∀ k, u ≠ .dK k)) (h : Rd (hide A H) a u) : Rd (hide A (upd H p o)) a u := by
  rcases h with h | ⟨q, h⟩
  · obtain ⟨n, h⟩ := of_hide h
    refine .inl (hide_of n ?_)
    rw [upd_ne (by intro e; subst e; rw [hp] at h; cases h; exact hu _ rfl)]
    exact h
  · obtain ⟨n, h⟩ := of_hide h
    refine .inr ⟨q, hide_of n ?_⟩
    rw [upd_ne (by intro e; subst e; rw [hp] at h; cases h)]
    exact h
mutual
theorem rp_dk (hp : H p = some (.dK k1)) : ∀ {v : V} {d : PyData}, Rp K (hide A H) v d → Rp K (hide A (upd H p o)) v d
  | _, _, .non => .non
  | _, _, .bl b => .bl b
  | _, _, .int i => .int i
  | _, _, .str x => .str x
  | _, _, .lst h a => .lst (h.imp (rd_dk hp (fun _ => HO.noConfusion)) id) (rpa_dk hp a)
  | _, _, .tup h a => .tup (h.imp (rd_dk hp (fun _ => HO.noConfusion)) id) (rpa_dk hp a)
theorem rpa_dk (hp : H p = some (.dK k1)) : ∀ {vs : List V} {ds : List PyData}, RpAll K (hide A H) vs ds → RpAll K (hide A (upd H p o)) vs ds
  | _, _, .nil => .nil
  | _, _, .cons h a => .cons (rp_dk hp h) (rpa_dk hp a)
end
theorem R.dk {c : Cn} {O : List Nat} {s : MS} {σ : L2.St} (r : R K c O s σ H) (hp : H p = some (.dK k1)) : R K c O s σ (upd H p o) where
  len := r.len
  sh := fun i d hi h => let ⟨v, h1, h2⟩ := r.sh i d hi h; ⟨v, h1, rp_dk hp h2⟩
  ow := fun i hi => let ⟨q, vs, ds, h1, h2, h3, h4, h5⟩ := r.ow i hi; ⟨q, vs, ds, h1, h2, by rw [upd_ne (by intro e; subst e; rw [hp] at h3; cases h3)]; exact h3, rpa_dk hp h4, h5⟩
  nd := r.nd
  cs := fun b h => by
    by_cases e : b = p
    · exact ⟨o, by rw [e]; exact upd_same⟩
    · rw [upd_ne e]; exact r.cs b h
  th := r.th
theorem R.notOwn {c : Cn} {O W : List Nat} {s : MS} {σ : L2.St} (r : R K c O s σ H) (hW : ∀ j ∈ W, j ∈ O) (hp : H p = some (.dK k1)) : ¬ Own W σ p := fun ⟨i, hi, e⟩ => by
  obtain ⟨q, vs, ds, h1, _, h3, _⟩ := r.ow i (hW i hi)
  rw [e] at h1
  cases h1
  rw [hp] at h3
  cases h3
end
def findK : List Str → List D → Str → Option D
  | k :: ks, d :: ds, z => if k = z then some d else findK ks ds z
  | _, _, _ => none
def pairsK (ks : List Str) (vs : List V) : List (Key × V) := (ks.zip vs).map fun p => (.inr p.1, p.2)
theorem findK_val {K : PySem.W.Frag} {H : Hp} : ∀ {ks : List Str} {vs : List V} {ds : List D} {z : Str} {d : D}, RpAll K H vs ds → findK ks ds z = some d → ∃ v, valV (pairsK ks vs) (.inr z) = some v ∧ Rp K H v d
  | [], _, ds, z, d, _, e => by cases ds <;> cases e
  | k :: ks, _, [], z, d, _, e => by cases e
  | k :: ks, _, d' :: ds, z, d, .cons (v := v) (vs := vs) h a, e => by
    unfold findK at e
    unfold pairsK
    rw [List.zip_cons_cons, List.map_cons]
    by_cases c : k = z
    · rw [if_pos c] at e
      cases e
      exact ⟨v, valV_pos (congrArg Sum.inr c), h⟩
    · rw [if_neg c] at e
      obtain ⟨v', h1, h2⟩ := findK_val a e
      exact ⟨v', by rw [valV_neg (by intro q; exact c (Sum.inr.inj q))]; exact h1, h2⟩
theorem merge_pairs : ∀ (ks : List Str) (vs : List V) (acc : List (Key × V)), ks.Nodup → (∀ k ∈ ks, ∀ p ∈ acc, p.1 ≠ .inr k) → mergeK acc (pairsK ks vs) = acc ++ pairsK ks vs
  | [], vs, acc, _, _ => by unfold pairsK mergeK; simp
  | k :: ks, [], acc, _, _ => by unfold pairsK mergeK; simp
  | k :: ks, v :: vs, acc, hn, hd => by
    have hn' := List.nodup_cons.mp hn
    have e1 : pairsK (k :: ks) (v :: vs) = (.inr k, v) :: pairsK ks vs := rfl
    have e2 : putK acc (.inr k) v = acc ++ [(.inr k, v)] := by
      unfold putK
      rw [if_neg]
      intro z
      obtain ⟨p, hp, e⟩ := List.any_eq_true.mp z
      exact hd k List.mem_cons_self p hp (of_decide_eq_true e)
    rw [e1]
    show mergeK (putK acc (.inr k) v) (pairsK ks vs) = _
    rw [e2, merge_pairs ks vs _ hn'.2 fun k' hk p hp => ?_, List.append_assoc]
    · rfl
    · rcases List.mem_append.mp hp with hp | hp
      · exact hd k' (List.mem_cons_of_mem _ hk) p hp
      · rw [List.mem_singleton.mp hp]
        intro e
        exact hn'.1 (by rw [Sum.inr.inj e]; exact hk)
def SimPs (K : PySem.W.Frag) (O L W : List Nat) (trs : List (TE × TE)) (ks : List Str) (m : MF) : Prop := ∀ (c : Cn) (σ : L2.St) (H : Hp) (s : MS), R K c O s σ H → ∀ ds s', m s = some (ds, s') → ∀ Q : List (V × V) → Hp → Prop,
  (∀ vs H', R K c O s' σ H' → Ex (hide (Own W σ) H) (hide (Own W σ) H') → RpAll K (hide (c.msk L σ) H') vs ds → ds.length = ks.length → Q ((ks.map V.str).zip vs) H') → tPairs trs σ H Q
def TrPs (Γ : G) (O L W : List Nat) (pos : Pos) (keys : List (Option Expr)) (values : List Expr) (ks : List Str) (m : MF) : Prop := ∃ trs, (∀ X, InG Γ X → PPs X pos keys values trs) ∧ SimPs Γ.K O L W trs ks m
section
variable {Γ : G} {O L L0 W : List Nat} {e : Expr} {keys : List (Option Expr)} {values : List Expr} {m : ME} {ms : MF} {pos dpos kpos : Pos} {ks : List Str}
theorem tp_nil : TrPs Γ O L W dpos [] [] [] xaNil := ⟨[], fun _ _ => pps_nil, fun c σ H s r ds s' e Q k => by cases e; exact k [] H r (Ex.refl _) .nil rfl⟩
theorem tp_cons {z : Str} {j : Nat} (h : TrE Γ O L W e m) (hs : TrPs Γ O L W dpos keys values ks ms) (hW : ∀ j ∈ W, j ∈ L) : TrPs Γ O L W dpos (some (.Constant (.str z) j kpos) :: keys) (e :: values) (z :: ks) (xaCons m ms) := by
  obtain ⟨t, p, q⟩ := h
  obtain ⟨trs, ps, qs⟩ := hs
  refine ⟨(tC (.str z), t) :: trs, fun X h => pps_cons pe_str (p X h) (ps X h), fun c σ H s r ds s' e Q k => ?_⟩
  obtain ⟨d, s1, es, e1, e2, rfl⟩ := xaCons_of e
  show t σ H _
  refine q c σ H s r _ _ e1 _ fun v H1 r1 x1 d1 => qs c σ H1 s1 r1 _ _ e2 _ fun vs H2 r2 x2 d2 hl => ?_
  exact k (v :: vs) H2 r2 (x1.trans x2) (.cons (dp_ex (keep hW x2) d1) d2) (by rw [List.length_cons, List.length_cons, hl])
def xDGet (ks : List Str) (m : MF) (e : ME) : ME := fun s => (m s).bind fun p => (e p.2).bind fun q => match q.1 with
  | .str z => (findK ks p.1 z).map fun d => (d, q.2)
  | _ => none
theorem zip_keys : ∀ (ks : List Str) (vs : List V), (ks.map V.str).zip vs = (pairsK ks vs).map fun kv => (kV kv.1, kv.2)
  | [], _ => rfl
  | _ :: _, [] => rfl
  | k :: ks, v :: vs => by
    show (V.str k, v) :: (ks.map V.str).zip vs = _
    rw [zip_keys ks vs]; rfl
theorem tr_dget {b : Expr} {mb : ME} (hu : Γ.A.units + 64 < cLine) (hv : TrPs Γ O L W dpos keys values ks ms) (hb : TrE Γ O L0 W b mb) (hW : ∀ j ∈ W, j ∈ L) (hO : ∀ j ∈ W, j ∈ O) (hn : ks.Nodup := by decide) (hall : keys.all (·.isSome) = true := by rfl) (hl : keys.length = values.length := by rfl) (h0 : keys ≠ [] := by intro h; cases h)
    (h15 : keys.length ≤ 15 := by decide) (k15 : ks.length ≤ 15 := by decide) (hs : NoSl b := by exact fun _ _ => rfl) : TrE Γ O L W (.Subscript (.Dict keys values dpos) b pos) (xDGet ks ms mb) := by
  obtain ⟨trs, p, q⟩ := hv
  obtain ⟨tb, pb, qb⟩ := hb
  refine ⟨tDGet (tDisp trs) tb, fun X h => ?_, fun c σ H s r d s' e Q k => ?_⟩
  · exact pe_dget (by rw [h.A]; omega) (pe_disp (p X h) hall hl h0 h15) (pb X h) hs
  · have e0 : ∃ ds s1 z, ms s = some (ds, s1) ∧ mb s1 = some (.str z, s') ∧ findK ks ds z = some d := by
      unfold xDGet at e
      obtain ⟨p1, a1, a2⟩ := bind_of e
      obtain ⟨p2, b1, b2⟩ := bind_of a2
      obtain ⟨d2, s2⟩ := p2
      cases d2 <;> first | (cases b2; done) | skip
      obtain ⟨d3, c1, c2⟩ := mapNx_of b2
      cases c2
      exact ⟨_, _, _, a1, b1, c1⟩
    obtain ⟨ds, s1, z, e1, e2, e3⟩ := e0
    intro a ha
    refine q c σ _ s (r.ex (ex_upd ha)) _ _ e1 _ fun vs H2 r2 x2 d2 hl2 => ?_
    have pa0 : (upd H a (.dK [])) a = some (.dK []) := upd_same
    have no1 : ¬ Own W σ a := (r.ex (ex_upd ha)).notOwn hO pa0
    have pa : H2 a = some (.dK []) := (of_hide (x2 _ _ (hide_of no1 pa0))).2
    refine ⟨pa, pairsK ks vs, zip_keys ks vs, ?_, ?_⟩
    · unfold pairsK
      rw [List.length_map, List.length_zip]
      exact Nat.le_trans (Nat.min_le_left _ _) k15
    rw [merge_pairs ks vs [] hn (fun _ _ _ h => absurd h (by simp)), List.nil_append]
    refine qb c σ _ s1 (r2.dk pa) _ _ e2 _ fun v H3 r3 x3 d3 => ?_
    cases d3
    obtain ⟨v', f1, f2⟩ := findK_val d2 e3
    have pb0 : (upd H2 a (.dK (pairsK ks vs))) a = some (.dK (pairsK ks vs)) := upd_same
    have no2 : ¬ Own W σ a := (r2.dk (o := .dK (pairsK ks vs)) pa).notOwn hO pb0
    have pc : H3 a = some (.dK (pairsK ks vs)) := (of_hide (x3 _ _ (hide_of no2 pb0))).2
    refine ⟨a, v', rfl, ?_, k v' H3 r3 ?_ (dp_ex (keep hW x3) (rp_dk pa f2))⟩
    · have := DGet.k (k := (.inr z : Key)) pc
      rw [f1] at this
      exact this
    · intro b o hb
      obtain ⟨n1, hb⟩ := of_hide hb
      have hne : b ≠ a := ne_of_none hb ha
      have b1 := x2 b o (hide_of n1 (by rw [upd_ne hne]; exact hb))
      obtain ⟨_, b1⟩ := of_hide b1
      exact x3 b o (hide_of n1 (by rw [upd_ne hne]; exact b1))
end
end Z


namespace Z
open PySem PySem.Spec PyProof.Rows L2
/-! ## operators by name -/
section
variable {Γ : G}
theorem u64 {k : Nat} {A : Around} (hr : Room k A) : A.units + 64 < cLine := by have := hr.un; omega
theorem ho_add : ∀ X, InG Γ X → OpR X (binaryOp .Add) rAddA := fun _ _ => op_addA
theorem ho_sub : ∀ X, InG Γ X → OpR X (binaryOp .Sub) (rI0 fun i j => .int (i - j)) := fun _ _ => op_sub
theorem ho_mul : ∀ X, InG Γ X → OpR X (binaryOp .Mult) (rI CMul fun i j => .int (i * j)) := fun _ _ => op_mul
theorem ho_mod : ∀ X, InG Γ X → OpR X (binaryOp .Mod) (rI (fun _ j => 0 < j) fun i j => .int (i % j)) := fun _ _ => op_mod
theorem ho_div : ∀ X, InG Γ X → OpR X (binaryOp .FloorDiv) (rI CDiv fun i j => .int (i / j)) := fun _ _ => op_fdiv
theorem ho_pow : ∀ X, InG Γ X → OpR X (binaryOp .Pow) (rI CPow fun i j => .int (i ^ j.toNat)) := fun _ _ => op_pow
theorem ho_lt : ∀ X, InG Γ X → OpR X (compareOp .Lt) (rI0 fun i j => .bl (decide (i < j))) := fun _ _ => op_lt
theorem ho_le : ∀ X, InG Γ X → OpR X (compareOp .LtE) (rI0 fun i j => .bl (decide (i ≤ j))) := fun _ _ => op_le
theorem ho_gt : ∀ X, InG Γ X → OpR X (compareOp .Gt) (rI0 fun i j => .bl (decide (i > j))) := fun _ _ => op_gt
theorem ho_ge : ∀ X, InG Γ X → OpR X (compareOp .GtE) (rI0 fun i j => .bl (decide (i ≥ j))) := fun _ _ => op_ge
theorem ho_eq (hu : Γ.A.units + 64 < cLine) : ∀ X, InG Γ X → OpR X (compareOp .Eq) (rEqD Γ.K) := fun X h => by rw [← h.K]; exact op_eqD (by rw [h.A]; exact hu)
theorem ho_ne (hu : Γ.A.units + 64 < cLine) : ∀ X, InG Γ X → OpR X (compareOp .NotEq) (rNeD Γ.K) := fun X h => by rw [← h.K]; exact op_neD (by rw [h.A]; exact hu)
theorem ho_in : ∀ X, InG Γ X → OpR X (compareOp .In) (rIn Γ.K false) := fun X h => by rw [← h.K]; exact op_in_seq
theorem ho_nin : ∀ X, InG Γ X → OpR X (compareOp .NotIn) (rIn Γ.K true) := fun X h => by rw [← h.K]; exact op_notIn_seq
end
def dAddI : D → D → Option D
  | .int a, .int b => some (.int (a + b))
  | _, _ => none
theorem rs_addI {K : PySem.W.Frag} : RS K (rI0 fun i j => .int (i + j)) dAddI := fun H x y dx dy dz hx hy e Q q => by
  cases dx <;> first | (cases e; done) | skip
  cases dy <;> first | (cases e; done) | skip
  cases e; cases hx; cases hy
  exact ⟨_, _, rfl, rfl, q _ fun _ => .int _⟩
section
variable {Γ : G}
theorem ho_iadd : ∀ X, InG Γ X → OpR X (inplaceOp .Add) (rI0 fun i j => .int (i + j)) := fun _ _ => iop_add
theorem ho_isub : ∀ X, InG Γ X → OpR X (inplaceOp .Sub) (rI0 fun i j => .int (i - j)) := fun _ _ => iop_sub
theorem ho_imul : ∀ X, InG Γ X → OpR X (inplaceOp .Mult) (rI CMul fun i j => .int (i * j)) := fun _ _ => iop_mul
theorem ho_imod : ∀ X, InG Γ X → OpR X (inplaceOp .Mod) (rI (fun _ j => 0 < j) fun i j => .int (i % j)) := fun _ _ => iop_mod
theorem ho_idiv : ∀ X, InG Γ X → OpR X (inplaceOp .FloorDiv) (rI CDiv fun i j => .int (i / j)) := fun _ _ => iop_fdiv
end
def dNeg : D → Option D
  | .int i => some (.int (-i))
  | _ => none
section
variable {Γ : G} {O L L0 W : List Nat} {a : Expr} {ma : ME} {pos : Pos}
theorem tr_neg (ha : TrE Γ O L0 W a ma) : TrE Γ O L W (.UnaryOp .USub a pos) (xUn dNeg ma) := by
  obtain ⟨t, p, q⟩ := ha
  refine ⟨tUn (rU fun i => .int (-i)) t, fun X h => pe_un un_neg (p X h), fun c σ H s r d s' e Q k => ?_⟩
  obtain ⟨x, e1, e2⟩ := xUn_of e
  refine q c σ H s r _ _ e1 _ fun v H1 r1 x1 d1 => ?_
  cases x <;> first | (cases e2; done) | skip
  cases e2
  cases d1
  exact ⟨_, rfl, k _ H1 r1 x1 (.int _)⟩
end
end Z


namespace Z
open PySem PySem.Spec PyProof.Rows L2
/-! ## the head's facts as the layer takes them -/
def dvD : He.Dv → Option D
  | .non => some .none
  | .bl b => some (.bool b)
  | .int i => some (.int i)
  | .str x => some (.str x)
  | _ => none
def dvK : List (Str × He.Dv) → Str → Option D
  | [], _ => none
  | q :: r, z => if q.1 = z then dvD q.2 else dvK r z
theorem dvD_rp {K : PySem.W.Frag} {v : He.Dv} {d : D} (h : dvD v = some d) (M : Hp) : Rp K M (v.v K) d := by
  cases v <;> cases h
  · exact .non
  · exact .bl _
  · exact .int _
  · exact .str _
theorem dvK_mem : ∀ {kvs : List (Str × He.Dv)} {z : Str} {d : D}, dvK kvs z = some d → ∃ q ∈ kvs, q.1 = z ∧ dvD q.2 = some d
  | [], _, _, h => by cases h
  | q :: r, z, d, h => by
    unfold dvK at h
    split at h
    · exact ⟨q, List.mem_cons_self, ‹_›, h⟩
    · obtain ⟨q', h1, h2⟩ := dvK_mem h
      exact ⟨q', List.mem_cons_of_mem _ h1, h2⟩
def dvL : List He.Dv → Option (List D)
  | [] => some []
  | v :: r => (dvD v).bind fun d => (dvL r).map fun ds => d :: ds
theorem dvL_rp {K : PySem.W.Frag} (M : Hp) : ∀ {vs : List He.Dv} {ds : List D}, dvL vs = some ds → RpAll K M (vs.map (He.Dv.v K)) ds
  | [], _, h => by cases h; exact .nil
  | v :: r, ds, h => by
    unfold dvL at h
    obtain ⟨d, e1, e2⟩ := bind_of h
    obtain ⟨es, e3, e4⟩ := mapNx_of e2
    cases e4
    exact .cons (dvD_rp e1 M) (dvL_rp M e3)
section
variable {K : PySem.W.Frag} {w : World} {h : Heap} {mg : Str → Option Value} {x : Str}
theorem kdm_of {a : Addr} {kvs : List (Str × He.Dv)} (D : ∃ es n, KDict K w a es n) (hv : He.valsB K a kvs = true) : KDm K w a (dvK kvs) := fun z d e => by
  obtain ⟨es, n, D⟩ := D
  obtain ⟨q, h1, h2, h3⟩ := dvK_mem e
  obtain ⟨u, e1, e2⟩ := He.valsB_ok hv h1
  rw [h2] at e1
  exact ⟨_, ⟨es, n, u, D.at_, D.lit, e1, e2⟩, dvD_rp h3⟩
theorem gc_int (X : K.In h) (G : h.Ns mainGlobals mg) {i : Int} (c : (He.Fa.int x i).ok K = true) : ∃ u v, mg x = some u ∧ RelV v u ∧ ∀ M, Rp K M v (.int i) := by
  obtain ⟨t, e⟩ := He.int_ok X G c
  exact ⟨_, .int i, e, ⟨t, rfl⟩, fun M => .int i⟩
theorem gc_str (X : K.In h) (G : h.Ns mainGlobals mg) {z : Str} (c : (He.Fa.str x z).ok K = true) : ∃ u v, mg x = some u ∧ RelV v u ∧ ∀ M, Rp K M v (.str z) := by
  obtain ⟨t, e⟩ := He.str_ok X G c
  exact ⟨_, .str z, e, ⟨t, rfl⟩, fun M => .str z⟩
theorem gc_lst (X : K.In h) (G : h.Ns mainGlobals mg) (c : (He.Fa.glo x).ok K = true) {vs : List He.Dv} {ds : List D} (hl : He.lstB K x vs = true) (e : dvL vs = some ds) : ∃ u v, mg x = some u ∧ RelV v u ∧ ∀ M, Rp K M v (.list ds) :=
  ⟨_, .ref (He.ga K x), He.glo_ok X G c, rfl, fun M => .lst (He.lstB_ok hl M) (dvL_rp M e)⟩
theorem gc_tup (X : K.In h) (G : h.Ns mainGlobals mg) (c : (He.Fa.glo x).ok K = true) {vs : List He.Dv} {ds : List D} (hl : He.tupB K x vs = true) (e : dvL vs = some ds) : ∃ u v, mg x = some u ∧ RelV v u ∧ ∀ M, Rp K M v (.tuple ds) :=
  ⟨_, .ref (He.ga K x), He.glo_ok X G c, rfl, fun M => .tup (He.tupB_ok hl M) (dvL_rp M e)⟩
end
theorem fnAtD {P : Program} {w : World} {K : PySem.W.Frag} {mg : Str → Option Value} {base : Heap} {k : Nat} {x : Str} {st : Stmt} {f : Addr} {fd : FuncData} {ps : List Str} {sp : Sp} (F : FnP K x x st f fd) (G : FnOk P w K mg base CX0 k f fd ps sp) (hm : mg x = some (.ref f))
    (h : ∀ (kV doc pm : Value) (an : Option Addr) (cdv ct : Value) (us : List Value), us.length = ps.length → bindArgs (PySem.W.fnOf x x (defArgs st) (defBody st) (defScope st) .none kV doc pm an cdv ct) ⟨us, []⟩ = pure (ps.zip us)) : FnAt P w K mg base k x ps sp :=
  ⟨f, fd, G, hm, F.kp, F.bindsN h⟩
def defD (x : Str) (st : Stmt) : He.DefD := ⟨(x, none), x, x, defArgs st, defBody st, defScope st, [], []⟩
def anyMem (x : Str) (xs : List Str) : Bool := xs.any (· == x)
end Z


namespace Z
open PySem PySem.Spec PyProof.Rows L2
/-! ## mirrors, run: one row a combinator; what follows is held back in a word of its own until the first part is told -/
def bE {α β : Type} (o : Option (α × MS)) (k : α → MS → Option β) : Option β := o.bind fun p => k p.1 p.2
@[simp] theorem bE_some {α β : Type} (x : α) (s : MS) (k : α → MS → Option β) : bE (some (x, s)) k = k x s := by
  unfold bE; rw [Option.bind_some]
@[simp] theorem bE_none {α β : Type} (k : α → MS → Option β) : bE (none : Option (α × MS)) k = none := rfl
def ret1 {α : Type} (o : Option α) (s : MS) : Option (α × MS) := o.map fun z => (z, s)
@[simp] theorem ret1_some {α : Type} (x : α) (s : MS) : ret1 (some x) s = some (x, s) := rfl
@[simp] theorem ret1_none {α : Type} (s : MS) : ret1 (none : Option α) s = none := rfl
section
variable (f : D → D → Option D) (g : D → Option D) (h : List D → Option D) (hl : List D → Option (List D)) (a b : ME) (as bs : MF) (t u : MT) (m n : MM) (i j : Nat) (s : MS) (x y : D) (xs ys : List D) (p : Bool)
@[simp] theorem xVar_ap : xVar i s = ret1 (s.getD i none) s := rfl
@[simp] theorem xC_ap : xC x s = some (x, s) := rfl
def kOp1 : D → MS → Option (D × MS) := fun x s => bE (b s) fun y s => ret1 (f x y) s
def kOp2 : D → MS → Option (D × MS) := fun y s => ret1 (f x y) s
@[simp] theorem xOp_ap : xOp f a b s = bE (a s) (kOp1 f b) := rfl
@[simp] theorem kOp1_ap : kOp1 f b x s = bE (b s) (kOp2 f x) := rfl
@[simp] theorem kOp2_ap : kOp2 f x y s = ret1 (f x y) s := rfl
def kUn : D → MS → Option (D × MS) := fun x s => ret1 (g x) s
@[simp] theorem xUn_ap : xUn g a s = bE (a s) (kUn g) := rfl
@[simp] theorem kUn_ap : kUn g x s = ret1 (g x) s := rfl
@[simp] theorem xaNil_ap : xaNil s = some ([], s) := rfl
def kC1 : D → MS → Option (List D × MS) := fun x s => (bs s).map fun q => (x :: q.1, q.2)
def kC2 : List D → MS → Option (List D × MS) := fun ys s => some (x :: ys, s)
@[simp] theorem xaCons_ap : xaCons a bs s = bE (a s) (kC1 bs) := rfl
@[simp] theorem kC1_ap : kC1 bs x s = bE (bs s) (kC2 x) := by
  show (bs s).map _ = _
  cases bs s <;> rfl
@[simp] theorem kC2_ap : kC2 x ys s = some (x :: ys, s) := rfl
def kFn : List D → MS → Option (D × MS) := fun xs s => ret1 (h xs) s
@[simp] theorem xFn_ap : xFn h as s = bE (as s) (kFn h) := rfl
@[simp] theorem kFn_ap : kFn h xs s = ret1 (h xs) s := rfl
def kfFn : List D → MS → Option (List D × MS) := fun xs s => ret1 (hl xs) s
@[simp] theorem xfFn_ap : xfFn hl as s = bE (as s) (kfFn hl) := rfl
@[simp] theorem xfMap_ap : xfMap hl as s = bE (as s) (kfFn hl) := rfl
@[simp] theorem kfFn_ap : kfFn hl xs s = ret1 (hl xs) s := rfl
def kLst : List D → MS → Option (D × MS) := fun xs s => some (.list xs, s)
@[simp] theorem xLst_ap : xLst as s = bE (as s) kLst := by
  show (as s).map _ = _
  cases as s <;> rfl
@[simp] theorem kLst_ap : kLst xs s = some (.list xs, s) := rfl
def kTup : List D → MS → Option (D × MS) := fun xs s => if xs.length ≤ 1000 then some (.tuple xs, s) else none
@[simp] theorem xTup_ap : xTup as s = bE (as s) kTup := rfl
@[simp] theorem kTup_ap : kTup xs s = if xs.length ≤ 1000 then some (.tuple xs, s) else none := rfl
def kT : D → MS → Option (Bool × MS) := fun x s => match x with
  | .bool b => some (b, s)
  | _ => none
@[simp] theorem xT_ap : xT a s = bE (a s) kT := rfl
@[simp] theorem kT_ap : kT (.bool p) s = some (p, s) := rfl
def kB : Bool → MS → Option (D × MS) := fun p s => some (.bool p, s)
@[simp] theorem xB_ap : xB t s = bE (t s) kB := by
  show (t s).map _ = _
  cases t s <;> rfl
@[simp] theorem kB_ap : kB p s = some (.bool p, s) := rfl
def kAnd : Bool → MS → Option (Bool × MS) := fun p s => if p = true then u s else some (false, s)
def kOr : Bool → MS → Option (Bool × MS) := fun p s => if p = true then some (true, s) else u s
@[simp] theorem xAnd_ap : xAnd t u s = bE (t s) (kAnd u) := rfl
@[simp] theorem xOr_ap : xOr t u s = bE (t s) (kOr u) := rfl
@[simp] theorem kAnd_t : kAnd u true s = u s := rfl
@[simp] theorem kAnd_f : kAnd u false s = some (false, s) := rfl
@[simp] theorem kOr_t : kOr u true s = some (true, s) := rfl
@[simp] theorem kOr_f : kOr u false s = u s := rfl
def kNot : Bool → MS → Option (Bool × MS) := fun p s => some (!p, s)
@[simp] theorem xNot_ap : xNot t s = bE (t s) kNot := by
  show (t s).map _ = _
  cases t s <;> rfl
@[simp] theorem kNot_ap : kNot p s = some (!p, s) := rfl
def kIf : Bool → MS → Option (D × MS) := fun p s => if p = true then a s else b s
@[simp] theorem xIf_ap : xIf t a b s = bE (t s) (kIf a b) := rfl
@[simp] theorem kIf_t : kIf a b true s = a s := rfl
@[simp] theorem kIf_f : kIf a b false s = b s := rfl
def kSeq : D → MS → Option (List D × MS) := fun x s => ret1 (seqOf x) s
@[simp] theorem xSeq_ap : xSeq a s = bE (a s) kSeq := rfl
@[simp] theorem kSeq_ap : kSeq x s = ret1 (seqOf x) s := rfl
@[simp] theorem seqOf_l : seqOf (.list xs) = some xs := rfl
@[simp] theorem seqOf_t : seqOf (.tuple xs) = some xs := rfl
def ownO : Option D → Option (List D)
  | some (.list ds) => some ds
  | _ => none
@[simp] theorem ownO_l : ownO (some (.list xs)) = some xs := rfl
@[simp] theorem xOwn_ap : xOwn i s = ret1 (ownO (s.getD i none)) s := by
  unfold xOwn ret1 ownO
  cases s.getD i none with
  | none => rfl
  | some d => cases d <;> rfl
def kIxOwn (i : Nat) : D → MS → Option (D × MS) := fun k s => match k, s.getD i none with
  | .int k, some (.list ds) => (atI ds k).map fun z => (z, s)
  | _, _ => none
@[simp] theorem xIxOwn_ap : xIxOwn i b s = bE (b s) (kIxOwn i) := rfl
def ixL (k : Int) : Option D → Option D
  | some (.list ds) => atI ds k
  | _ => none
@[simp] theorem ixL_l (k : Int) : ixL k (some (.list xs)) = atI xs k := rfl
@[simp] theorem kIxOwn_ap (k : Int) : kIxOwn i (.int k) s = ret1 (ixL k (s.getD i none)) s := by
  unfold kIxOwn ret1 ixL
  cases s.getD i none with
  | none => rfl
  | some d => cases d <;> rfl
def kList : D → MS → Option (List D × MS) := fun x s => match x with
  | .list ds => some (ds, s)
  | _ => none
@[simp] theorem xList_ap : xList a s = bE (a s) kList := rfl
@[simp] theorem kList_ap : kList (.list xs) s = some (xs, s) := rfl
def kDisp : List D → MS → Option (List D × MS) := fun xs s => if xs.length ≤ 1000 then some (xs, s) else none
@[simp] theorem xDisp_ap : xDisp as s = bE (as s) kDisp := rfl
@[simp] theorem kDisp_ap : kDisp xs s = if xs.length ≤ 1000 then some (xs, s) else none := rfl
def kCat1 : List D → MS → Option (List D × MS) := fun xs s => (bs s).bind fun q => if xs.length + q.1.length ≤ 1000000 then some (xs ++ q.1, q.2) else none
def kCat2 : List D → MS → Option (List D × MS) := fun ys s => if xs.length + ys.length ≤ 1000000 then some (xs ++ ys, s) else none
@[simp] theorem xCat_ap : xCat as bs s = bE (as s) (kCat1 bs) := rfl
@[simp] theorem kCat1_ap : kCat1 bs xs s = bE (bs s) (kCat2 xs) := rfl
@[simp] theorem kCat2_ap : kCat2 xs ys s = if xs.length + ys.length ≤ 1000000 then some (xs ++ ys, s) else none := rfl
def kRg1 : D → MS → Option (List D × MS) := fun x s => match x with
  | .int n => if n ≤ 1000000 ∧ -1000000 ≤ n then some (dRg 0 n, s) else none
  | _ => none
@[simp] theorem xRg1_ap : xRg1 a s = bE (a s) kRg1 := rfl
@[simp] theorem kRg1_ap (n : Int) : kRg1 (.int n) s = if n ≤ 1000000 ∧ -1000000 ≤ n then some (dRg 0 n, s) else none := rfl
def kRg21 : D → MS → Option (List D × MS) := fun x s => (b s).bind fun q => match x, q.1 with
  | .int x, .int n => if (n ≤ 1000000 ∧ -1000000 ≤ n) ∧ (x ≤ 1000000 ∧ -1000000 ≤ x) then some (dRg x n, q.2) else none
  | _, _ => none
def kRg22 : D → MS → Option (List D × MS) := fun y s => match x, y with
  | .int x, .int n => if (n ≤ 1000000 ∧ -1000000 ≤ n) ∧ (x ≤ 1000000 ∧ -1000000 ≤ x) then some (dRg x n, s) else none
  | _, _ => none
@[simp] theorem xRg2_ap : xRg2 a b s = bE (a s) (kRg21 b) := rfl
@[simp] theorem kRg21_ap : kRg21 b x s = bE (b s) (kRg22 x) := rfl
@[simp] theorem kRg22_ap (x n : Int) : kRg22 (.int x) (.int n) s = if (n ≤ 1000000 ∧ -1000000 ≤ n) ∧ (x ≤ 1000000 ∧ -1000000 ≤ x) then some (dRg x n, s) else none := rfl
@[simp] theorem xoNone_ap : xoNone s = some (none, s) := rfl
def kSm : D → MS → Option (Option Int × MS) := fun x s => match x with
  | .int n => some (some n, s)
  | _ => none
@[simp] theorem xoSome_ap : xoSome a s = bE (a s) kSm := rfl
@[simp] theorem kSm_ap (n : Int) : kSm (.int n) s = some (some n, s) := rfl
def kSl1 (f : List D → Option Int → Option Int → List D) (l h : MS → Option (Option Int × MS)) : List D → MS → Option (List D × MS) := fun xs s => (l s).bind fun q => (h q.2).map fun w => (f xs q.1 w.1, w.2)
def kSl2 (f : List D → Option Int → Option Int → List D) (h : MS → Option (Option Int × MS)) (xs : List D) : Option Int → MS → Option (List D × MS) := fun o s => (h s).map fun w => (f xs o w.1, w.2)
def kSl3 (f : List D → Option Int → Option Int → List D) (xs : List D) (o : Option Int) : Option Int → MS → Option (List D × MS) := fun o2 s => some (f xs o o2, s)
@[simp] theorem xSl_ap (f : List D → Option Int → Option Int → List D) (l h : MS → Option (Option Int × MS)) : xSl f as l h s = bE (as s) (kSl1 f l h) := rfl
@[simp] theorem kSl1_ap (f : List D → Option Int → Option Int → List D) (l h : MS → Option (Option Int × MS)) : kSl1 f l h xs s = bE (l s) (kSl2 f h xs) := rfl
@[simp] theorem kSl2_ap (f : List D → Option Int → Option Int → List D) (h : MS → Option (Option Int × MS)) (o : Option Int) : kSl2 f h xs o s = bE (h s) (kSl3 f xs o) := by
  show (h s).map _ = _
  cases h s <;> rfl
@[simp] theorem kSl3_ap (f : List D → Option Int → Option Int → List D) (o o2 : Option Int) : kSl3 f xs o o2 s = some (f xs o o2, s) := rfl
def kSs1 (l h : MS → Option (Option Int × MS)) : D → MS → Option (D × MS) := fun x s => (l s).bind fun q => (h q.2).bind fun w => match x with
  | .str z => if z.length ≤ 1000000 then some (.str (cutS z q.1 w.1), w.2) else none
  | _ => none
def kSs2 (h : MS → Option (Option Int × MS)) (x : D) : Option Int → MS → Option (D × MS) := fun o s => (h s).bind fun w => match x with
  | .str z => if z.length ≤ 1000000 then some (.str (cutS z o w.1), w.2) else none
  | _ => none
def kSs3 (x : D) (o : Option Int) : Option Int → MS → Option (D × MS) := fun o2 s => match x with
  | .str z => if z.length ≤ 1000000 then some (.str (cutS z o o2), s) else none
  | _ => none
@[simp] theorem xSlS_ap (l h : MS → Option (Option Int × MS)) : xSlS a l h s = bE (a s) (kSs1 l h) := rfl
@[simp] theorem kSs1_ap (l h : MS → Option (Option Int × MS)) : kSs1 l h x s = bE (l s) (kSs2 h x) := rfl
@[simp] theorem kSs2_ap (h : MS → Option (Option Int × MS)) (o : Option Int) : kSs2 h x o s = bE (h s) (kSs3 x o) := rfl
@[simp] theorem kSs3_ap (z : Str) (o o2 : Option Int) : kSs3 (.str z) o o2 s = if z.length ≤ 1000000 then some (.str (cutS z o o2), s) else none := rfl
def kMt1 (f : D → List D → Option D) : D → MS → Option (D × MS) := fun x s => (as s).bind fun q => (f x q.1).map fun z => (z, q.2)
def kMt2 (f : D → List D → Option D) (x : D) : List D → MS → Option (D × MS) := fun xs s => ret1 (f x xs) s
@[simp] theorem xMt_ap (f : D → List D → Option D) : xMt f a as s = bE (a s) (kMt1 as f) := rfl
@[simp] theorem kMt1_ap (f : D → List D → Option D) : kMt1 as f x s = bE (as s) (kMt2 f x) := rfl
@[simp] theorem kMt2_ap (f : D → List D → Option D) : kMt2 f x xs s = ret1 (f x xs) s := rfl
def kfMt1 (f : D → List D → Option (List D)) : D → MS → Option (List D × MS) := fun x s => (as s).bind fun q => (f x q.1).map fun z => (z, q.2)
def kfMt2 (f : D → List D → Option (List D)) (x : D) : List D → MS → Option (List D × MS) := fun xs s => ret1 (f x xs) s
@[simp] theorem xfMt_ap (f : D → List D → Option (List D)) : xfMt f a as s = bE (a s) (kfMt1 as f) := rfl
@[simp] theorem kfMt1_ap (f : D → List D → Option (List D)) : kfMt1 as f x s = bE (as s) (kfMt2 f x) := rfl
@[simp] theorem kfMt2_ap (f : D → List D → Option (List D)) : kfMt2 f x xs s = ret1 (f x xs) s := rfl
def kTru : D → MS → Option (Bool × MS) := fun x s => ret1 (dTru x) s
@[simp] theorem xTru_ap : xTru a s = bE (a s) kTru := rfl
@[simp] theorem kTru_ap : kTru x s = ret1 (dTru x) s := rfl
def kAndV : Bool → MS → Option (D × MS) := fun p s => if p = true then b s else some (.bool false, s)
def kOrV : Bool → MS → Option (D × MS) := fun p s => if p = true then some (.bool true, s) else b s
@[simp] theorem xAndV_ap : xAndV t b s = bE (t s) (kAndV b) := rfl
@[simp] theorem xOrV_ap : xOrV t b s = bE (t s) (kOrV b) := rfl
@[simp] theorem kAndV_t : kAndV b true s = b s := rfl
@[simp] theorem kAndV_f : kAndV b false s = some (.bool false, s) := rfl
@[simp] theorem kOrV_t : kOrV b true s = some (.bool true, s) := rfl
@[simp] theorem kOrV_f : kOrV b false s = b s := rfl
def kCT (i : Nat) (f : List D → List D → Option (D × List D)) : List D → MS → Option (D × MS) := fun xs s => match s.getD i none with
  | some (.list fs) => (f fs xs).map fun q => (q.1, s.set i (some (.list q.2)))
  | _ => none
@[simp] theorem xCallT_ap (f : List D → List D → Option (D × List D)) : xCallT i f as s = bE (as s) (kCT i f) := rfl
def ctO (f : List D → List D → Option (D × List D)) (xs : List D) : Option D → Option (D × List D)
  | some (.list fs) => f fs xs
  | _ => none
@[simp] theorem ctO_l (f : List D → List D → Option (D × List D)) : ctO f xs (some (.list ys)) = f ys xs := rfl
def retT (i : Nat) (o : Option (D × List D)) (s : MS) : Option (D × MS) := o.map fun q => (q.1, s.set i (some (.list q.2)))
@[simp] theorem retT_some : retT i (some (x, xs)) s = some (x, s.set i (some (.list xs))) := rfl
@[simp] theorem kCT_ap (f : List D → List D → Option (D × List D)) : kCT i f xs s = retT i (ctO f xs (s.getD i none)) s := by
  unfold kCT ctO retT
  cases s.getD i none with
  | none => rfl
  | some d => cases d <;> rfl
def kEnum : List D → MS → Option (List D × MS) := fun xs s => some (xs.mapIdx fun i d => .tuple [.int (i : Nat), d], s)
@[simp] theorem xEnum_ap : xEnum as s = bE (as s) kEnum := by
  show (as s).map _ = _
  cases as s <;> rfl
@[simp] theorem kEnum_ap : kEnum xs s = some (xs.mapIdx fun i d => .tuple [.int (i : Nat), d], s) := rfl
def kZip1 : List D → MS → Option (List D × MS) := fun xs s => (bs s).map fun q => ((xs.zip q.1).map fun w => .tuple [w.1, w.2], q.2)
def kZip2 : List D → MS → Option (List D × MS) := fun ys s => some ((xs.zip ys).map fun w => .tuple [w.1, w.2], s)
@[simp] theorem xZip_ap : xZip as bs s = bE (as s) (kZip1 bs) := rfl
@[simp] theorem kZip1_ap : kZip1 bs xs s = bE (bs s) (kZip2 xs) := by
  show (bs s).map _ = _
  cases bs s <;> rfl
@[simp] theorem kZip2_ap : kZip2 xs ys s = some ((xs.zip ys).map fun w => .tuple [w.1, w.2], s) := rfl
def kSigns : D → MS → Option (List D × MS) := fun x s => match x with
  | .str z => some (z.cps.toList.map fun k => .str ⟨#[k]⟩, s)
  | _ => none
@[simp] theorem xSigns_ap : xSigns a s = bE (a s) kSigns := rfl
@[simp] theorem kSigns_ap (z : Str) : kSigns (.str z) s = some (z.cps.toList.map fun k => .str ⟨#[k]⟩, s) := rfl
@[simp] theorem bName_ap : bName i x s = some (s.set i (some x)) := rfl
@[simp] theorem bNil_ap : bNil [] s = some s := rfl
def bO (o : Option MS) (k : MS → Option MS) : Option MS := o.bind k
@[simp] theorem bO_some (k : MS → Option MS) : bO (some s) k = k s := by
  unfold bO; rw [Option.bind_some]
@[simp] theorem bCons_ap (b : D → MS → Option MS) (r : List D → MS → Option MS) : bCons b r (x :: xs) s = bO (b x s) (r xs) := rfl
@[simp] theorem bTup_ap (r : List D → MS → Option MS) : bTup i r (.tuple xs) s = if xs.length = i then r xs s else none := rfl
@[simp] theorem xYes_ap : xYes s = some (true, s) := rfl
/-! statements -/
def thenM (o : Option Out) (b : MM) : Option Out := o.bind fun o => match o with
  | .nx s' => b s'
  | o => some o
@[simp] theorem mSeq_ap : mSeq m n s = thenM (m s) n := rfl
@[simp] theorem then_nx : thenM (some (.nx s)) n = n s := by
  unfold thenM; rw [Option.bind_some]
@[simp] theorem then_rt : thenM (some (.rt x s)) n = some (.rt x s) := rfl
@[simp] theorem then_ex (x : Exn) : thenM (some (.ex x s)) n = some (.ex x s) := rfl
@[simp] theorem then_bk : thenM (some (.bk s)) n = some (.bk s) := rfl
@[simp] theorem then_ct : thenM (some (.ct s)) n = some (.ct s) := rfl
@[simp] theorem mSkip_ap : mSkip s = some (.nx s) := rfl
def kSet (i : Nat) : D → MS → Option Out := fun x s => some (.nx (s.set i (some x)))
@[simp] theorem mSet_ap : mSet i a s = bE (a s) (kSet i) := by
  show (a s).map _ = _
  cases a s <;> rfl
@[simp] theorem kSet_ap : kSet i x s = some (.nx (s.set i (some x))) := rfl
def kSetF (i : Nat) : List D → MS → Option Out := fun xs s => if i < s.length then some (.nx (s.set i (some (.list xs)))) else none
@[simp] theorem mSetF_ap : mSetF i as s = bE (as s) (kSetF i) := rfl
@[simp] theorem kSetF_ap : kSetF i xs s = if i < s.length then some (.nx (s.set i (some (.list xs)))) else none := rfl
def kAsg (b : D → MS → Option MS) : D → MS → Option Out := fun x s => (b x s).map .nx
@[simp] theorem mAsg_ap (b : D → MS → Option MS) : mAsg a b s = bE (a s) (kAsg b) := rfl
@[simp] theorem kAsg_ap (b : D → MS → Option MS) : kAsg b x s = (b x s).map .nx := rfl
def kPar (i j : Nat) : List D → MS → Option Out := fun xs s => match xs with
  | [x, y] => some (.nx ((s.set i (some x)).set j (some y)))
  | _ => none
@[simp] theorem mPar_ap : mPar i j as s = bE (as s) (kPar i j) := rfl
@[simp] theorem kPar_ap : kPar i j [x, y] s = some (.nx ((s.set i (some x)).set j (some y))) := rfl
def kIfM : Bool → MS → Option Out := fun p s => if p = true then m s else n s
@[simp] theorem mIf_ap : mIf t m n s = bE (t s) (kIfM m n) := rfl
@[simp] theorem kIfM_t : kIfM m n true s = m s := rfl
@[simp] theorem kIfM_f : kIfM m n false s = n s := rfl
def kRet : D → MS → Option Out := fun x s => some (.rt x s)
@[simp] theorem mRet_ap : mRet a s = bE (a s) kRet := by
  show (a s).map _ = _
  cases a s <;> rfl
@[simp] theorem kRet_ap : kRet x s = some (.rt x s) := rfl
def kRetF : List D → MS → Option Out := fun xs s => some (.rt (.list xs) s)
@[simp] theorem mRetF_ap : mRetF as s = bE (as s) kRetF := by
  show (as s).map _ = _
  cases as s <;> rfl
@[simp] theorem kRetF_ap : kRetF xs s = some (.rt (.list xs) s) := rfl
@[simp] theorem mRetN_ap : mRetN s = some (.rt .none s) := rfl
def kDrop : D → MS → Option Out := fun _ s => some (.nx s)
@[simp] theorem mDrop_ap : mDrop a s = bE (a s) kDrop := by
  show (a s).map _ = _
  cases a s <;> rfl
@[simp] theorem kDrop_ap : kDrop x s = some (.nx s) := rfl
@[simp] theorem mBrk_ap : mBrk s = some (.bk s) := rfl
@[simp] theorem mCt_ap : mCt s = some (.ct s) := rfl
def fgt (vs : List Nat) (o : Option Out) : Option Out := o.map fun o => match o with
  | .nx s' => .nx (wipeM s' vs)
  | o => o
@[simp] theorem mForget_ap (vs : List Nat) : mForget vs m s = fgt vs (m s) := rfl
@[simp] theorem fgt_nx (vs : List Nat) : fgt vs (some (.nx s)) = some (.nx (wipeM s vs)) := rfl
@[simp] theorem fgt_rt (vs : List Nat) : fgt vs (some (.rt x s)) = some (.rt x s) := rfl
@[simp] theorem fgt_ex (vs : List Nat) (x : Exn) : fgt vs (some (.ex x s)) = some (.ex x s) := rfl
@[simp] theorem fgt_bk (vs : List Nat) : fgt vs (some (.bk s)) = some (.bk s) := rfl
@[simp] theorem fgt_ct (vs : List Nat) : fgt vs (some (.ct s)) = some (.ct s) := rfl
@[simp] theorem wipeM_nil : wipeM s [] = s := rfl
@[simp] theorem wipeM_cons (v : Nat) (vs : List Nat) : wipeM s (v :: vs) = (wipeM s vs).set v none := rfl
@[simp] theorem unwipe_nil (s0 : MS) : unwipe s0 s [] = s := rfl
@[simp] theorem unwipe_cons (s0 : MS) (v : Nat) (vs : List Nat) : unwipe s0 s (v :: vs) = (unwipe s0 s vs).set v (s0.getD v none) := rfl
def kApp (i : Nat) : D → MS → Option Out := fun x s => match s.getD i none with
  | some (.list ds) => if ds.length ≤ 1000000 then some (.nx (s.set i (some (.list (ds ++ [x]))))) else none
  | _ => none
def appO (i : Nat) (x : D) (s : MS) : Option D → Option Out
  | some (.list ds) => if ds.length ≤ 1000000 then some (.nx (s.set i (some (.list (ds ++ [x]))))) else none
  | _ => none
@[simp] theorem mApp_ap : mApp i a s = bE (a s) (kApp i) := rfl
@[simp] theorem kApp_ap : kApp i x s = appO i x s (s.getD i none) := by
  unfold kApp appO
  cases s.getD i none with
  | none => rfl
  | some d => cases d <;> rfl
@[simp] theorem appO_l : appO i x s (some (.list xs)) = if xs.length ≤ 1000000 then some (.nx (s.set i (some (.list (xs ++ [x]))))) else none := rfl
def kExt (i : Nat) : List D → MS → Option Out := fun ys s => match s.getD i none with
  | some (.list ds) => if ds.length + ys.length ≤ 1000000 then some (.nx (s.set i (some (.list (ds ++ ys))))) else none
  | _ => none
def extO (i : Nat) (ys : List D) (s : MS) : Option D → Option Out
  | some (.list ds) => if ds.length + ys.length ≤ 1000000 then some (.nx (s.set i (some (.list (ds ++ ys))))) else none
  | _ => none
@[simp] theorem mExt_ap : mExt i as s = bE (as s) (kExt i) := rfl
@[simp] theorem kExt_ap : kExt i ys s = extO i ys s (s.getD i none) := by
  unfold kExt extO
  cases s.getD i none with
  | none => rfl
  | some d => cases d <;> rfl
@[simp] theorem extO_l : extO i ys s (some (.list xs)) = if xs.length + ys.length ≤ 1000000 then some (.nx (s.set i (some (.list (xs ++ ys))))) else none := rfl
def kSI1 (i : Nat) (k : ME) : D → MS → Option Out := fun x s => (k s).bind fun q => match q.1, q.2.getD i none with
  | .int n, some (.list ds) => (ixN ds.length n).map fun j => .nx (q.2.set i (some (.list (ds.set j x))))
  | _, _ => none
def siO (i : Nat) (x : D) (n : Int) (s : MS) : Option D → Option Out
  | some (.list ds) => (ixN ds.length n).map fun j => .nx (s.set i (some (.list (ds.set j x))))
  | _ => none
def kSI2 (i : Nat) (x : D) : D → MS → Option Out := fun y s => match y with
  | .int n => siO i x n s (s.getD i none)
  | _ => none
@[simp] theorem mSetIx_ap : mSetIx i a b s = bE (a s) (kSI1 i b) := rfl
@[simp] theorem kSI1_ap : kSI1 i b x s = bE (b s) (kSI2 i x) := by
  unfold kSI1 bE kSI2 siO
  cases b s with
  | none => rfl
  | some q =>
    obtain ⟨y, s⟩ := q
    simp only [Option.bind_some]
    cases y <;> cases s.getD i none <;> first | rfl | (rename_i d; cases d <;> rfl)
@[simp] theorem kSI2_ap (n : Int) : kSI2 i x (.int n) s = siO i x n s (s.getD i none) := rfl
@[simp] theorem siO_l (n : Int) : siO i x n s (some (.list xs)) = (ixN xs.length n).map fun j => .nx (s.set i (some (.list (xs.set j x)))) := rfl
def augO (f : D → D → Option D) (i : Nat) (n : Int) (v : ME) (s : MS) : Option D → Option Out
  | some (.list ds) => if 0 ≤ n then match ds[n.toNat]? with
      | some d => (v s).bind fun p => match p.2.getD i none with
        | some (.list es) => if n < es.length then (f d p.1).map fun z => .nx (p.2.set i (some (.list (es.set n.toNat z)))) else none
        | _ => none
      | none => none else none
  | _ => none
def kAI1 (f : D → D → Option D) (i : Nat) (v : ME) : D → MS → Option Out := fun y s => match y with
  | .int n => augO f i n v s (s.getD i none)
  | _ => none
@[simp] theorem mAugIx_ap : mAugIx f i a b s = bE (a s) (kAI1 f i b) := by
  unfold mAugIx bE kAI1 augO
  cases a s with
  | none => rfl
  | some q =>
    obtain ⟨y, s⟩ := q
    simp only [Option.bind_some]
    cases y <;> cases s.getD i none <;> first | rfl | (rename_i d; cases d <;> rfl)
@[simp] theorem kAI1_ap (n : Int) : kAI1 f i b (.int n) s = augO f i n b s (s.getD i none) := rfl
def augE (f : D → D → Option D) (i n : Nat) (v : ME) (s : MS) : Option D → Option Out
  | some d => (v s).bind fun p => match p.2.getD i none with
        | some (.list es) => if n < es.length then (f d p.1).map fun z => .nx (p.2.set i (some (.list (es.set n z)))) else none
        | _ => none
  | none => none
def augF (f : D → D → Option D) (i n : Nat) (d x : D) (s : MS) : Option D → Option Out
  | some (.list es) => if n < es.length then (f d x).map fun z => .nx (s.set i (some (.list (es.set n z)))) else none
  | _ => none
def kAI2 (f : D → D → Option D) (i n : Nat) (d : D) : D → MS → Option Out := fun x s => augF f i n d x s (s.getD i none)
theorem augO_nat (n : Nat) : augO f i ((n : Nat) : Int) b s (some (.list xs)) = augE f i n b s xs[n]? := by
  unfold augO augE
  simp only [Int.toNat_natCast]
  rw [if_pos (by omega)]
  cases xs[n]? with
  | none => rfl
  | some d =>
    cases b s with
    | none => rfl
    | some q =>
      simp only [Option.bind_some]
      cases q.2.getD i none with
      | none => rfl
      | some e =>
        cases e <;> try rfl
        simp only [Int.ofNat_lt]
@[simp] theorem augO_lit (n : Nat) : augO f i (no_index (OfNat.ofNat n : Int)) b s (some (.list xs)) = augE f i n b s xs[n]? := augO_nat f b i s xs n
@[simp] theorem augE_some (n : Nat) : augE f i n b s (some x) = bE (b s) (kAI2 f i n x) := by
  unfold augE bE kAI2 augF
  cases b s with
  | none => rfl
  | some q => simp only [Option.bind_some]
@[simp] theorem kAI2_ap (n : Nat) : kAI2 f i n x y s = augF f i n x y s (s.getD i none) := rfl
@[simp] theorem augF_l (n : Nat) : augF f i n x y s (some (.list xs)) = if n < xs.length then (f x y).map fun z => .nx (s.set i (some (.list (xs.set n z)))) else none := rfl
def kAug (f : D → D → Option D) (i : Nat) (d : D) : D → MS → Option Out := fun x s => (f d x).map fun z => .nx (s.set i (some z))
def augV (f : D → D → Option D) (i : Nat) (v : ME) (s : MS) : Option D → Option Out
  | some d => bE (v s) (kAug f i d)
  | none => none
@[simp] theorem mAug_ap : mAug f i a s = augV f i a s (s.getD i none) := by
  unfold mAug augV
  cases s.getD i none <;> rfl
@[simp] theorem augV_some : augV f i a s (some x) = bE (a s) (kAug f i x) := rfl
@[simp] theorem kAug_ap : kAug f i x y s = (f x y).map fun z => .nx (s.set i (some z)) := rfl
def popO (i : Nat) (n : Int) (s : MS) : Option D → Option (D × MS)
  | some (.list ds) => if (0 ≤ n ∧ n < ds.length) ∧ ds.length ≤ 1000000 then (ds[n.toNat]?).map fun d => (d, s.set i (some (.list (ds.eraseIdx n.toNat)))) else none
  | _ => none
def kPop (i : Nat) : D → MS → Option (D × MS) := fun y s => match y with
  | .int n => popO i n s (s.getD i none)
  | _ => none
@[simp] theorem xPopAt_ap : xPopAt i a s = bE (a s) (kPop i) := by
  unfold xPopAt bE kPop popO
  cases a s with
  | none => rfl
  | some q =>
    obtain ⟨y, s⟩ := q
    simp only [Option.bind_some]
    cases y <;> cases s.getD i none <;> first | rfl | (rename_i d; cases d <;> rfl)
@[simp] theorem kPop_ap (n : Int) : kPop i (.int n) s = popO i n s (s.getD i none) := rfl
@[simp] theorem popO_l (n : Int) : popO i n s (some (.list xs)) = if (0 ≤ n ∧ n < xs.length) ∧ xs.length ≤ 1000000 then (xs[n.toNat]?).map fun d => (d, s.set i (some (.list (xs.eraseIdx n.toNat)))) else none := rfl
def kDG1 (ks : List Str) (e : ME) : List D → MS → Option (D × MS) := fun xs s => (e s).bind fun q => match q.1 with
  | .str z => (findK ks xs z).map fun d => (d, q.2)
  | _ => none
def kDG2 (ks : List Str) (xs : List D) : D → MS → Option (D × MS) := fun y s => match y with
  | .str z => ret1 (findK ks xs z) s
  | _ => none
@[simp] theorem xDGet_ap (ks : List Str) : xDGet ks as b s = bE (as s) (kDG1 ks b) := rfl
@[simp] theorem kDG1_ap (ks : List Str) : kDG1 ks b xs s = bE (b s) (kDG2 ks xs) := rfl
@[simp] theorem kDG2_ap (ks : List Str) (z : Str) : kDG2 ks xs (.str z) s = ret1 (findK ks xs z) s := rfl
/-! loops: their sources first -/
def kFor (b : D → MS → Option MS) (m : MM) : List D → MS → Option Out := fun xs s => forL b m xs s
theorem mFor_ap (b : D → MS → Option MS) : mFor as b m s = bE (as s) (kFor b m) := rfl
theorem kFor_ap (b : D → MS → Option MS) : kFor b m xs s = forL b m xs s := rfl
def kLc (vs : List Nat) (b : D → MS → Option MS) (t : MT) (e : ME) : List D → MS → Option (List D × MS) := fun xs s => if xs.length ≤ 1000000 then (lcL vs b t e xs (wipeM s vs)).map fun q => (q.1, unwipe s q.2 vs) else none
theorem xLc_ap (vs : List Nat) (b : D → MS → Option MS) : xLc as vs b t a s = bE (as s) (kLc vs b t a) := rfl
end
/-! ## data -/
section
variable (a b : Int) (x y : Str) (p q : Bool) (xs ys : List D)
@[simp] theorem dAdd_ii : dAdd (.int a) (.int b) = some (.int (a + b)) := rfl
theorem dAdd_ss : dAdd (.str x) (.str y) = if x.length + y.length ≤ sizeLine then some (.str (x ++ y)) else none := rfl
@[simp] theorem dAddI_ii : dAddI (.int a) (.int b) = some (.int (a + b)) := rfl
@[simp] theorem dSub_ii : dSub (.int a) (.int b) = some (.int (a - b)) := rfl
@[simp] theorem dMul_ii : dMul (.int a) (.int b) = if (-(2 ^ 64) < a ∧ a < 2 ^ 64) ∨ (-(2 ^ 64) < b ∧ b < 2 ^ 64) then some (.int (a * b)) else none := rfl
@[simp] theorem dMod_ii : dMod (.int a) (.int b) = if 0 < b then some (.int (a % b)) else none := rfl
@[simp] theorem dDiv_ii : dDiv (.int a) (.int b) = if 0 < b ∧ b < 1073741824 then some (.int (a / b)) else none := rfl
@[simp] theorem dLt_ii : dLt (.int a) (.int b) = some (.bool (decide (a < b))) := rfl
@[simp] theorem dLe_ii : dLe (.int a) (.int b) = some (.bool (decide (a ≤ b))) := rfl
@[simp] theorem dGt_ii : dGt (.int a) (.int b) = some (.bool (decide (a > b))) := rfl
@[simp] theorem dGe_ii : dGe (.int a) (.int b) = some (.bool (decide (a ≥ b))) := rfl
@[simp] theorem dNeg_i : dNeg (.int a) = some (.int (-a)) := rfl
theorem shaped_i : SeqAt.shaped (.int a) = true := by simp [SeqAt.shaped, PyData.canLay0, PyData.depth]
@[simp] theorem dEq_ii : dEq (.int a) (.int b) = some (.bool (decide (a = b))) := by
  unfold dEq
  rw [if_pos ⟨shaped_i a, shaped_i b⟩]
  simp only [PyData.eqv]
  rfl
@[simp] theorem dNe_ii : dNe (.int a) (.int b) = some (.bool (!decide (a = b))) := by
  unfold dNe
  rw [if_pos ⟨shaped_i a, shaped_i b⟩]
  simp only [PyData.eqv]
  rfl
theorem shaped_s {x : Str} (h : PyData.strOk x = true) : SeqAt.shaped (.str x) = true := by simp [SeqAt.shaped, PyData.canLay0, PyData.depth, h]
theorem dEq_ss {x y : Str} (h : PyData.strOk x = true) (h2 : PyData.strOk y = true) : dEq (.str x) (.str y) = some (.bool (decide (x = y))) := by
  unfold dEq
  rw [if_pos ⟨shaped_s h, shaped_s h2⟩]
  simp only [PyData.eqv]
  rfl
@[simp] theorem dIx_li : dIx (.list xs) (.int a) = atI xs a := rfl
@[simp] theorem dIx_ti : dIx (.tuple xs) (.int a) = atI xs a := rfl
@[simp] theorem dLen_l : dLen [.list xs] = some (.int xs.length) := rfl
@[simp] theorem dLen_t : dLen [.tuple xs] = some (.int xs.length) := rfl
@[simp] theorem dAbs_i : dAbs [.int a] = some (.int (if a < 0 then -a else a)) := rfl
@[simp] theorem dInt_i : dInt [.int a] = some (.int a) := rfl
@[simp] theorem dTru_b : dTru (.bool p) = some p := rfl
@[simp] theorem dTru_l : dTru (.list xs) = some (!xs.isEmpty) := rfl
end
theorem ixN_nat (m n : Nat) : ixN m ((n : Nat) : Int) = if n < m then some n else none := by
  unfold ixN
  rw [if_pos (by omega)]
  by_cases h : n < m
  · rw [if_pos h, if_pos (by omega), Int.toNat_natCast]
  · rw [if_neg h, if_neg (by omega)]
@[simp] theorem ixN_lit (m n : Nat) : ixN m (no_index (OfNat.ofNat n : Int)) = if n < m then some n else none := ixN_nat m n
theorem atI_natq {α : Type} (xs : List α) (n : Nat) : atI xs ((n : Nat) : Int) = xs[n]? := by
  unfold atI
  rw [ixN_nat]
  by_cases h : n < xs.length
  · rw [if_pos h]; rfl
  · rw [if_neg h, List.getElem?_eq_none (by omega)]; rfl
@[simp] theorem atI_lit {α : Type} (xs : List α) (n : Nat) : atI xs (no_index (OfNat.ofNat n : Int)) = xs[n]? := atI_natq xs n
theorem atI_pos {α : Type} {xs : List α} {i : Int} (h0 : 0 ≤ i) (h : i < xs.length) : atI xs i = some (xs[i.toNat]'(by omega)) := by
  have e : i = ((i.toNat : Nat) : Int) := by omega
  have q := atI_natq xs i.toNat
  rw [← e] at q
  rw [q, List.getElem?_eq_getElem]
@[simp] theorem dPow_lit (a : Int) (n : Nat) : dPow (.int a) (.int (no_index (OfNat.ofNat n : Int))) = if n ≤ 1000000 ∧ a.natAbs < 2 ^ 64 then some (.int (a ^ n)) else none := by
  show (if (0 : Int) ≤ ((n : Nat) : Int) ∧ ((n : Nat) : Int) ≤ 1000000 ∧ a.natAbs < 2 ^ 64 then some (PyData.int (a ^ ((n : Nat) : Int).toNat)) else none) = _
  by_cases h : n ≤ 1000000 ∧ a.natAbs < 2 ^ 64
  · rw [if_pos h, if_pos ⟨by omega, by omega, h.2⟩, Int.toNat_natCast]
  · rw [if_neg h, if_neg fun z => h ⟨by omega, z.2.2⟩]
/-! equal data -/
mutual
theorem eqv_refl : ∀ d : D, d.canLay0 = true → PyData.eqv d d = true
  | .none, _ => by simp [PyData.eqv]
  | .bool b, _ => by simp [PyData.eqv]
  | .int i, _ => by simp [PyData.eqv]
  | .str x, _ => by simp [PyData.eqv]
  | .list xs, h => by
    rw [PyData.eqv]
    exact eqvAll_refl xs (by simpa [PyData.canLay0] using h)
  | .tuple xs, h => by
    rw [PyData.eqv]
    exact eqvAll_refl xs (by simpa [PyData.canLay0] using h)
  | .dict _, h => by simp [PyData.canLay0] at h
theorem eqvAll_refl : ∀ ds : List D, PyData.canLayAll0 ds = true → PyData.eqvAll ds ds = true
  | [], _ => by simp [PyData.eqvAll]
  | d :: ds, h => by
    have h2 : d.canLay0 = true ∧ PyData.canLayAll0 ds = true := by simpa [PyData.canLayAll0] using h
    rw [PyData.eqvAll, eqv_refl d h2.1, eqvAll_refl ds h2.2]
    rfl
end
theorem dEq_refl {d : D} (h : SeqAt.shaped d = true) : dEq d d = some (.bool true) := by
  unfold dEq
  rw [if_pos ⟨h, h⟩, eqv_refl d (SeqAt.canLay_of_shaped h)]
theorem dNe_refl {d : D} (h : SeqAt.shaped d = true) : dNe d d = some (.bool false) := by
  unfold dNe
  rw [if_pos ⟨h, h⟩, eqv_refl d (SeqAt.canLay_of_shaped h)]
  rfl
/-! ## loops over lists that stand for typed ones -/
section
variable {α β : Type} {vs : List Nat} {b : D → MS → Option MS} {t : MT} {e : ME} {m : MM}
/-- a comprehension that draws nothing -/
theorem lc_pure (enc : α → D) (p : α → Bool) (g : α → D) {s : MS} : ∀ xs : List α, (∀ x ∈ xs, ∃ s1, b (enc x) s = some s1 ∧ t s1 = some (p x, s1) ∧ (p x = true → e s1 = some (g x, s1)) ∧ wipeM s1 vs = s) → lcL vs b t e (xs.map enc) s = some ((xs.filter p).map g, s)
  | [], _ => rfl
  | x :: r, h => by
    obtain ⟨s1, h1, h2, h3, h4⟩ := h x List.mem_cons_self
    have ih := lc_pure enc p g r fun y hy => h y (List.mem_cons_of_mem _ hy)
    rw [List.map_cons, lcL, h1]
    simp only [Option.bind_some]
    rw [h2]
    simp only [Option.bind_some]
    cases hp : p x with
    | true =>
      rw [h3 hp]
      simp only [if_true, Option.bind_some]
      rw [h4, ih, List.filter_cons, hp]
      rfl
    | false =>
      simp only [Bool.false_eq_true, if_false]
      rw [h4, ih, List.filter_cons, hp]
      rfl
/-- a comprehension that may draw: Inv at the states between -/
theorem lc_ind (enc : α → D) (Inv : List D → MS → Prop) : ∀ (xs : List α) (acc : List D) (s : MS), Inv acc s → (∀ x ∈ xs, ∀ acc s, Inv acc s → ∃ s1, b (enc x) s = some s1 ∧ ∃ c s2, t s1 = some (c, s2) ∧ (c = false → Inv acc (wipeM s2 vs)) ∧ (c = true → ∃ y s3, e s2 = some (y, s3) ∧ Inv (acc ++ [y]) (wipeM s3 vs))) →
    ∃ ys s', lcL vs b t e (xs.map enc) s = some (ys, s') ∧ Inv (acc ++ ys) s'
  | [], acc, s, h, _ => ⟨[], s, rfl, by rw [List.append_nil]; exact h⟩
  | x :: r, acc, s, h, hs => by
    obtain ⟨s1, h1, c, s2, h2, h3, h4⟩ := hs x List.mem_cons_self acc s h
    rw [List.map_cons, lcL, h1]
    simp only [Option.bind_some]
    rw [h2]
    simp only [Option.bind_some]
    cases c with
    | true =>
      obtain ⟨y, s3, h5, h6⟩ := h4 rfl
      obtain ⟨ys, s', e1, e2⟩ := lc_ind enc Inv r (acc ++ [y]) _ h6 fun z hz => hs z (List.mem_cons_of_mem _ hz)
      refine ⟨y :: ys, s', ?_, by rw [List.append_assoc] at e2; exact e2⟩
      rw [h5]
      simp only [if_true, Option.bind_some]
      rw [e1]
      rfl
    | false =>
      obtain ⟨ys, s', e1, e2⟩ := lc_ind enc Inv r acc _ (h3 rfl) fun z hz => hs z (List.mem_cons_of_mem _ hz)
      refine ⟨ys, s', ?_, e2⟩
      simp only [Bool.false_eq_true, if_false]
      exact e1
/-- a loop that comes to its end: Inv of what is done -/
theorem for_ind (enc : α → D) (Inv : List α → MS → Prop) : ∀ (xs done : List α) (s : MS), Inv done s → (∀ (d : List α) (x : α) (r : List α) (s : MS), done ++ xs = d ++ x :: r → Inv d s → ∃ s1 s2, b (enc x) s = some s1 ∧ (m s1 = some (.nx s2) ∨ m s1 = some (.ct s2)) ∧ Inv (d ++ [x]) s2) →
    ∃ s', forL b m (xs.map enc) s = some (.nx s') ∧ Inv (done ++ xs) s'
  | [], done, s, h, _ => ⟨s, rfl, by rw [List.append_nil]; exact h⟩
  | x :: r, done, s, h, hs => by
    obtain ⟨s1, s2, h1, h2, h3⟩ := hs done x r s rfl h
    obtain ⟨s', e1, e2⟩ := for_ind enc Inv r (done ++ [x]) s2 h3 fun d y r' s e => hs d y r' s (by rw [← e, List.append_assoc]; rfl)
    refine ⟨s', ?_, by rw [List.append_assoc] at e2; exact e2⟩
    rw [List.map_cons, forL, h1]
    simp only [Option.bind_some]
    rcases h2 with h2 | h2 <;> rw [h2] <;> exact e1
/-- a loop that is a fold -/
theorem for_fold (enc : α → D) (st : β → MS) (F : β → α → β) : ∀ (xs : List α) (y : β), (∀ x ∈ xs, ∀ y, ∃ s1, b (enc x) (st y) = some s1 ∧ m s1 = some (.nx (st (F y x)))) → forL b m (xs.map enc) (st y) = some (.nx (st (xs.foldl F y)))
  | [], _, _ => rfl
  | x :: r, y, h => by
    obtain ⟨s1, h1, h2⟩ := h x List.mem_cons_self y
    rw [List.map_cons, forL, h1]
    simp only [Option.bind_some]
    rw [h2]
    exact for_fold enc st F r (F y x) fun z hz => h z (List.mem_cons_of_mem _ hz)
/-- .. with a property of the states -/
theorem for_foldI (enc : α → D) (st : β → MS) (F : β → α → β) (I : β → Prop) : ∀ (xs : List α) (y : β), I y → (∀ x ∈ xs, ∀ y, I y → I (F y x) ∧ ∃ s1, b (enc x) (st y) = some s1 ∧ m s1 = some (.nx (st (F y x)))) → forL b m (xs.map enc) (st y) = some (.nx (st (xs.foldl F y))) ∧ I (xs.foldl F y)
  | [], _, hy, _ => ⟨rfl, hy⟩
  | x :: r, y, hy, h => by
    obtain ⟨hi, s1, h1, h2⟩ := h x List.mem_cons_self y hy
    have ih := for_foldI enc st F I r (F y x) hi fun z hz => h z (List.mem_cons_of_mem _ hz)
    refine ⟨?_, ih.2⟩
    rw [List.map_cons, forL, h1]
    simp only [Option.bind_some]
    rw [h2]
    exact ih.1
end
/-! ## texts -/
theorem ofString_inj {a b : String} : Str.ofString a = Str.ofString b ↔ a = b := by
  refine ⟨fun h => ?_, fun h => by rw [h]⟩
  rw [Str.ofString_eq_toList, Str.ofString_eq_toList] at h
  have h1 : (a.toList.map Char.toNat) = (b.toList.map Char.toNat) := by
    have := congrArg (fun z : Str => z.cps.toList) h
    simpa using this
  have inj : ∀ {x y : List Char}, x.map Char.toNat = y.map Char.toNat → x = y := by
    intro x
    induction x with
    | nil => intro y h; cases y with
      | nil => rfl
      | cons c r => cases h
    | cons c r ih => intro y h; cases y with
      | nil => cases h
      | cons d q =>
        simp only [List.map_cons, List.cons.injEq] at h
        have hc : c = d := by
          have := h.1
          exact Char.ext (UInt32.toNat_inj.mp this)
        rw [hc, ih h.2]
  exact String.ext (inj h1)
end Z


namespace Z
open PySem PySem.Spec PyProof.Rows L2
/-! ## numbers in lists -/
abbrev iL (ns : List Int) : D := .list (ns.map PyData.int)
abbrev sL (ss : List Str) : D := .list (ss.map PyData.str)
def rgI (a b : Int) : List Int := (List.range (b - a).toNat).map fun i => a + (i : Nat)
theorem dRg_map (a b : Int) : dRg a b = (rgI a b).map PyData.int := by
  unfold dRg rgI
  rw [List.map_map]; rfl
theorem rgI_mem {a b x : Int} : x ∈ rgI a b ↔ a ≤ x ∧ x < b := by
  unfold rgI
  rw [List.mem_map]
  constructor
  · rintro ⟨i, hi, rfl⟩
    have := List.mem_range.mp hi
    omega
  · intro h
    exact ⟨(x - a).toNat, List.mem_range.mpr (by omega), by omega⟩
theorem rgI_len (a b : Int) : (rgI a b).length = (b - a).toNat := by
  unfold rgI
  rw [List.length_map, List.length_range]
theorem rgI_lt (a b : Int) : (rgI a b).Pairwise (· < ·) := by
  unfold rgI
  rw [List.pairwise_map]
  exact List.pairwise_lt_range.imp fun h => by omega
theorem inD_ints (a : Int) (xs : List Int) : inD (.int a) (xs.map PyData.int) = decide (a ∈ xs) := by
  unfold inD
  rw [List.any_map, Bool.eq_iff_iff, List.any_eq_true, decide_eq_true_eq]
  constructor
  · rintro ⟨x, hx, h⟩
    simp only [Function.comp, PyData.eqv, beq_iff_eq] at h
    rw [← h]; exact hx
  · intro h
    exact ⟨a, h, by simp [PyData.eqv]⟩
theorem inD_strs (a : Str) (xs : List Str) : inD (.str a) (xs.map PyData.str) = decide (a ∈ xs) := by
  unfold inD
  rw [List.any_map, Bool.eq_iff_iff, List.any_eq_true, decide_eq_true_eq]
  constructor
  · rintro ⟨x, hx, h⟩
    simp only [Function.comp, PyData.eqv, beq_iff_eq] at h
    rw [← h]; exact hx
  · intro h
    exact ⟨a, h, by simp [PyData.eqv]⟩
theorem flat_ints (xs : List Int) : (xs.map PyData.int).all flatD = true := by
  rw [List.all_map]; exact List.all_eq_true.mpr fun _ _ => rfl
theorem flat_strs (xs : List Str) : (xs.map PyData.str).all flatD = true := by
  rw [List.all_map]; exact List.all_eq_true.mpr fun _ _ => rfl
@[simp] theorem dIn_ints (neg : Bool) (a : Int) (xs : List Int) : dIn neg (.int a) (iL xs) = some (.bool (if neg then !decide (a ∈ xs) else decide (a ∈ xs))) := by
  unfold dIn
  rw [seqOf_l]
  simp only [Option.bind_some]
  rw [if_pos ⟨rfl, flat_ints xs⟩, inD_ints]
@[simp] theorem dIn_strs (neg : Bool) (a : Str) (xs : List Str) : dIn neg (.str a) (sL xs) = some (.bool (if neg then !decide (a ∈ xs) else decide (a ∈ xs))) := by
  unfold dIn
  rw [seqOf_l]
  simp only [Option.bind_some]
  rw [if_pos ⟨rfl, flat_strs xs⟩, inD_strs]
@[simp] theorem dSorted_ints (xs : List Int) : dSorted (xs.map PyData.int) = some ((iSort xs).map PyData.int) := by
  unfold dSorted
  rw [asInts_map]
@[simp] theorem dSorted_ints1 (xs : List Int) (a : Int) : dSorted (xs.map PyData.int ++ [.int a]) = some ((iSort (xs ++ [a])).map PyData.int) := by
  have := dSorted_ints (xs ++ [a])
  rwa [List.map_append] at this
@[simp] theorem dSorted_one (a : Int) : dSorted [.int a] = some ((iSort [a]).map PyData.int) := dSorted_ints [a]
theorem dSorted_strs {xs : List Str} (h : xs.length < 64) : dSorted (xs.map PyData.str) = some ((sSort xs).map PyData.str) := by
  unfold dSorted
  cases xs with
  | nil =>
    have e1 : iSort [] = [] := by unfold iSort; exact List.mergeSort_nil
    have e2 : sSort [] = [] := by unfold sSort; exact List.mergeSort_nil
    rw [List.map_nil, e2]
    show some ((iSort []).map PyData.int) = _
    rw [e1]; rfl
  | cons x r =>
    have : asInts ((x :: r).map PyData.str) = none := rfl
    rw [this]
    show (match asStrs ((x :: r).map PyData.str) with
      | some ss => if ss.length < 64 then some ((sSort ss).map PyData.str) else none
      | none => none) = _
    rw [asStrs_map]
    show (if (x :: r).length < 64 then _ else _) = _
    rw [if_pos h]
theorem iSort_of {a b : List Int} (h : a.Pairwise (· ≤ ·)) (p : a.Perm b) : iSort b = a := pw_eq (iSort_pw b) h ((iSort_perm b).trans p.symm)
theorem iSort_mem {ns : List Int} {x : Int} : x ∈ iSort ns ↔ x ∈ ns := (iSort_perm ns).mem_iff
theorem iSort_len (ns : List Int) : (iSort ns).length = ns.length := (iSort_perm ns).length_eq
theorem iSort_nodup {ns : List Int} : (iSort ns).Nodup ↔ ns.Nodup := (iSort_perm ns).nodup_iff
theorem lt_of_le_nodup {ns : List Int} (h : ns.Pairwise (· ≤ ·)) (n : ns.Nodup) : ns.Pairwise (· < ·) := by
  refine (h.and n).imp fun z => ?_
  have := z.1; have := z.2; omega
theorem iSort_lt {ns : List Int} (h : ns.Nodup) : (iSort ns).Pairwise (· < ·) := lt_of_le_nodup (iSort_pw ns) (iSort_nodup.mpr h)
theorem le_of_lt_pw {ns : List Int} (h : ns.Pairwise (· < ·)) : ns.Pairwise (· ≤ ·) := h.imp fun z => Int.le_of_lt z
theorem nodup_of_lt {ns : List Int} (h : ns.Pairwise (· < ·)) : ns.Nodup := h.imp fun z => Int.ne_of_lt z
/-- two ascending lists with the same members are one -/
theorem lt_ext : ∀ {a b : List Int}, a.Pairwise (· < ·) → b.Pairwise (· < ·) → (∀ x, x ∈ a ↔ x ∈ b) → a = b := fun {a b} ha hb h => by
  have p : a.Perm b := (List.perm_ext_iff_of_nodup (nodup_of_lt ha) (nodup_of_lt hb)).mpr h
  exact pw_eq (le_of_lt_pw ha) (le_of_lt_pw hb) p
/-- as many as stand between -/
theorem lt_len : ∀ {a : List Int} {lo hi : Int}, a.Pairwise (· < ·) → (∀ x ∈ a, lo ≤ x ∧ x < hi) → lo ≤ hi → (a.length : Int) ≤ hi - lo
  | [], lo, hi, _, _, h => by simpa using h
  | x :: r, lo, hi, hp, hm, h => by
    have hp' := List.pairwise_cons.mp hp
    have hx := hm x List.mem_cons_self
    have ih := lt_len (lo := x + 1) (hi := hi) hp'.2 (fun y hy => ⟨by have := hp'.1 y hy; omega, (hm y (List.mem_cons_of_mem _ hy)).2⟩) (by omega)
    rw [List.length_cons]
    omega
def gtI {α : Type} [Inhabited α] (xs : List α) (k : Int) : α := xs.getD k.toNat default
theorem rgI_get (a b : Int) (i : Nat) (h : i < (b - a).toNat) : (rgI a b)[i]? = some (a + (i : Nat)) := by
  unfold rgI
  rw [List.getElem?_map, List.getElem?_range h]; rfl
theorem map_rg {α β : Type} [Inhabited α] (f : α → β) (xs : List α) : xs.map f = (rgI 0 xs.length).map fun k => f (gtI xs k) := by
  apply List.ext_getElem?
  intro i
  rw [List.getElem?_map, List.getElem?_map]
  by_cases h : i < xs.length
  · rw [rgI_get 0 _ i (by omega), List.getElem?_eq_getElem h]
    have e : (0 + (i : Nat) : Int).toNat = i := by omega
    unfold gtI
    simp only [Option.map_some, e]
    rw [List.getD_eq_getElem?_getD, List.getElem?_eq_getElem h]
    rfl
  · rw [List.getElem?_eq_none (by omega), List.getElem?_eq_none (by rw [rgI_len]; omega)]
    rfl
theorem getD_rg {α : Type} [Inhabited α] (xs : List α) {k : Int} (h0 : 0 ≤ k) (h : k < xs.length) : atI xs k = some (gtI xs k) := by
  unfold gtI
  rw [atI_pos h0 h, List.getD_eq_getElem?_getD, List.getElem?_eq_getElem (by omega)]
  rfl
theorem atI_mapg {α β : Type} [Inhabited α] (f : α → β) (xs : List α) {k : Int} (h0 : 0 ≤ k) (h : k < xs.length) : atI (xs.map f) k = some (f (gtI xs k)) := by
  unfold gtI
  have h' : k < (xs.map f).length := by rw [List.length_map]; exact h
  rw [atI_pos h0 h', List.getElem_map, List.getD_eq_getElem?_getD, List.getElem?_eq_getElem (by omega)]
  rfl
theorem cutD_take (xs : List D) (k : Nat) : cutD xs none (some (k : Int)) = xs.take k := by
  unfold cutD
  rw [HT.sIx_none, HT.sIx_nat, List.drop_zero, Nat.sub_zero]
  by_cases h : k ≤ xs.length
  · rw [Nat.min_eq_left h]
  · rw [Nat.min_eq_right (by omega), List.take_length, List.take_of_length_le (by omega)]
/-! ## shapes -/
theorem canLay_ints : ∀ xs : List Int, PyData.canLayAll0 (xs.map PyData.int) = true
  | [] => by simp [PyData.canLayAll0]
  | x :: r => by simp only [List.map_cons, PyData.canLayAll0, PyData.canLay0, canLay_ints r]; rfl
theorem canLay_strs : ∀ xs : List Str, (∀ x ∈ xs, PyData.strOk x = true) → PyData.canLayAll0 (xs.map PyData.str) = true
  | [], _ => by simp [PyData.canLayAll0]
  | x :: r, h => by
    simp only [List.map_cons, PyData.canLayAll0, PyData.canLay0, canLay_strs r (fun y hy => h y (List.mem_cons_of_mem _ hy)), h x List.mem_cons_self]; rfl
theorem depth_ints : ∀ xs : List Int, PyData.depthAll (xs.map PyData.int) = 0
  | [] => by simp [PyData.depthAll]
  | x :: r => by simp only [List.map_cons, PyData.depthAll, PyData.depth, depth_ints r]; rfl
theorem depth_strs : ∀ xs : List Str, PyData.depthAll (xs.map PyData.str) = 0
  | [] => by simp [PyData.depthAll]
  | x :: r => by simp only [List.map_cons, PyData.depthAll, PyData.depth, depth_strs r]; rfl
theorem shaped_ints (xs : List Int) : SeqAt.shaped (iL xs) = true := by
  simp [SeqAt.shaped, PyData.canLay0, PyData.depth, canLay_ints, depth_ints]
theorem shaped_strs {xs : List Str} (h : ∀ x ∈ xs, PyData.strOk x = true) : SeqAt.shaped (sL xs) = true := by
  simp [SeqAt.shaped, PyData.canLay0, PyData.depth, canLay_strs xs h, depth_strs]
theorem canLay_map {α : Type} (enc : α → D) : ∀ xs : List α, (∀ x ∈ xs, (enc x).canLay0 = true) → PyData.canLayAll0 (xs.map enc) = true
  | [], _ => by simp [PyData.canLayAll0]
  | x :: r, h => by
    simp only [List.map_cons, PyData.canLayAll0, canLay_map enc r (fun y hy => h y (List.mem_cons_of_mem _ hy)), h x List.mem_cons_self]; rfl
theorem depth_map {α : Type} (enc : α → D) (n : Nat) : ∀ xs : List α, (∀ x ∈ xs, (enc x).depth ≤ n) → PyData.depthAll (xs.map enc) ≤ n
  | [], _ => by simp [PyData.depthAll]
  | x :: r, h => by
    simp only [List.map_cons, PyData.depthAll]
    exact Nat.max_le.mpr ⟨h x List.mem_cons_self, depth_map enc n r fun y hy => h y (List.mem_cons_of_mem _ hy)⟩
/-! ## texts -/
theorem strOk_os (a : String) : PyData.strOk (Str.ofString a) = true := by
  unfold PyData.strOk
  rw [Str.ofString_eq_toList]
  rw [Array.all_eq_true']
  intro c hc
  have hc' : c ∈ a.toList.map Char.toNat := by simpa using hc
  obtain ⟨d, _, rfl⟩ := List.mem_map.mp hc'
  have h : d.toNat < 0x110000 := by
    have := d.valid
    rcases this with h | ⟨_, h⟩
    · have : d.val.toNat < 0xd800 := h
      show d.val.toNat < _
      omega
    · exact h
  exact decide_eq_true h
@[simp] theorem dEq_os (a b : String) : dEq (.str (Str.ofString a)) (.str (Str.ofString b)) = some (.bool (decide (a = b))) := by
  rw [dEq_ss (strOk_os a) (strOk_os b)]
  simp only [ofString_inj]
theorem strOk_app {x y : Str} (h : PyData.strOk x = true) (h2 : PyData.strOk y = true) : PyData.strOk (x ++ y) = true := by
  unfold PyData.strOk at *
  show (x.cps ++ y.cps).all _ = true
  rw [Array.all_append, h, h2]; rfl
abbrev tl (x : Str) : List Nat := TL.tl x
theorem tl_app (x y : Str) : tl (x ++ y) = tl x ++ tl y := TL.tl_append x y
theorem tl_len (x : Str) : x.length = (tl x).length := TL.len_tl x
theorem tl_ext {x y : Str} (h : tl x = tl y) : x = y := TL.ext_tl h
theorem tl_os (a : String) : tl (Str.ofString a) = a.toList.map Char.toNat := TL.tl_ofString a
@[simp] theorem len_os (a : String) : (Str.ofString a).length = a.length := by
  rw [tl_len, tl_os, List.length_map, String.length_toList]
@[simp] theorem app_os (a b : String) : Str.ofString a ++ Str.ofString b = Str.ofString (a ++ b) := by
  apply tl_ext
  rw [tl_app, tl_os, tl_os, tl_os, String.toList_append, List.map_append]
theorem dAdd_s {x y : Str} (h : x.length + y.length ≤ 1000000) : dAdd (.str x) (.str y) = some (.str (x ++ y)) := by
  rw [dAdd_ss, if_pos (sz1M h)]
@[simp] theorem dAdd_os (a b : String) (h : a.length + b.length ≤ 1000000) : dAdd (.str (Str.ofString a)) (.str (Str.ofString b)) = some (.str (Str.ofString (a ++ b))) := by
  rw [dAdd_s (by rw [len_os, len_os]; exact h), app_os]
/-- texts joined without anything between -/
theorem join_empty : ∀ xs : List Str, tl (Str.join "" xs) = xs.flatMap tl
  | [] => rfl
  | [x] => by
    show tl x = _
    simp
  | x :: y :: r => by
    show tl (x ++ ("" : Str) ++ Str.join "" (y :: r)) = _
    rw [tl_app, tl_app, join_empty (y :: r), tl_os, List.flatMap_cons]
    simp
theorem txt_join (a : Str) (xs : List Str) : Txt.join a xs = Str.join a xs := PySem.StrLaws.glued_eq_join a xs
theorem cutS_tl (z : Str) (lo hi : Nat) (h : lo ≤ hi) (h2 : hi ≤ (tl z).length) : tl (cutS z (some (lo : Int)) (some (hi : Int))) = ((tl z).drop lo).take (hi - lo) := by
  unfold cutS
  show ((z.cps.toList.drop (HT.sIx z.length 0 (some (lo : Int)))).take (HT.sIx z.length z.length (some (hi : Int)) - HT.sIx z.length 0 (some (lo : Int)))) = _
  rw [HT.sIx_nat, HT.sIx_nat]
  rw [tl_len z, Nat.min_eq_left h2, Nat.min_eq_left (Nat.le_trans h h2)]
theorem sum_len {α : Type} {f : α → Nat} {c : Nat} : ∀ xs : List α, (∀ x ∈ xs, f x = c) → (xs.map f).sum = c * xs.length
  | [], _ => rfl
  | x :: r, h => by
    rw [List.map_cons, List.sum_cons, h x List.mem_cons_self, sum_len r fun y hy => h y (List.mem_cons_of_mem _ hy), List.length_cons, Nat.mul_add]; omega
theorem sum_lens {α : Type} {f : α → Str} {c : Nat} (xs : List α) (h : ∀ x ∈ xs, (f x).length = c) : ((xs.map f).map (·.length)).sum = c * xs.length := by
  rw [List.map_map]
  exact sum_len xs h
theorem flat_len {α : Type} {f : α → List Nat} {c : Nat} : ∀ xs : List α, (∀ x ∈ xs, (f x).length = c) → (xs.flatMap f).length = c * xs.length
  | [], _ => rfl
  | x :: r, h => by
    rw [List.flatMap_cons, List.length_append, h x List.mem_cons_self, flat_len r fun y hy => h y (List.mem_cons_of_mem _ hy), List.length_cons, Nat.mul_add]; omega
theorem dJoin_s {a : Str} {xs : List Str} (h : (xs.map (·.length)).sum + xs.length * a.length ≤ 16777216) : dJoin (.str a) [sL xs] = some (.str (Str.join a xs)) := by
  show (asStrs (xs.map PyData.str)).bind _ = _
  rw [asStrs_map]
  simp only [Option.bind_some]
  rw [if_pos h, txt_join]
/-! ## comprehensions and loops, as one meets them -/
section
variable {α : Type} {vs : List Nat} {b : D → MS → Option MS} {t : MT} {e : ME} {m : MM}
theorem kLc_pure (enc : α → D) (p : α → Bool) (g : α → D) {s : MS} {xs : List α} (hl : xs.length ≤ 1000000) (h : ∀ x ∈ xs, ∃ s1, b (enc x) (wipeM s vs) = some s1 ∧ t s1 = some (p x, s1) ∧ (p x = true → e s1 = some (g x, s1)) ∧ wipeM s1 vs = wipeM s vs) :
    kLc vs b t e (xs.map enc) s = some ((xs.filter p).map g, unwipe s (wipeM s vs) vs) := by
  unfold kLc
  rw [if_pos (by rw [List.length_map]; exact hl), lc_pure enc p g xs h]
  rfl
theorem kLc_map (enc : α → D) (g : α → D) {s : MS} {xs : List α} (hl : xs.length ≤ 1000000) (h : ∀ x ∈ xs, ∃ s1, b (enc x) (wipeM s vs) = some s1 ∧ t s1 = some (true, s1) ∧ e s1 = some (g x, s1) ∧ wipeM s1 vs = wipeM s vs) :
    kLc vs b t e (xs.map enc) s = some (xs.map g, unwipe s (wipeM s vs) vs) := by
  have := kLc_pure (vs := vs) (b := b) (t := t) (e := e) enc (fun _ => true) g hl fun x hx => by
    obtain ⟨s1, h1, h2, h3, h4⟩ := h x hx
    exact ⟨s1, h1, h2, fun _ => h3, h4⟩
  rw [this, List.filter_eq_self.mpr fun _ _ => rfl]
theorem kLc_ind (enc : α → D) (Inv : List D → MS → Prop) {s : MS} {xs : List α} (hl : xs.length ≤ 1000000) (h0 : Inv [] (wipeM s vs)) (h : ∀ x ∈ xs, ∀ acc s, Inv acc s → ∃ s1, b (enc x) s = some s1 ∧ ∃ c s2, t s1 = some (c, s2) ∧ (c = false → Inv acc (wipeM s2 vs)) ∧ (c = true → ∃ y s3, e s2 = some (y, s3) ∧ Inv (acc ++ [y]) (wipeM s3 vs))) :
    ∃ ys s', kLc vs b t e (xs.map enc) s = some (ys, unwipe s s' vs) ∧ Inv ys s' := by
  obtain ⟨ys, s', h1, h2⟩ := lc_ind enc Inv xs [] _ h0 h
  refine ⟨ys, s', ?_, by rwa [List.nil_append] at h2⟩
  unfold kLc
  rw [if_pos (by rw [List.length_map]; exact hl), h1]
  rfl
/-- a loop whose states are told by what is done -/
theorem for_st (enc : α → D) (st : List α → MS) (xs : List α) (h : ∀ d x r, xs = d ++ x :: r → ∃ s1, b (enc x) (st d) = some s1 ∧ m s1 = some (.nx (st (d ++ [x])))) : forL b m (xs.map enc) (st []) = some (.nx (st xs)) := by
  obtain ⟨s', h1, h2⟩ := for_ind (b := b) (m := m) enc (fun done s => s = st done) xs [] (st []) rfl fun d x r s e hs => by
    obtain ⟨s1, h1, h2⟩ := h d x r e
    subst hs
    exact ⟨s1, _, h1, .inl h2, rfl⟩
  rw [h1, h2]; rfl
end
end Z


namespace Z
open PySem PySem.Spec PyProof.Rows L2
/-! ## what is never reached -/
def mNo : MM := fun _ => none
def xNo : ME := fun _ => none
section
variable {Γ : G} {Th : List Nat} {fz : Bool} {O O' Ol L L0 W : List Nat} {st : Stmt} {a b e : Expr} {ma mb : ME} {pos p p2 : Pos}
theorem ss_never : TrS Γ Th fz O O' Ol st mNo := TrS0.up ⟨_, fun _ _ => ps_never, fun _ _ _ _ _ _ _ e => by cases e⟩
/-! ## isinstance by a built-in class -/
def tyD : D → String
  | .none => "NoneType"
  | .bool _ => "bool"
  | .int _ => "int"
  | .str _ => "str"
  | .list _ => "list"
  | .tuple _ => "tuple"
  | .dict _ => "dict"
theorem tyx_of {K : PySem.W.Frag} {H : Hp} {v : V} {d : D} (h : Rp K H v d) : TyX K H v (.type (tyD d)) := by
  cases h with
  | non => exact .base .non
  | bl b => exact .base (.bl b)
  | int i => exact .base (.int i)
  | str x => exact .base (.str x)
  | lst h _ =>
    rcases h with (h | ⟨o, h⟩) | ⟨o, _, _, h1, h2, _⟩
    · exact .base (.lst h)
    · exact .base (.frz h)
    · exact .kList h1 h2
  | tup h _ =>
    rcases h with (h | ⟨o, h⟩) | ⟨o, _, _, h1, h2, _⟩
    · exact .base (.tup h)
    · exact .fTuple h
    · exact .kTuple h1 h2
def dIsi (T : String) (d : D) : Option D := (kitB (tyD d) T).map .bool
theorem tr_isi {T : String} {x : Str} (hg : Γ.sc.names.lookup ("isinstance" : Str) = some .globalImplicit) (hm : Γ.mg "isinstance" = none) (hgx : Γ.sc.names.lookup x = some .globalImplicit) (hmx : Γ.mg x = none) (hv : bootBuiltins x = some (.type T)) (ha : TrE Γ O L0 W a ma)
    (hn : x ≠ "__name__" := by decide) (hdb : (x == ("__debug__" : Str)) = false := by decide) (he : ∀ env : Env, starEach [a, .Name x p2] env = (false, eval a env) :: starEach [.Name x p2] env := by intro _; rfl) :
    TrE Γ O L W (.Call (.Name "isinstance" p) [a, .Name x p2] [] pos) (xUn (dIsi T) ma) := by
  obtain ⟨t, pe, q⟩ := ha
  refine ⟨tCB (rIsi Γ.K) (tCons t (tCons (tC (.ty T)) tNil)), fun X h => ?_, fun c σ H s r d s' e Q k => ?_⟩
  · rw [← h.K]
    exact pe_callB call_isi (h.gl hg) (h.mgn hm) (by decide +kernel) (pa_cons (pe X h) (pa_cons (pe_bltn (h.gl hgx) (h.mgn hmx) hv rfl hn hdb) pa_nil) (he _)) (by decide) (by decide) (he _)
  · obtain ⟨d0, e1, e2⟩ := xUn_of e
    refine q c σ H s r _ _ e1 _ fun v H1 r1 x1 d1 => ?_
    unfold dIsi at e2
    obtain ⟨b, e3, e4⟩ := mapNx_of e2
    subst e4
    exact ⟨v, .ty T, .type (tyD d0), .type T, b, rfl, .ty T, tyx_of (dp_ex ex_hide0 d1), kit_ty e3, k _ H1 r1 x1 (.bl b)⟩
end
/-! ## bits -/
def dBit (f : Int → Int → Int) : D → D → Option D
  | .int a, .int b => some (.int (f a b))
  | _, _ => none
def dShl : D → D → Option D
  | .int a, .int b => if 0 ≤ b ∧ b ≤ 1000000 ∧ a.natAbs < 2 ^ 64 then some (.int (a * 2 ^ b.toNat)) else none
  | _, _ => none
def dShr : D → D → Option D
  | .int a, .int b => if 0 ≤ b then some (.int (a / 2 ^ b.toNat)) else none
  | _, _ => none
section
variable {K : PySem.W.Frag} {Γ : G}
theorem rs_bit {f : Int → Int → Int} : RS K (rI0 fun i j => .int (f i j)) (dBit f) := fun H x y dx dy dz hx hy e Q q => by
  cases hx <;> cases hy <;> cases e
  exact ⟨_, _, rfl, rfl, q _ fun M => .int _⟩
theorem rs_shl : RS K (rI CPow fun i j => .int (i * 2 ^ j.toNat)) dShl := rs_int fun dx dy dz e => by
  cases dx <;> cases dy <;> first | (cases e; done) | skip
  simp only [dShl] at e; split at e
  · cases e; exact ⟨_, _, rfl, rfl, ‹_›, rfl⟩
  · cases e
theorem rs_shr : RS K (rI (fun _ j => 0 ≤ j) fun i j => .int (i / 2 ^ j.toNat)) dShr := rs_int fun dx dy dz e => by
  cases dx <;> cases dy <;> first | (cases e; done) | skip
  simp only [dShr] at e; split at e
  · cases e; exact ⟨_, _, rfl, rfl, ‹_›, rfl⟩
  · cases e
theorem ho_band : ∀ X, InG Γ X → OpR X (binaryOp .BitAnd) (rI0 fun i j => .int (Builtin.bitAnd i j)) := fun _ _ => op_and
theorem ho_bor : ∀ X, InG Γ X → OpR X (binaryOp .BitOr) (rI0 fun i j => .int (Builtin.bitOr i j)) := fun _ _ => op_or
theorem ho_bxor : ∀ X, InG Γ X → OpR X (binaryOp .BitXor) (rI0 fun i j => .int (Builtin.bitXor i j)) := fun _ _ => op_xor
theorem ho_shl : ∀ X, InG Γ X → OpR X (binaryOp .LShift) (rI CPow fun i j => .int (i * 2 ^ j.toNat)) := fun _ _ => op_shl
theorem ho_shr : ∀ X, InG Γ X → OpR X (binaryOp .RShift) (rI (fun _ j => 0 ≤ j) fun i j => .int (i / 2 ^ j.toNat)) := fun _ _ => op_shr
end
/-! ## a sign in a text -/
def dInS (neg : Bool) : D → D → Option D
  | .str x, .str z => match x.cps.toList with
    | [c] => some (.bool (if neg then !decide (c ∈ z.cps.toList) else decide (c ∈ z.cps.toList)))
    | _ => none
  | _, _ => none
def rInS : R2 := fun x y H Q => ∃ (c : Nat) (z : Str), x = .str ⟨#[c]⟩ ∧ y = .str z ∧ Q (.bl (decide (c ∈ z.cps.toList))) H
def rNotInS : R2 := fun x y H Q => ∃ (c : Nat) (z : Str), x = .str ⟨#[c]⟩ ∧ y = .str z ∧ Q (.bl (!decide (c ∈ z.cps.toList))) H
theorem one_sign {x : Str} {c : Nat} (h : x.cps.toList = [c]) : x = ⟨#[c]⟩ := tl_ext h
section
variable {K : PySem.W.Frag} {Γ : G}
theorem rs_inS : RS K rInS (dInS false) := fun H x y dx dy dz hx hy e Q q => by
  cases hx <;> cases hy <;> first | (cases e; done) | skip
  rename_i x z
  simp only [dInS] at e
  split at e
  · rename_i c hc
    cases e
    exact ⟨c, z, congrArg V.str (one_sign hc), rfl, q _ fun M => .bl _⟩
  · cases e
theorem rs_ninS : RS K rNotInS (dInS true) := fun H x y dx dy dz hx hy e Q q => by
  cases hx <;> cases hy <;> first | (cases e; done) | skip
  rename_i x z
  simp only [dInS] at e
  split at e
  · rename_i c hc
    cases e
    exact ⟨c, z, congrArg V.str (one_sign hc), rfl, q _ fun M => .bl _⟩
  · cases e
theorem ho_inS : ∀ X, InG Γ X → OpR X (compareOp .In) rInS := fun _ _ => op_in_sign
theorem ho_ninS : ∀ X, InG Γ X → OpR X (compareOp .NotIn) rNotInS := fun _ _ => op_notIn_sign
end
/-! ## a list so many times -/
def xRep (m : MF) (k : ME) : MF := fun s => (m s).bind fun p => (k p.2).bind fun q => match q.1 with
  | .int n => if -1000000 ≤ n ∧ n ≤ 1000000 ∧ p.1.length * n.toNat ≤ 1000000 then some ((List.replicate n.toNat p.1).flatten, q.2) else none
  | _ => none
theorem dpa_rep {K : PySem.W.Frag} {H : Hp} {vs : List V} {ds : List D} (h : RpAll K H vs ds) : ∀ n : Nat, RpAll K H (List.replicate n vs).flatten (List.replicate n ds).flatten
  | 0 => .nil
  | n + 1 => by
    rw [List.replicate_succ, List.replicate_succ, List.flatten_cons, List.flatten_cons]
    exact dpa_app h (dpa_rep h n)
theorem xRep_of {m : MF} {k : ME} {s s' : MS} {ds : List D} (h : xRep m k s = some (ds, s')) : ∃ es s1 n, m s = some (es, s1) ∧ k s1 = some (.int n, s') ∧ -1000000 ≤ n ∧ n ≤ 1000000 ∧ es.length * n.toNat ≤ 1000000 ∧ ds = (List.replicate n.toNat es).flatten := by
  unfold xRep at h
  obtain ⟨p, e1, e2⟩ := bind_of h
  obtain ⟨q, e3, e4⟩ := bind_of e2
  obtain ⟨y, s2⟩ := q
  cases y <;> first | (cases e4; done) | skip
  simp only at e4
  split at e4
  · rename_i hc
    cases e4
    exact ⟨_, _, _, e1, e3, hc.1, hc.2.1, hc.2.2, rfl⟩
  · cases e4
section
variable {Γ : G} {O L L0 W : List Nat} {a b c : Expr} {ma : MF} {mb m1 m2 m3 : ME} {pos : Pos}
theorem tf_rep (ha : TrF Γ O L W a ma) (hb : TrE Γ O L0 W b mb) (hW : ∀ j ∈ W, j ∈ L) (hO : ∀ j ∈ W, j ∈ O) : TrF Γ O L W (.BinOp a .Mult b pos) (xRep ma mb) := by
  obtain ⟨ta, pa, qa⟩ := ha
  obtain ⟨tb, pb, qb⟩ := hb
  refine ⟨tOp rRep ta tb, fun X h => pe_op op_rep (pa X h) (pb X h), fun c σ H s r ds s' e Q k => ?_⟩
  obtain ⟨es, s1, n, e1, e2, n0, n1, n2, rfl⟩ := xRep_of e
  refine qa c σ H s r _ _ e1 _ fun p vs H1 hp r1 x1 h1 d1 => ?_
  refine qb c σ H1 s1 (r1.ex ex_hide0) _ _ e2 _ fun v H2 r2 x2 d2 => ?_
  cases d2
  have np : ¬ Own W σ p := fun ⟨i, hi, e⟩ => by
    obtain ⟨q, us, fs, h1', _, h3, _⟩ := r1.ow i (hO i hi)
    rw [e] at h1'
    cases h1'
    exact (of_hide h3).1 rfl
  have h2 : H2 p = some (.lst vs) := (of_hide (x2 p _ (hide_of np h1))).2
  have x12 : Ex (hide (Own W σ) H) (hide (Own W σ) H2) := (x1.trans (ex_hide ex_hide0)).trans x2
  have dd := dpa_rep (dpa_ex (keep hW x2) (dpa_ex (ex_hide ex_hide0) d1)) n.toNat
  refine ⟨p, n, vs, rfl, rfl, h2, by omega, by omega, sz1M (by rw [dpa_len d1]; exact n2), ?_⟩
  exact simF_new r2 x12 (fresh_of r2 hO x12) dd k
/-! ## a < b < c -/
def xChain (f g : D → D → Option D) (a b c : ME) : ME := fun s => (a s).bind fun p => (b p.2).bind fun q => (f p.1 q.1).bind fun z => match z with
  | .bool true => (c q.2).bind fun w => (g q.1 w.1).map fun u => (u, w.2)
  | .bool false => some (.bool false, q.2)
  | _ => none
theorem tr_chain {op op' : CmpOp} {r r' : R2} {f g : D → D → Option D} (ho : ∀ X, InG Γ X → OpR X (compareOp op) r) (hr : RS Γ.K r f) (ho' : ∀ X, InG Γ X → OpR X (compareOp op') r') (hr' : RS Γ.K r' g) (ha : TrE Γ O L0 W a m1) (hb : TrE Γ O L0 W b m2) (hc : TrE Γ O L0 W c m3) (hW : ∀ j ∈ W, j ∈ L0)
    (hm : lastMarks [op, op'] [b, c] = false := by with_unfolding_all rfl) : TrE Γ O L W (.Compare a [op, op'] [b, c] pos) (xChain f g m1 m2 m3) := by
  obtain ⟨ta, pa, qa⟩ := ha
  obtain ⟨tb, pb, qb⟩ := hb
  obtain ⟨tc, pc, qc⟩ := hc
  refine ⟨tChain r r' ta tb tc, fun X h => pe_chain (ho X h) (ho' X h) (pa X h) (pb X h) (pc X h) hm, fun cc σ H s r0 d s' e Q k => ?_⟩
  unfold xChain at e
  obtain ⟨p, e1, e⟩ := bind_of e
  obtain ⟨q, e2, e⟩ := bind_of e
  obtain ⟨z, e3, e⟩ := bind_of e
  refine qa cc σ H s r0 _ _ e1 _ fun x H1 r1 x1 d1 => qb cc σ H1 _ r1 _ _ e2 _ fun y H2 r2 x2 d2 => ?_
  refine hr H2 x y _ _ z (dp_ex ex_hide0 (dp_ex (keep hW x2) d1)) (dp_ex ex_hide0 d2) e3 _ fun v hv => ?_
  cases z <;> first | (cases e; done) | skip
  rename_i bz
  have hvb := hv H2
  cases hvb
  cases bz with
  | false =>
    cases e
    exact ⟨false, rfl, k _ H2 r2 (x1.trans x2) (.bl false)⟩
  | true =>
    obtain ⟨w, e4, e5⟩ := bind_of e
    obtain ⟨u, e6, e7⟩ := mapNx_of e5
    cases e7
    refine ⟨true, rfl, ?_⟩
    show tc σ H2 _
    refine qc cc σ H2 _ r2 _ _ e4 _ fun v3 H3 r3 x3 d3 => ?_
    exact hr' H3 y v3 _ _ _ (dp_ex ex_hide0 (dp_ex (keep hW x3) d2)) (dp_ex ex_hide0 d3) e6 _ fun v4 hv4 => k v4 H3 r3 ((x1.trans x2).trans x3) (hv4 _)
end
end Z


namespace Z
open PySem PySem.Spec PyProof.Rows L2
/-! ## the module's constants: texts, numbers, lists and tuples of them, at any depth -/
inductive Cv where
  | non | bl (b : Bool) | int (i : Int) | str (x : Str) | lst (l : List Cv) | tup (l : List Cv)
mutual
def cvD : Cv → D
  | .non => .none
  | .bl b => .bool b
  | .int i => .int i
  | .str x => .str x
  | .lst l => .list (cvDs l)
  | .tup l => .tuple (cvDs l)
def cvDs : List Cv → List D
  | [] => []
  | c :: r => cvD c :: cvDs r
end
mutual
def cvB (K : PySem.W.Frag) : Cv → Value → Bool
  | .non, u => (match u with
    | .none => true
    | _ => false)
  | .bl b, u => (match u with
    | .bool c => b == c
    | _ => false)
  | .int i, u => (match u with
    | .int j _ => decide (i = j)
    | _ => false)
  | .str x, u => (match u with
    | .str y _ => decide (x = y)
    | _ => false)
  | .lst l, u => (match u with
    | .ref a => (match K.lookup a with
      | some ⟨.type c, none, .seq its _, _⟩ => decide (c = "list") && (decide (its.size ≤ sizeLine) && cvBs K l its.toList)
      | _ => false)
    | _ => false)
  | .tup l, u => (match u with
    | .ref a => (match K.lookup a with
      | some ⟨.type c, _, .seq its _, _⟩ => decide (c = "tuple") && (decide (its.size ≤ sizeLine) && cvBs K l its.toList)
      | _ => false)
    | _ => false)
def cvBs (K : PySem.W.Frag) : List Cv → List Value → Bool
  | [], us => us.isEmpty
  | c :: r, us => (match us with
    | u :: q => cvB K c u && cvBs K r q
    | [] => false)
end
mutual
theorem cvB_ok {K : PySem.W.Frag} : ∀ {c : Cv} {u : Value}, cvB K c u = true → ∃ v, RelV v u ∧ ∀ M, Rp K M v (cvD c)
  | .non, u, h => by
    cases u <;> first | (simp [cvB] at h; done) | skip
    exact ⟨.non, rfl, fun M => by rw [cvD]; exact .non⟩
  | .bl b, u, h => by
    cases u <;> first | (simp [cvB] at h; done) | skip
    rename_i c
    have e : b = c := by simpa [cvB] using h
    subst e
    exact ⟨.bl b, rfl, fun M => by rw [cvD]; exact .bl b⟩
  | .int i, u, h => by
    cases u <;> first | (simp [cvB] at h; done) | skip
    rename_i j t
    have e : i = j := by simpa [cvB] using h
    subst e
    exact ⟨.int i, ⟨t, rfl⟩, fun M => by rw [cvD]; exact .int i⟩
  | .str x, u, h => by
    cases u <;> first | (simp [cvB] at h; done) | skip
    rename_i y t
    have e : x = y := by simpa [cvB] using h
    subst e
    exact ⟨.str x, ⟨t, rfl⟩, fun M => by rw [cvD]; exact .str x⟩
  | .lst l, u, h => by
    cases u <;> first | (simp [cvB] at h; done) | skip
    rename_i a
    unfold cvB at h
    simp only at h
    split at h
    · rename_i c its n sl hl
      rw [Bool.and_eq_true, Bool.and_eq_true, decide_eq_true_eq, decide_eq_true_eq] at h
      obtain ⟨vs, r1, r2⟩ := cvBs_ok h.2.2
      exact ⟨.ref a, rfl, fun M => by rw [cvD]; exact .lst (.inr ⟨_, its, n, hl, congrArg Value.type h.1, rfl, rfl, h.2.1, r1⟩) (r2 M)⟩
    · cases h
  | .tup l, u, h => by
    cases u <;> first | (simp [cvB] at h; done) | skip
    rename_i a
    unfold cvB at h
    simp only at h
    split at h
    · rename_i c dd its n sl hl
      rw [Bool.and_eq_true, Bool.and_eq_true, decide_eq_true_eq, decide_eq_true_eq] at h
      obtain ⟨vs, r1, r2⟩ := cvBs_ok h.2.2
      exact ⟨.ref a, rfl, fun M => by rw [cvD]; exact .tup (.inr ⟨_, its, n, hl, congrArg Value.type h.1, rfl, h.2.1, r1⟩) (r2 M)⟩
    · cases h
theorem cvBs_ok {K : PySem.W.Frag} : ∀ {cs : List Cv} {us : List Value}, cvBs K cs us = true → ∃ vs, Vals vs us ∧ ∀ M, RpAll K M vs (cvDs cs)
  | [], us, h => by
    unfold cvBs at h
    have e : us = [] := List.isEmpty_iff.mp h
    subst e
    exact ⟨[], .nil, fun M => by rw [cvDs]; exact .nil⟩
  | c :: r, [], h => by simp [cvBs] at h
  | c :: r, u :: q, h => by
    unfold cvBs at h
    simp only [Bool.and_eq_true] at h
    obtain ⟨v, r1, r2⟩ := cvB_ok h.1
    obtain ⟨vs, r3, r4⟩ := cvBs_ok h.2
    exact ⟨v :: vs, .cons r1 r3, fun M => by rw [cvDs]; exact .cons (r2 M) (r4 M)⟩
end
def cvG (K : PySem.W.Frag) (x : Str) (c : Cv) : Bool := match PySem.W.nsIn K mainGlobals x with
  | some (some u) => cvB K c u
  | _ => false
def cvT (K : PySem.W.Frag) (a : Addr) (kvs : List (Str × Cv)) : Bool := kvs.all fun q => match PySem.W.nsIn K a q.1 with
  | some (some u) => cvB K q.2 u
  | _ => false
def cvN (K : PySem.W.Frag) (a : Addr) (ks : List Str) : Bool := true
def cvK : List (Str × Cv) → Str → Option D
  | [], _ => none
  | q :: r, z => if q.1 = z then some (cvD q.2) else cvK r z
theorem cvK_mem : ∀ {kvs : List (Str × Cv)} {z : Str} {d : D}, cvK kvs z = some d → ∃ q ∈ kvs, q.1 = z ∧ cvD q.2 = d
  | [], _, _, h => by cases h
  | q :: r, z, d, h => by
    unfold cvK at h
    split at h
    · exact ⟨q, List.mem_cons_self, ‹_›, Option.some.inj h⟩
    · obtain ⟨q', h1, h2⟩ := cvK_mem h
      exact ⟨q', List.mem_cons_of_mem _ h1, h2⟩
section
variable {K : PySem.W.Frag} {w : World} {h : Heap} {mg : Str → Option Value} {x : Str}
theorem gc_cv (X : K.In h) (G : h.Ns mainGlobals mg) {c : Cv} (e : cvG K x c = true) : ∃ u v, mg x = some u ∧ RelV v u ∧ ∀ M, Rp K M v (cvD c) := by
  unfold cvG at e
  split at e
  · rename_i u hu
    obtain ⟨v, r1, r2⟩ := cvB_ok e
    exact ⟨u, v, PySem.W.mg_of X G hu, r1, r2⟩
  · cases e
theorem kdm_cv {a : Addr} {kvs : List (Str × Cv)} (D : ∃ es n, KDict K w a es n) (hv : cvT K a kvs = true) : KDm K w a (cvK kvs) := fun z d e => by
  obtain ⟨es, n, D⟩ := D
  obtain ⟨q, h1, h2, h3⟩ := cvK_mem e
  have := List.all_eq_true.mp hv q h1
  split at this
  · rename_i u hu
    obtain ⟨v, r1, r2⟩ := cvB_ok this
    rw [h2] at hu
    subst h3
    exact ⟨v, ⟨es, n, u, D.at_, D.lit, hu, r1⟩, r2⟩
  · cases this
end
/-! ## D.get(key, default) of a dict of the module -/
/-- what the written dict at a tells of a text: there or not -/
def KGt (K : PySem.W.Frag) (w : World) (a : Addr) (z : Str) (o : Option V) : Prop := ∃ es n r, KDict K w a es n ∧ PySem.W.nsIn K a z = some r ∧ ((o = none ∧ r = none) ∨ ∃ v u, o = some v ∧ r = some u ∧ RelV v u)
def tKGet (K : PySem.W.Frag) (w : World) (a : Addr) (te tf : TE) : TE := fun σ H Q => te σ H fun y H1 => tf σ H1 fun z H2 => ∃ k o, y = .str k ∧ KGt K w a k o ∧ Q (o.getD z) H2
theorem pe_kget {X : Cx} {x : Str} {a : Addr} {e f : Expr} {te tf : TE} {px apos cpos : Pos} (hg : Gl X x) (hm : X.mg x = some (.ref a)) (he : PE X e te) (hf : PE X f tf) (m : M2 X (.Name x px) "get" apos e f cpos) (hty : ∃ es n, KDict X.K X.w a es n) (hdb : (x == ("__debug__" : Str)) = false := by decide) :
    PE X (.Call (.Attribute (.Name x px) "get" apos) [e, f] [] cpos) (tKGet X.K X.w a te tf) := by
  refine ⟨fun pins s σ H Q I h => ?_⟩
  refine wpAny_Call_method m.base m.few m.line PySem.F.plainAttrs_dict PySem.F.slot_dict_get PySem.F.type_dict_get (thn ((pe_glob (v := .ref a) hg hm rfl hdb).run pins s σ H (fun x H1 => x = .ref a ∧ H1 = H) I ⟨rfl, rfl⟩) fun u s1 ⟨x, H1, I1, rx, ex, eH⟩ => ?_)
  subst ex eH
  obtain rfl : u = Value.ref a := rx
  obtain ⟨es, n, D⟩ := hty
  have hm0 := PySem.W.mapOf_K (prog := X.prog) (w := X.w) I1.kIn D.at_ D.lit
  refine ⟨hm0.typeIs, hm0.noDict, ?_⟩
  rw [m.trees]
  refine Calls.callWith_builtin rfl (Calls.evalArgs_plain (Calls.spliced_cons (thn (he.run pins s1 σ H1 _ I1 h) fun iv s2 ⟨y, H2, I2, ry, q2⟩ =>
    Calls.spliced_cons (thn (hf.run pins s2 σ H2 _ I2 q2) fun fv s3 ⟨z, H3, I3, rz, k, o, ey, g, q3⟩ => Calls.spliced_nil ?_))))
  subst ey
  obtain ⟨t, rfl⟩ := ry
  obtain ⟨es2, n2, r, D2, er, hr⟩ := g
  have hm2 := PySem.W.mapOf_K (prog := X.prog) (w := X.w) I3.kIn D2.at_ D2.lit
  have ef := PySem.W.find_K D2.at_ er
  refine call_meetsIn PySem.F.slot_dict_get hm2.typeIs PySem.F.entry_dict_get (PySem.F.args_dict_get_3 _ _ _) (meets_dict_get_default (strKind X.prog X.w) a (strKind_is X.prog X.w k t) D2.low fv) ⟨_, hm2, ?_⟩
  refine ⟨o.getD z, H3, I3.tok _, ?_, q3⟩
  show RelV (o.getD z) ((findBy Value.isStrOf es2 k).getD fv)
  rw [ef]
  rcases hr with ⟨rfl, rfl⟩ | ⟨v, u, rfl, rfl, rv⟩
  · exact rz
  · exact rv
theorem miss_of {P : Params} {z : Str} : ∀ {l : List DictEntry} {ks : List Str}, l.map He.keyOf = He.keysIn P ks → z ∉ ks → l.find? (·.key.isStr z) = none ∧ l.any (·.refKey) = false
  | [], _, _, _ => ⟨rfl, rfl⟩
  | e :: r, [], h, _ => by cases h
  | e :: r, k :: ks, h, hz => by
    have h1 : He.keyOf e :: r.map He.keyOf = some (k, PyData.keyHash P k) :: He.keysIn P ks := h
    injection h1 with h2 h3
    obtain ⟨i1, i2⟩ := miss_of h3 fun m => hz (List.mem_cons_of_mem _ m)
    have hk : ∃ t, e.key = .str k t := by
      unfold He.keyOf at h2
      split at h2
      · rename_i x t q
        have h4 := Option.some.inj h2
        obtain ⟨h5, _⟩ := Prod.mk.inj h4
        exact ⟨t, by rw [q, h5]⟩
      · cases h2
    obtain ⟨t, hk⟩ := hk
    have hne : ¬ k = z := fun e => hz (by rw [← e]; exact List.mem_cons_self)
    have n1 : e.key.isStr z = false := by rw [hk]; simp [Value.isStr, hne]
    have n2 : e.refKey = false := by unfold DictEntry.refKey; rw [hk]
    exact ⟨by rw [List.find?_cons, n1]; exact i1, by rw [List.any_cons, n2, i2]; rfl⟩
/-- what is known of a whole written dict -/
def KDg (K : PySem.W.Frag) (w : World) (a : Addr) (f : Str → Option D) : Prop := (∃ es n, KDict K w a es n) ∧ ∀ z, (∃ d v, f z = some d ∧ KGt K w a z (some v) ∧ ∀ M, Rp K M v d) ∨ (f z = none ∧ KGt K w a z none)
theorem cvK_none : ∀ {kvs : List (Str × Cv)} {z : Str}, cvK kvs z = none → z ∉ kvs.map (·.1)
  | [], _, _ => by simp
  | q :: r, z, h => by
    unfold cvK at h
    split at h
    · cases h
    · rename_i hc
      have := cvK_none h
      simp only [List.map_cons, List.mem_cons, not_or]
      exact ⟨fun e => hc e.symm, this⟩
theorem kdg_of {K : PySem.W.Frag} {w : World} {a : Addr} {kvs : List (Str × Cv)} (D : ∃ es n, KDict K w a es n) (hd : He.dicW K a = some (He.keysIn w.params (kvs.map (·.1)))) (hv : cvT K a kvs = true) : KDg K w a (cvK kvs) := by
  refine ⟨D, fun z => ?_⟩
  cases e : cvK kvs z with
  | some d =>
    obtain ⟨v, ⟨es, n, u, h1, h2, h3, h4⟩, h5⟩ := kdm_cv D hv z d e
    obtain ⟨es2, n2, D2⟩ := D
    exact .inl ⟨d, v, rfl, ⟨es2, n2, some u, D2, h3, .inr ⟨v, u, rfl, rfl, h4⟩⟩, h5⟩
  | none =>
    refine .inr ⟨rfl, ?_⟩
    obtain ⟨es, n, D⟩ := D
    have hk : es.toList.map He.keyOf = He.keysIn w.params (kvs.map (·.1)) := by
      unfold He.dicW at hd
      rw [D.at_] at hd
      simp only [D.low] at hd
      simpa using hd
    obtain ⟨m1, m2⟩ := miss_of hk (cvK_none e)
    refine ⟨es, n, none, D, ?_, .inl ⟨rfl, rfl⟩⟩
    unfold PySem.W.nsIn
    rw [D.at_]
    simp only [m1, m2]
    rfl
def xKGet (f : Str → Option D) (e d : ME) : ME := fun s => (e s).bind fun p => (d p.2).bind fun q => match p.1 with
  | .str z => some ((f z).getD q.1, q.2)
  | _ => none
section
variable {Γ : G} {O L W : List Nat} {e f : Expr} {me mf : ME} {px apos cpos : Pos} {x : Str} {q : Addr} {ft : Str → Option D}
theorem tr_kget (hg : Γ.sc.names.lookup x = some .globalImplicit) (hm : Γ.mg x = some (.ref q)) (hd : KDg Γ.K Γ.w q ft) (he : TrE Γ O L W e me) (hf : TrE Γ O L W f mf) (hW : ∀ j ∈ W, j ∈ L) (hdb : (x == ("__debug__" : Str)) = false := by decide)
    (hbase : ∀ env : Env, attributeBase (.Name x px) "get" env (eval (.Name x px) env) = eval (.Name x px) env := by intro _; rfl)
    (hfew : ∀ env : Env, ((backTo cpos (starEach [e, f] env)).all (fun x => !x.1) && (backToKw cpos (keywordEach [] env)).all (fun x => x.1.isSome)
      && decide (([e, f] : List Expr).length + ([] : List Keyword).length + (if ([] : List Keyword).isEmpty then 0 else 1) < 30)) = true := by intro _; rfl)
    (hline : (apos.endLine == cpos.line) = true := by rfl) (htr : ∀ env : Env, backTo cpos (starEach [e, f] env) = [(false, eval e env), (false, eval f env)] := by intro _; rfl) :
    TrE Γ O L W (.Call (.Attribute (.Name x px) "get" apos) [e, f] [] cpos) (xKGet ft me mf) := by
  obtain ⟨te, pe, qe⟩ := he
  obtain ⟨tf, pf, qf⟩ := hf
  refine ⟨tKGet Γ.K Γ.w q te tf, fun X h => ?_, fun c σ H s r d s' e0 Q k => ?_⟩
  · rw [← h.K, ← h.w]
    exact pe_kget (h.gl hg) (h.mgn hm) (pe X h) (pf X h) ⟨hbase _, hfew _, hline, htr _⟩ (by rw [h.K, h.w]; exact hd.1) hdb
  · unfold xKGet at e0
    obtain ⟨p1, a1, a2⟩ := bind_of e0
    obtain ⟨p2, b1, b2⟩ := bind_of a2
    obtain ⟨y, s1⟩ := p1
    cases y <;> first | (cases b2; done) | skip
    rename_i z
    cases b2
    refine qe c σ H s r _ _ a1 _ fun v H1 r1 x1 d1 => qf c σ H1 s1 r1 _ _ b1 _ fun u H2 r2 x2 d2 => ?_
    cases d1
    rcases hd.2 z with ⟨d, w, e1, g, hv⟩ | ⟨e1, g⟩
    · exact ⟨z, some w, rfl, g, by rw [e1] at k; exact k w H2 r2 (x1.trans x2) (hv _)⟩
    · exact ⟨z, none, rfl, g, by rw [e1] at k; exact k u H2 r2 (x1.trans x2) d2⟩
end
end Z


namespace Z
open PySem PySem.Spec PyProof.Rows L2
/-! ## zip over lists, tuples, texts, mixed -/
inductive Gs where
  | lst (a : Addr) | tup (a : Addr) | txt (z : Str)
def Gs.at_ : Gs → Option Addr
  | .lst a => some a
  | .tup a => some a
  | .txt _ => none
def GLen (K : PySem.W.Frag) (H : Hp) (n : Nat) : Gs → Prop
  | .lst a => ∃ xs, SqL K H a xs ∧ xs.length = n
  | .tup a => ∃ xs, SqT K H a xs ∧ xs.length = n
  | .txt z => z.cps.size = n
def GIt (K : PySem.W.Frag) (H : Hp) (i : Nat) (x : V) : Gs → Prop
  | .lst a => ∀ xs, SqL K H a xs → xs[i]? = some x
  | .tup a => ∀ xs, SqT K H a xs → xs[i]? = some x
  | .txt z => ∃ c, z.cps[i]? = some c ∧ x = .str ⟨#[c]⟩
def GSt (it : Addr) (i : Nat) (h : Heap) : Gs → Prop
  | .lst a => h.IsListIter it a i
  | .tup a => h.IsTupleIter it a i
  | .txt z => ∃ t, h.IsStrIter it (strIterType z) z t i
theorem GSt.keep {it : Addr} {i : Nat} {h h' : Heap} : ∀ {g : Gs}, GSt it i h g → (∀ o, h.get? it = some o → h'.get? it = some o) → GSt it i h' g
  | .lst a, st, k => Heap.IsListIter.at st k
  | .tup a, st, k => Heap.IsTupleIter.at st k
  | .txt z, ⟨t, o, ho, r⟩, k => ⟨t, o, k o ho, r⟩
theorem GSt.obj {it : Addr} {i : Nat} {h : Heap} : ∀ {g : Gs}, GSt it i h g → ∃ o, h.get? it = some o ∧ ∀ v, o.data ≠ .cell v
  | .lst a, ⟨o, e, _, d⟩ => ⟨o, e, fun v q => by rw [d] at q; cases q⟩
  | .tup a, ⟨o, e, _, d⟩ => ⟨o, e, fun v q => by rw [d] at q; cases q⟩
  | .txt z, ⟨t, o, e, _, d⟩ => ⟨o, e, fun v q => by rw [d] at q; cases q⟩
/-- an iterator as the library's Draws, by what the heap shows now -/
theorem draws_of {X : Cx} {pins : List (Addr × Obj)} {σ : L2.St} {H : Hp} {s : Shared} (I : L2.Inv X pins σ H s) (hh : X.A.handled = none) {it : Addr} {i n : Nat} : ∀ {g : Gs}, GLen X.K H n g → GSt it i s.heap g → (∀ a, g.at_ = some a → a ≠ it) →
    ∃ (fp : List Addr) (P : Nat → Value → Prop) (St : Nat → Heap → Prop), Draws X.prog X.w X.A.in1 it fp n P St ∧ St i s.heap ∧ (∀ j h, St j h → GSt it j h g) ∧ (∀ v, P i v → ∃ x, RelV x v ∧ GIt X.K H i x g) ∧ it ∈ fp ∧ ∀ b ∈ fp, b = it ∨ g.at_ = some b
  | .lst a, ⟨xs, hx, hl⟩, st, hn => by
    obtain ⟨its, rv, p, _⟩ := I.list hx
    have hs : its.toArray.size = n := by rw [List.size_toArray, ← rv.length, hl]
    subst hs
    refine ⟨_, _, _, Draws.list (A := X.A.in1) (show X.A.in1.handled = none from hh) it a (hn a rfl) its.toArray, ⟨st, p.isList⟩, fun j h q => q.1, fun v hv => ?_, by simp, fun b hb => ?_⟩
    · have hv' : its[i]? = some v := by simpa using hv
      have hi : i < xs.length := by
        rw [rv.length]
        exact (List.getElem?_eq_some_iff.mp hv').1
      obtain ⟨u, hu, ru⟩ := rv.get (List.getElem?_eq_getElem hi)
      rw [hv'] at hu
      cases hu
      exact ⟨_, ru, fun ys hy => by rw [I.list_inj hy hx]; exact List.getElem?_eq_getElem hi⟩
    · rcases List.mem_cons.mp hb with e | e
      · exact .inl e
      · exact .inr (congrArg some (List.mem_singleton.mp e).symm)
  | .tup a, ⟨xs, hx, hl⟩, st, hn => by
    obtain ⟨its, rv, p, _⟩ := I.tuple hx
    have hs : its.toArray.size = n := by rw [List.size_toArray, ← rv.length, hl]
    subst hs
    refine ⟨_, _, _, Draws.tuple (A := X.A.in1) (show X.A.in1.handled = none from hh) it a (hn a rfl) its.toArray, ⟨st, p⟩, fun j h q => q.1, fun v hv => ?_, by simp, fun b hb => ?_⟩
    · have hv' : its[i]? = some v := by simpa using hv
      have hi : i < xs.length := by
        rw [rv.length]
        exact (List.getElem?_eq_some_iff.mp hv').1
      obtain ⟨u, hu, ru⟩ := rv.get (List.getElem?_eq_getElem hi)
      rw [hv'] at hu
      cases hu
      exact ⟨_, ru, fun ys hy => by rw [I.tuple_inj hy hx]; exact List.getElem?_eq_getElem hi⟩
    · rcases List.mem_cons.mp hb with e | e
      · exact .inl e
      · exact .inr (congrArg some (List.mem_singleton.mp e).symm)
  | .txt z, hl, ⟨t, st⟩, hn => by
    have hs : z.cps.size = n := hl
    subst hs
    refine ⟨_, _, _, Draws.text (A := X.A.in1) (show X.A.in1.handled = none from hh) it z t, st, fun j h q => ⟨t, q⟩, fun v hv => ?_, by simp, fun b hb => .inl (by simpa using hb)⟩
    obtain ⟨c, u, hc, rfl⟩ := hv
    exact ⟨.str ⟨#[c]⟩, ⟨u, rfl⟩, c, hc, rfl⟩
/-- the cells of such a zip lie apart -/
structure GAp (z TI TO i1 i2 : Addr) (g1 g2 : Gs) : Prop where
  TIz : TI ≠ z
  TOz : TO ≠ z
  TITO : TI ≠ TO
  TIi1 : TI ≠ i1
  TIi2 : TI ≠ i2
  TOi1 : TO ≠ i1
  TOi2 : TO ≠ i2
  zi1 : z ≠ i1
  zi2 : z ≠ i2
  i12 : i1 ≠ i2
  o1 : ∀ a, g1.at_ = some a → a ≠ z ∧ a ≠ TI ∧ a ≠ TO ∧ a ≠ i1 ∧ a ≠ i2
  o2 : ∀ a, g2.at_ = some a → a ≠ z ∧ a ≠ TI ∧ a ≠ TO ∧ a ≠ i1 ∧ a ≠ i2
theorem GAp.sep {z TI TO i1 i2 : Addr} {g1 g2 : Gs} {fp1 fp2 : List Addr} (D : GAp z TI TO i1 i2 g1 g2) (m1 : i1 ∈ fp1) (m2 : i2 ∈ fp2) (f1 : ∀ b ∈ fp1, b = i1 ∨ g1.at_ = some b) (f2 : ∀ b ∈ fp2, b = i2 ∨ g2.at_ = some b) : ZipSep2 z TI TO i1 i2 fp1 fp2 where
  TIz := D.TIz
  TOz := D.TOz
  TITO := D.TITO
  TIi1 := D.TIi1
  mem1 := m1
  zf1 := fun h => (f1 z h).elim D.zi1 fun e => (D.o1 z e).1 rfl
  Tf1 := fun h => (f1 TO h).elim D.TOi1 fun e => (D.o1 TO e).2.2.1 rfl
  TIi2 := D.TIi2
  mem2 := m2
  zf2 := fun h => (f2 z h).elim D.zi2 fun e => (D.o2 z e).1 rfl
  Tf2 := fun h => (f2 TO h).elim D.TOi2 fun e => (D.o2 TO e).2.2.1 rfl
  sep1_2 := fun h => (f2 i1 h).elim D.i12 fun e => (D.o2 i1 e).2.2.2.1 rfl
  sep2_1 := fun h => (f1 i2 h).elim (fun e => D.i12 e.symm) fun e => (D.o1 i2 e).2.2.2.2 rfl
def ItzG (K : PySem.W.Frag) (g1 g2 : Gs) : It :=
  ⟨fun i H => ∃ n1 n2, GLen K H n1 g1 ∧ GLen K H n2 g2 ∧ i < n1 ∧ i < n2,
    fun i H v H' => ∃ T x y, v = .ref T ∧ H T = none ∧ H' = upd H T (.tup [x, y]) ∧ GIt K H i x g1 ∧ GIt K H i y g2,
    fun i H => ∃ n1 n2, GLen K H n1 g1 ∧ GLen K H n2 g2 ∧ i ≤ n1 ∧ i ≤ n2 ∧ (i = n1 ∨ i = n2)⟩
theorem turn_zipG {P : Program} {w : World} {K : PySem.W.Frag} {elts : List Expr} {kk : Nat} {tpos : Pos} {z TI TO i1 i2 : Addr} {g1 g2 : Gs} (D : GAp z TI TO i1 i2 g1 g2) :
    Turn P w K (.Tuple elts kk tpos) (ItzG K g1 g2) [z, TI, TO, i1, i2] z (fun i h => IsZip h z TI TO .none ∧ IsTupOf2 h TI (.ref i1) (.ref i2) ∧ (∃ x y, IsTupOf2 h TO x y) ∧ GSt i1 i h g1 ∧ GSt i2 i h g2) where
  mem := by simp
  obj := fun i h st c hc => by
    obtain ⟨hz, hTI, ⟨x, y, hTO⟩, s1, s2⟩ := st
    have e' : c = z ∨ c = TI ∨ c = TO ∨ c = i1 ∨ c = i2 := by simpa using hc
    rcases e' with q | q | q | q | q
    · rw [q]; exact ⟨_, hz, fun v q => nomatch q⟩
    · rw [q]; exact ⟨_, hTI, fun v q => nomatch q⟩
    · rw [q]; exact ⟨_, hTO, fun v q => nomatch q⟩
    · rw [q]; exact s1.obj
    · rw [q]; exact s2.obj
  keep := fun i h h' st k => by
    obtain ⟨hz, hTI, ⟨x, y, hTO⟩, h1, h2⟩ := st
    exact ⟨k z (by simp) _ hz, k TI (by simp) _ hTI, ⟨x, y, k TO (by simp) _ hTO⟩, h1.keep fun o q => k i1 (by simp) o q, h2.keep fun o q => k i2 (by simp) o q⟩
  item := by
    intro X hP hw hK hc i pins s σ H E I hf st hg
    subst hP hw hK
    obtain ⟨hz, hTI, ⟨x0, y0, hTO⟩, h1, h2⟩ := st
    obtain ⟨n1, n2, l1, l2, lt1, lt2⟩ := hg
    have hh := I.ok.hd hc
    obtain ⟨fp1, P1, St1, D1, t1, k1, p1, m1, f1⟩ := draws_of I hh l1 h1 fun a e => (D.o1 a e).2.2.2.1
    obtain ⟨fp2, P2, St2, D2, t2, k2, p2, m2, f2⟩ := draws_of I hh l2 h2 fun a e => (D.o2 a e).2.2.2.2
    have hzl : z < s.heap.objs.size := Heap.lt_size hz
    refine wpAny_pyNext_zipD2_item (D.sep m1 m2 f1 f2) D1 D2 hz hTI hTO t1 t2 lt1 lt2 fun u u2 h' tk y1 y2 z' TO' st1 st2 hT hsz hk => ?_
    obtain ⟨x, ru, gx⟩ := p1 u y1
    obtain ⟨y, ru2, gy⟩ := p2 u2 y2
    refine ⟨_, rfl, wpAny_letOwnedTupleGo_zip (s := { s with heap := h', toks := tk }) z' fun h'' z'' sb => ?_⟩
    have hT2 : h''.get? s.heap.objs.size = some { cls := .type "tuple", data := .seq #[u, u2] } := (sb.2 _ (Nat.ne_of_gt hzl)).trans hT
    have new : ObjOk X.prog X.w (upd H s.heap.objs.size (.tup [x, y])) h'' s.heap.objs.size (.tup [x, y]) :=
      ⟨by show 2 ≤ sizeLine; decide, [u, u2], .cons ru (.cons ru2 .nil), ⟨_, hT2, rfl, _, rfl⟩⟩
    have I1 : L2.Inv X pins σ (upd H s.heap.objs.size (.tup [x, y])) { s with heap := h'', toks := tk } :=
      I.turnedNew (t' := tk) (ch := [z, TI, TO, i1, i2]) (fun c o hb q => (sb.2 c (fun q' => hb (by simp [q']))).trans (hk c o (fun q' => hb (by simp [q'])) (fun q' => hb (by simp [q'])) (fun q' => hb (by simp [q'])) (fun q' => hb (by simp [q'])) q)) hf (Nat.le_refl _) new
    refine ⟨.ref s.heap.objs.size, _, I1, rfl, ⟨_, x, y, rfl, I.hok.fresh (Nat.le_refl _), rfl, gx, gy⟩, ⟨z'', ?_, ⟨u, u2, ?_⟩, ?_, ?_⟩, fun c hcm => ?_⟩
    · exact (sb.2 _ D.TIz).trans (hk _ _ D.TIz D.TITO D.TIi1 D.TIi2 hTI)
    · exact (sb.2 _ D.TOz).trans TO'
    · exact (k1 _ _ st1).keep fun o q => (sb.2 _ D.zi1.symm).trans q
    · exact (k2 _ _ st2).keep fun o q => (sb.2 _ D.zi2.symm).trans q
    · have hlt : c < s.heap.objs.size := by
        have e' : c = z ∨ c = TI ∨ c = TO ∨ c = i1 ∨ c = i2 := by simpa using hcm
        rcases e' with q | q | q | q | q
        · rw [q]; exact hzl
        · rw [q]; exact Heap.lt_size hTI
        · rw [q]; exact Heap.lt_size hTO
        · rw [q]; obtain ⟨_, e1, _⟩ := h1.obj; exact Heap.lt_size e1
        · rw [q]; obtain ⟨_, e2, _⟩ := h2.obj; exact Heap.lt_size e2
      rw [upd_ne (Nat.ne_of_lt hlt)]
      exact (hf c hcm).1
  done := by
    intro X hP hw hK hc i pins s σ H E I hf st hg
    subst hP hw hK
    obtain ⟨hz, hTI, ⟨x0, y0, hTO⟩, h1, h2⟩ := st
    obtain ⟨n1, n2, l1, l2, le1, le2, hend⟩ := hg
    have hh := I.ok.hd hc
    obtain ⟨fp1, P1, St1, D1, t1, k1, p1, m1, f1⟩ := draws_of I hh l1 h1 fun a e => (D.o1 a e).2.2.2.1
    obtain ⟨fp2, P2, St2, D2, t2, k2, p2, m2, f2⟩ := draws_of I hh l2 h2 fun a e => (D.o2 a e).2.2.2.2
    exact wpAny_pyNext_zipD2_end (D.sep m1 m2 f1 f2) D1 D2 hz hTI hTO t1 t2 le1 le2 hend fun h' tk hk => ⟨rfl, I.turnedL (t' := tk) (ch := [z, TI, TO, i1, i2]) (fun c o hb q =>
      hk c o (fun q' => hb (by simp [q'])) (fun q' => hb (by simp [q'])) (fun q' => hb (by simp [q'])) (fun q' => hb (by simp [q'])) q) hf⟩
  self := fun A i s Q E st h => wpAny_pyIter_zip st.1 h
theorem lt5 {a n : Nat} (h : a < n) : a ≠ n + 4 ∧ a ≠ n + 2 ∧ a ≠ n + 3 ∧ a ≠ n ∧ a ≠ n + 1 := by omega
theorem gap_of {g1 g2 : Gs} {n : Nat} (h1 : ∀ a, g1.at_ = some a → a < n) (h2 : ∀ a, g2.at_ = some a → a < n) : GAp (n + 4) (n + 2) (n + 3) n (n + 1) g1 g2 := by
  refine ⟨?_, ?_, ?_, ?_, ?_, ?_, ?_, ?_, ?_, ?_, fun a e => ?_, fun a e => ?_⟩
  · show (n + 2 : Nat) ≠ n + 4; omega
  · show (n + 3 : Nat) ≠ n + 4; omega
  · show (n + 2 : Nat) ≠ n + 3; omega
  · show (n + 2 : Nat) ≠ n; omega
  · show (n + 2 : Nat) ≠ n + 1; omega
  · show (n + 3 : Nat) ≠ n; omega
  · show (n + 3 : Nat) ≠ n + 1; omega
  · show (n + 4 : Nat) ≠ n; omega
  · show (n + 4 : Nat) ≠ n + 1; omega
  · show (n : Nat) ≠ n + 1; omega
  · exact lt5 (h1 a e)
  · exact lt5 (h2 a e)
theorem ge_of {n c : Nat} (h : c = n + 4 ∨ c = n + 2 ∨ c = n + 3 ∨ c = n ∨ c = n + 1) : n ≤ c := by omega
def GVal (x : V) : Gs → Prop
  | .lst a => x = .ref a
  | .tup a => x = .ref a
  | .txt z => x = .str z
theorem begins_of {X : Cx} {pins : List (Addr × Obj)} {σ : L2.St} {H : Hp} {s : Shared} (I : L2.Inv X pins σ H s) {n : Nat} {x : V} {u : Value} : ∀ {g : Gs}, GLen X.K H n g → GVal x g → RelV x u →
    ∃ (o : Obj) (S : Heap → Prop), Begins u o S ∧ S s.heap ∧ (∀ h' it, h'.get? it = some o → GSt it 0 h' g) ∧ ∀ a, g.at_ = some a → a < s.heap.objs.size
  | .lst a, ⟨xs, hx, hl⟩, v, r => by
    subst v
    obtain rfl : u = .ref a := r
    obtain ⟨its, rv, p, _⟩ := I.list hx
    exact ⟨_, _, begins_list a its.toArray, p.isList, fun h' it e => ⟨_, e, rfl, rfl⟩, fun b e => by cases e; exact p.lt⟩
  | .tup a, ⟨xs, hx, hl⟩, v, r => by
    subst v
    obtain rfl : u = .ref a := r
    obtain ⟨its, rv, p, _⟩ := I.tuple hx
    exact ⟨_, _, begins_tuple a its.toArray, p, fun h' it e => ⟨_, e, rfl, rfl⟩, fun b e => by
      cases e
      obtain ⟨o, ho, _⟩ := p
      exact Heap.lt_size ho⟩
  | .txt z, hl, v, r => by
    subst v
    obtain ⟨t, rfl⟩ := r
    exact ⟨_, _, begins_text z t, trivial, fun h' it e => ⟨t, _, e, rfl, rfl⟩, fun b e => by cases e⟩
def iZipG (K : PySem.W.Frag) (ta : TA) : TI := fun σ H R => ta σ H fun vs H1 => ∃ x y g1 g2 n1 n2, vs = [x, y] ∧ GVal x g1 ∧ GVal y g2 ∧ GLen K H1 n1 g1 ∧ GLen K H1 n2 g2 ∧ R (ItzG K g1 g2) H1
theorem pi_zipG {X : Cx} {e e2 : Expr} {ta : TA} {p pos tpos : Pos} {elts : List Expr} {kk : Nat} (hg : Gl X "zip") (hm : X.mg "zip" = none) (ha : PA X [e, e2] ta)
    (hs : starEach [e, e2] X.env = (false, eval e X.env) :: starEach [e2] X.env := by rfl) (hpl : (backTo pos (starEach [e2] X.env)).any (·.1) = false := by rfl) :
    PI X (.Tuple elts kk tpos) (.Call (.Name "zip" p) [e, e2] [] pos) (iZipG X.K ta) := by
  refine ⟨fun pins s σ H R I h => ?_⟩
  refine Call_ (ld_blt I hg hm PyProof.Rows.boot_zip (PyProof.Rows.callWith_type1 (thn (ha.run pos pins s σ H _ I h) fun us s1 ⟨vs, H1, I1, r1, q1⟩ => ?_) hs hpl))
  obtain ⟨x, y, g1, g2, n1, n2, ex, v1, v2, l1, l2, q⟩ := q1
  subst ex
  obtain ⟨u1, u2, rfl, r, r'⟩ := vals2 r1
  obtain ⟨o1, S1, B1, b1, k1, a1⟩ := begins_of I1 l1 v1 r
  obtain ⟨o2, S2, B2, b2, k2, a2⟩ := begins_of I1 l2 v2 r'
  refine zip_begins2 B1 B2 b1 b2 fun h' hz hTI hTO h1 h2 hsz hk => wpAny_pyIter_zip hz ?_
  have I2 : L2.Inv X pins σ H1 { s1 with heap := h' } := I1.kept (t' := s1.toks) hk
  have D := gap_of a1 a2
  refine ⟨s1.heap.objs.size + 4, [s1.heap.objs.size + 4, s1.heap.objs.size + 2, s1.heap.objs.size + 3, s1.heap.objs.size, s1.heap.objs.size + 1], _, _, H1, rfl, I2, turn_zipG D, ⟨hz, hTI, ⟨_, _, hTO⟩, k1 _ _ h1, k2 _ _ h2⟩, fun c hcm => ?_, q⟩
  have e' : c = s1.heap.objs.size + 4 ∨ c = s1.heap.objs.size + 2 ∨ c = s1.heap.objs.size + 3 ∨ c = s1.heap.objs.size ∨ c = s1.heap.objs.size + 1 := by simpa using hcm
  have hle : s1.heap.objs.size ≤ c := ge_of e'
  exact I1.fpOk hle (I1.hok.fresh hle)
/-! ## the same by mirror -/
def itemsD : D → Option (List D)
  | .list ds => some ds
  | .tuple ds => some ds
  | .str z => some (z.cps.toList.map fun k => .str ⟨#[k]⟩)
  | _ => none
theorem items_of {K : PySem.W.Frag} {H : Hp} {v : V} {d : D} {ds : List D} (h : Rp K H v d) (e : itemsD d = some ds) : ∃ g, GVal v g ∧ (∀ H', Ex H H' → GLen K H' ds.length g) ∧ ∀ H' i x d', Ex H H' → GIt K H' i x g → ds[i]? = some d' → Rp K H x d' := by
  cases h with
  | lst h a =>
    cases e
    refine ⟨.lst _, rfl, fun H' x => ⟨_, sql_ex x h, dpa_len a⟩, fun H' i x d' ex g e => ?_⟩
    obtain ⟨v, h1, h2⟩ := dpa_get a e
    have := g _ (sql_ex ex h)
    rw [h1] at this
    cases this
    exact h2
  | tup h a =>
    cases e
    refine ⟨.tup _, rfl, fun H' x => ⟨_, sqt_ex x h, dpa_len a⟩, fun H' i x d' ex g e => ?_⟩
    obtain ⟨v, h1, h2⟩ := dpa_get a e
    have := g _ (sqt_ex ex h)
    rw [h1] at this
    cases this
    exact h2
  | str z =>
    cases e
    refine ⟨.txt z, rfl, fun H' x => (by show z.cps.size = _; simp), fun H' i x d' ex g e => ?_⟩
    obtain ⟨c, hc, rfl⟩ := g
    rw [List.getElem?_map] at e
    have : z.cps.toList[i]? = some c := by simpa using hc
    rw [this] at e
    cases e
    exact .str _
  | non => cases e
  | bl b => cases e
  | int i => cases e
def xItems (m : ME) : MF := fun s => (m s).bind fun p => (itemsD p.1).map fun ds => (ds, p.2)
section
variable {Γ : G} {O W : List Nat} {elts : List Expr} {kk : Nat} {p pos tpos : Pos} {a b : Expr} {ma mb : ME}
theorem xItems_of {m : ME} {s s' : MS} {ds : List D} (h : xItems m s = some (ds, s')) : ∃ d, m s = some (d, s') ∧ itemsD d = some ds := by
  unfold xItems at h
  obtain ⟨p, e1, e2⟩ := bind_of h
  obtain ⟨q, e3, e4⟩ := mapNx_of e2
  cases e4
  exact ⟨_, e1, e3⟩
theorem ti_zipG (hg : Γ.sc.names.lookup ("zip" : Str) = some .globalImplicit) (hm : Γ.mg "zip" = none) (ha : TrE Γ O O W a ma) (hb : TrE Γ O O W b mb) (hW : ∀ j ∈ W, j ∈ O) (hs : ∀ env : Env, starEach [a, b] env = (false, eval a env) :: starEach [b] env := by intro _; rfl) (hs2 : ∀ env : Env, starEach [b] env = [(false, eval b env)] := by intro _; rfl)
    (hpl : ∀ env : Env, (backTo pos (starEach [b] env)).any (·.1) = false := by intro _; rfl) : TrI Γ O W (.Tuple elts kk tpos) (.Call (.Name "zip" p) [a, b] [] pos) (xZip (xItems ma) (xItems mb)) := by
  obtain ⟨ta, pa, qa⟩ := ha
  obtain ⟨tb, pb, qb⟩ := hb
  refine ⟨iZipG Γ.K (tCons ta (tCons tb tNil)), fun X h => ?_, fun c σ H s r ds s' e Q k => ?_⟩
  · rw [← h.K]
    exact pi_zipG (h.gl hg) (h.mgn hm) (pa_cons (pa X h) (pa_cons (pb X h) pa_nil (hs2 _)) (hs _)) (hs _) (hpl _)
  · unfold xZip at e
    obtain ⟨p1, e1, e⟩ := bind_of e
    obtain ⟨p2, e2, e⟩ := mapNx_of e
    cases e
    obtain ⟨d1, e3, i1⟩ := xItems_of e1
    obtain ⟨d2, e4, i2⟩ := xItems_of e2
    refine qa c σ H s r _ _ e3 _ fun v H1 r1 x1 h1 => ?_
    refine qb c σ H1 _ r1 _ _ e4 _ fun u H2 r2 x2 h2 => ?_
    have kp := keep (c := c) hW x2
    obtain ⟨g1, v1, l1, t1⟩ := items_of (dp_ex kp h1) i1
    obtain ⟨g2, v2, l2, t2⟩ := items_of h2 i2
    refine ⟨v, u, g1, g2, _, _, rfl, v1, v2, l1 _ ex_hide0, l2 _ ex_hide0, k _ H2 r2 (x1.trans x2) fun i c' σ' H' e t => ⟨fun d hi => ?_, fun hi => ?_⟩⟩
    · rw [List.getElem?_map] at hi
      cases e1 : (p1.1.zip p2.1)[i]? with
      | none => rw [e1] at hi; cases hi
      | some d0 =>
        rw [e1] at hi
        cases hi
        obtain ⟨a1, a2⟩ := List.getElem?_zip_eq_some.mp e1
        have b1 := (List.getElem?_eq_some_iff.mp a1).1
        have b2 := (List.getElem?_eq_some_iff.mp a2).1
        refine ⟨⟨_, _, l1 _ (e.trans ex_hide0), l2 _ (e.trans ex_hide0), b1, b2⟩, fun x H'' y => ?_⟩
        obtain ⟨T, x, x2, rfl, hT, rfl, y, y2⟩ := y
        have ex := ex_upd (o := HO.tup [x, x2]) hT
        have z1 := t1 _ i x _ (e.trans ex_hide0) y a1
        have z2 := t2 _ i x2 _ (e.trans ex_hide0) y2 a2
        refine ⟨ex, .tup (.inl (.inl (hide_of (fun z => ?_) upd_same))) (.cons ?_ (.cons ?_ .nil))⟩
        · obtain ⟨o, z⟩ := t T z
          rw [hT] at z; cases z
        · exact dp_ex (e.trans (ex_hide ex)) z1
        · exact dp_ex (e.trans (ex_hide ex)) z2
    · rw [List.length_map, List.length_zip] at hi
      exact ⟨_, _, l1 _ (e.trans ex_hide0), l2 _ (e.trans ex_hide0), by omega, by omega, by omega⟩
end
end Z


namespace Z
open PySem PySem.Spec PyProof.Rows L2
/-! ## enumerate over a list or a text -/
def IteG (K : PySem.W.Frag) (g : Gs) : It :=
  ⟨fun i H => ∃ n, GLen K H n g ∧ i < n, fun i H v H' => ∃ T x, v = .ref T ∧ H T = none ∧ H' = upd H T (.tup [.int (i : Nat), x]) ∧ GIt K H i x g, fun i H => GLen K H i g⟩
theorem turn_enumG {P : Program} {w : World} {K : PySem.W.Frag} {elts : List Expr} {kk : Nat} {tpos : Pos} {g : Gs} {e it : Addr} (hne : e ≠ it) (ha : ∀ a, g.at_ = some a → a ≠ e ∧ a ≠ it) :
    Turn P w K (.Tuple elts kk tpos) (IteG K g) [e, it] e (fun i h => (∃ old, IsEnum h e it ((i : Nat) : Int) old) ∧ GSt it i h g) where
  mem := by simp
  obj := fun i h st b hb => by
    obtain ⟨⟨old, he⟩, hi⟩ := st
    have e' : b = e ∨ b = it := by simpa using hb
    rcases e' with z | z
    · rw [z]; exact ⟨_, he, fun v q => nomatch q⟩
    · rw [z]; exact hi.obj
  keep := fun i h h' st k => let ⟨⟨old, he⟩, hi⟩ := st; ⟨⟨old, k e (by simp) _ he⟩, hi.keep fun o q => k it (by simp) o q⟩
  item := by
    intro X hP hw hK hc i pins s σ H E I hf st hg
    subst hP hw hK
    obtain ⟨⟨old, he⟩, hit⟩ := st
    obtain ⟨n, l1, lt⟩ := hg
    obtain ⟨fp, P1, St1, D1, t1, k1, p1, m1, f1⟩ := draws_of I (I.ok.hd hc) l1 hit fun a q => (ha a q).2
    have hel : e < s.heap.objs.size := Heap.lt_size he
    have hil : it < s.heap.objs.size := by obtain ⟨_, q, _⟩ := hit.obj; exact Heap.lt_size q
    have hef : e ∉ fp := fun h => (f1 e h).elim hne fun q => (ha e q).1 rfl
    refine wpAny_pyNext_enum_itemD D1 he t1 lt hne hef fun u h' tk y ho st' hT hsz hk => ?_
    obtain ⟨x, ru, gx⟩ := p1 u y
    refine ⟨_, rfl, wpAny_letOwnedTupleGo_enum (s := { s with heap := h', toks := tk + 1 }) ho fun h'' he' sb => ?_⟩
    have hT2 : h''.get? s.heap.objs.size = some { cls := .type "tuple", data := .seq #[.int i tk, u] } := (sb.2 _ (Nat.ne_of_gt hel)).trans hT
    have new : ObjOk X.prog X.w (upd H s.heap.objs.size (.tup [.int (i : Nat), x])) h'' s.heap.objs.size (.tup [.int (i : Nat), x]) :=
      ⟨by show 2 ≤ sizeLine; decide, [.int i tk, u], .cons ⟨_, rfl⟩ (.cons ru .nil), ⟨_, hT2, rfl, _, rfl⟩⟩
    have I1 : L2.Inv X pins σ (upd H s.heap.objs.size (.tup [.int (i : Nat), x])) { s with heap := h'', toks := tk + 1 } :=
      I.turnedNew (ch := [e, it]) (fun b ob hb q => (sb.2 b (fun z => hb (by simp [z]))).trans (hk b ob (fun z => hb (by simp [z])) (fun z => hb (by simp [z])) q)) hf (Nat.le_refl _) new
    refine ⟨.ref s.heap.objs.size, _, I1, rfl, ⟨_, x, rfl, I.hok.fresh (Nat.le_refl _), rfl, gx⟩, ⟨⟨u, ?_⟩, (k1 _ _ st').keep fun o q => (sb.2 it (Ne.symm hne)).trans q⟩, fun b hb => ?_⟩
    · have e1 : ((i + 1 : Nat) : Int) = (i : Int) + 1 := by omega
      rw [e1]; exact he'
    · have hb' : b < s.heap.objs.size := by
        have e' : b = e ∨ b = it := by simpa using hb
        rcases e' with z | z
        · rw [z]; exact hel
        · rw [z]; exact hil
      rw [upd_ne (Nat.ne_of_lt hb')]
      exact (hf b hb).1
  done := by
    intro X hP hw hK hc i pins s σ H E I hf st hg
    subst hP hw hK
    obtain ⟨⟨old, he⟩, hit⟩ := st
    obtain ⟨fp, P1, St1, D1, t1, k1, p1, m1, f1⟩ := draws_of I (I.ok.hd hc) hg hit fun a q => (ha a q).2
    obtain ⟨f0, f1, f2, f3, f4, f5⟩ := hf it (by simp)
    exact wpAny_pyNext_enum_endD D1 he t1 fun h' eb => ⟨rfl, I.turned (t' := s.toks) (fun b o hb q => eb b o hb q) f0 f1 f3 f4 f5⟩
  self := fun A i s Q E st h => let ⟨⟨_, he⟩, _⟩ := st; wpAny_pyIter_enum he h
def iEnumG (K : PySem.W.Frag) (ta : TA) : TI := fun σ H R => ta σ H fun vs H1 => ∃ x g n, vs = [x] ∧ GVal x g ∧ GLen K H1 n g ∧ (∀ a, g ≠ .tup a) ∧ R (IteG K g) H1
theorem pi_enumG {X : Cx} {e : Expr} {ta : TA} {p pos tpos : Pos} {elts : List Expr} {kk : Nat} (hg : Gl X "enumerate") (hm : X.mg "enumerate" = none) (ha : PA X [e] ta) (hs : starEach [e] X.env = [(false, eval e X.env)] := by rfl) :
    PI X (.Tuple elts kk tpos) (.Call (.Name "enumerate" p) [e] [] pos) (iEnumG X.K ta) := by
  refine ⟨fun pins s σ H R I h => ?_⟩
  refine Call_ (ld_blt I hg hm boot_enumerate (PyProof.Rows.callWith_type1 (thn (ha.run pos pins s σ H _ I h) fun us s1 ⟨vs, H1, I1, r1, q1⟩ => ?_) hs rfl))
  obtain ⟨x, g, n, ex, v, l, nt, q⟩ := q1
  subst ex
  cases r1 with
  | cons r rr =>
    cases rr
    have go : ∀ (h' : Heap), (∀ a, g.at_ = some a → a < s1.heap.objs.size) → IsEnum h' (s1.heap.objs.size + 1) s1.heap.objs.size 0 .none → GSt s1.heap.objs.size 0 h' g → (∀ b o, s1.heap.get? b = some o → h'.get? b = some o) →
        wpAny (model X.prog X.w) X.A (pyIter (.ref (s1.heap.objs.size + 1))) (PIE X pins σ (.Tuple elts kk tpos) R) X.xe { s1 with heap := h' } := fun h' hlt he hit hk => by
      refine wpAny_pyIter_enum he ?_
      have I2 : L2.Inv X pins σ H1 { s1 with heap := h' } := I1.kept (t' := s1.toks) hk
      refine ⟨s1.heap.objs.size + 1, [s1.heap.objs.size + 1, s1.heap.objs.size], _, _, H1, rfl, I2, turn_enumG (Nat.succ_ne_self _) fun a e => ⟨Nat.ne_of_lt (Nat.lt_succ_of_lt (hlt a e)), Nat.ne_of_lt (hlt a e)⟩, ⟨⟨.none, he⟩, hit⟩, fun b hb => ?_, q⟩
      have e' : b = s1.heap.objs.size + 1 ∨ b = s1.heap.objs.size := by simpa using hb
      have hle : s1.heap.objs.size ≤ b := by
        rcases e' with z | z
        · rw [z]; exact Nat.le_add_right _ _
        · rw [z]; exact Nat.le_refl _
      exact I1.fpOk hle (I1.hok.fresh hle)
    cases g with
    | lst a =>
      cases v
      cases r
      obtain ⟨xs, hx, _⟩ := l
      obtain ⟨its, rv, p', hz⟩ := I1.list hx
      exact call_enumerate_list p'.isList fun h' he hit hsz hk => go h' (fun b e => by cases e; exact p'.lt) he hit hk
    | tup a => exact absurd rfl (nt a)
    | txt z =>
      cases v
      obtain ⟨t, rfl⟩ := r
      exact call_enumerate_str fun h' he hit hsz hk => go h' (fun b e => by cases e) he ⟨t, hit⟩ hk
/-- the items of a list, the signs of a text -/
def itemsLS : D → Option (List D)
  | .list ds => some ds
  | .str z => some (z.cps.toList.map fun k => .str ⟨#[k]⟩)
  | _ => none
theorem itemsLS_D {d : D} {ds : List D} (h : itemsLS d = some ds) : itemsD d = some ds := by
  cases d <;> first | exact h | cases h
def xItemsLS (m : ME) : MF := fun s => (m s).bind fun p => (itemsLS p.1).map fun ds => (ds, p.2)
theorem items_ofLS {K : PySem.W.Frag} {H : Hp} {v : V} {d : D} {ds : List D} (h : Rp K H v d) (e : itemsLS d = some ds) : ∃ g, GVal v g ∧ (∀ a, g ≠ .tup a) ∧ (∀ H', Ex H H' → GLen K H' ds.length g) ∧ ∀ H' i x d', Ex H H' → GIt K H' i x g → ds[i]? = some d' → Rp K H x d' := by
  cases h with
  | lst h a =>
    cases e
    refine ⟨.lst _, rfl, (fun a z => by cases z), fun H' x => ⟨_, sql_ex x h, dpa_len a⟩, fun H' i x d' ex g e => ?_⟩
    obtain ⟨v, h1, h2⟩ := dpa_get a e
    have := g _ (sql_ex ex h)
    rw [h1] at this
    cases this
    exact h2
  | str z =>
    cases e
    refine ⟨.txt z, rfl, (fun a q => by cases q), fun H' x => (by show z.cps.size = _; simp), fun H' i x d' ex g e => ?_⟩
    obtain ⟨c, hc, rfl⟩ := g
    rw [List.getElem?_map] at e
    have : z.cps.toList[i]? = some c := by simpa using hc
    rw [this] at e
    cases e
    exact .str _
  | tup h a => cases e
  | non => cases e
  | bl b => cases e
  | int i => cases e
section
variable {Γ : G} {O W : List Nat} {elts : List Expr} {kk : Nat} {p pos tpos : Pos} {a : Expr} {ma : ME}
theorem ti_enumG (hg : Γ.sc.names.lookup ("enumerate" : Str) = some .globalImplicit) (hm : Γ.mg "enumerate" = none) (ha : TrE Γ O O W a ma) (hs : ∀ env : Env, starEach [a] env = [(false, eval a env)] := by intro _; rfl) :
    TrI Γ O W (.Tuple elts kk tpos) (.Call (.Name "enumerate" p) [a] [] pos) (xEnum (xItemsLS ma)) := by
  obtain ⟨ta, pa, qa⟩ := ha
  refine ⟨iEnumG Γ.K (tCons ta tNil), fun X h => ?_, fun c σ H s r ds s' e Q k => ?_⟩
  · rw [← h.K]
    exact pi_enumG (h.gl hg) (h.mgn hm) (pa_cons (pa X h) pa_nil (hs _)) (hs _)
  · unfold xEnum at e
    obtain ⟨p1, e1, e⟩ := mapNx_of e
    cases e
    unfold xItemsLS at e1
    obtain ⟨q1, e2, e3⟩ := bind_of e1
    obtain ⟨es, e4, e5⟩ := mapNx_of e3
    cases e5
    refine qa c σ H s r _ _ e2 _ fun v H1 r1 x1 h1 => ?_
    obtain ⟨g, v1, nt, l1, t1⟩ := items_ofLS h1 e4
    refine ⟨v, g, _, rfl, v1, l1 _ ex_hide0, nt, k _ H1 r1 x1 fun i c' σ' H' e t => ⟨fun d hi => ?_, fun hi => ?_⟩⟩
    · rw [List.getElem?_mapIdx] at hi
      cases e1 : es[i]? with
      | none => rw [e1] at hi; cases hi
      | some d0 =>
        rw [e1] at hi
        cases hi
        have b1 := (List.getElem?_eq_some_iff.mp e1).1
        refine ⟨⟨_, l1 _ (e.trans ex_hide0), b1⟩, fun x H'' y => ?_⟩
        obtain ⟨T, x, rfl, hT, rfl, y⟩ := y
        have ex := ex_upd (o := HO.tup [.int (i : Nat), x]) hT
        have z1 := t1 _ i x _ (e.trans ex_hide0) y e1
        refine ⟨ex, .tup (.inl (.inl (hide_of (fun z => ?_) upd_same))) (.cons (.int _) (.cons (dp_ex (e.trans (ex_hide ex)) z1) .nil))⟩
        obtain ⟨o, z⟩ := t T z
        rw [hT] at z; cases z
    · rw [List.length_mapIdx] at hi
      rw [hi]
      exact l1 _ (e.trans ex_hide0)
end
/-! ## list of a text -/
def signsV (z : Str) : List V := z.cps.toList.map fun k => .str ⟨#[k]⟩
def signsD (z : Str) : List D := z.cps.toList.map fun k => .str ⟨#[k]⟩
def rListS : List V → Hp → VK → Prop := fun xs H Q => ∃ z : Str, xs = [.str z] ∧ z.cps.size ≤ sizeLine ∧ ∀ p, H p = none → Q (.ref p) (upd H p (.lst (signsV z)))
theorem vals_signs {z : Str} : ∀ (l : List Nat) (its : List Value) (i : Nat), z.cps.toList.drop i = l → its.length = l.length → (∀ j v, its[j]? = some v → ∃ c u, z.cps[i + j]? = some c ∧ v = .str ⟨#[c]⟩ u) → Vals (l.map fun k => V.str ⟨#[k]⟩) its
  | [], its, i, _, hl, _ => by
    cases its with
    | nil => exact .nil
    | cons => cases hl
  | k :: l, [], i, _, hl, _ => by cases hl
  | k :: l, v :: its, i, hd, hl, h => by
    have hk : z.cps[i]? = some k := by
      have : (z.cps.toList.drop i)[0]? = some k := by rw [hd]; rfl
      rw [List.getElem?_drop] at this
      simpa using this
    obtain ⟨c, u, hc, rfl⟩ := h 0 v rfl
    rw [Nat.add_zero, hk] at hc
    cases hc
    refine .cons ⟨u, rfl⟩ (vals_signs (z := z) l its (i + 1) ?_ (by simpa using hl) fun j w e => ?_)
    · rw [← List.drop_drop, hd]; rfl
    · obtain ⟨c, u, hc, e'⟩ := h (j + 1) w (by simpa using e)
      exact ⟨c, u, by rw [← hc]; congr 1; omega, e'⟩
theorem call_listS {X : Cx} (hc : X.calm = true) : CallR X (.type "list") rListS := by
  intro pins s σ H xs us Q I r h
  obtain ⟨z, rfl, hz, q⟩ := h
  cases r with
  | cons r rr =>
    cases rr
    obtain ⟨t, rfl⟩ := r
    have hf := I.hok.fresh (Nat.le_refl s.heap.objs.size)
    refine call_list_str (I.ok.hd hc) z t (fun h' tk acc' c' hk hS hacc => ?_) hz
    have hv : Vals (signsV z) acc'.toList := vals_signs z.cps.toList acc'.toList 0 rfl (by rw [Array.length_toList, hacc.1, Array.length_toList]) fun j v e => by
      obtain ⟨c, u, e1, e2⟩ := hacc.2 j v (by simpa using e)
      exact ⟨c, u, by rw [Nat.zero_add]; exact e1, e2⟩
    have I2 := I.laid (a := s.heap.objs.size) (o := .lst (signsV z)) (h' := h') (t' := tk) hk (Nat.le_refl _) ⟨by unfold signsV; rw [List.length_map, Array.length_toList]; exact hz, acc'.toList, c', hv, by rw [Array.toArray_toList]; exact hS⟩
    exact ⟨.ref s.heap.objs.size, _, I2, rfl, q _ hf⟩
theorem dpa_signs {K : PySem.W.Frag} {H : Hp} (z : Str) : RpAll K H (signsV z) (signsD z) := by
  unfold signsV signsD
  induction z.cps.toList with
  | nil => exact .nil
  | cons k l ih => exact .cons (.str _) ih
def xLstS (m : ME) : MF := fun s => (m s).bind fun p => match p.1 with
  | .str z => if z.length ≤ 1000000 then some (signsD z, p.2) else none
  | _ => none
section
variable {Γ : G} {O L L0 W : List Nat} {a : Expr} {ma : ME} {p pos : Pos}
theorem tf_listS (hg : Γ.sc.names.lookup ("list" : Str) = some .globalImplicit) (hm : Γ.mg "list" = none) (ha : TrE Γ O L0 W a ma) (hW : ∀ j ∈ W, j ∈ O) (hst : ∀ env : Env, starEach [a] env = (false, eval a env) :: starEach [] env := by intro _; rfl) (hcm : Γ.calm = true := by rfl) : TrF Γ O L W (.Call (.Name "list" p) [a] [] pos) (xLstS ma) := by
  obtain ⟨ta, pa, qa⟩ := ha
  refine ⟨tCB rListS (tCons ta tNil), fun X h => pe_callTy (call_listS (h.cm hcm)) (h.gl hg) (h.mgn hm) (by decide +kernel) (pa_cons (pa X h) pa_nil (hst _)) (by decide) (by decide) (hst _), fun c σ H s r ds s' e Q k => ?_⟩
  unfold xLstS at e
  obtain ⟨q1, e1, e2⟩ := bind_of e
  obtain ⟨d, s1⟩ := q1
  cases d <;> first | (cases e2; done) | skip
  rename_i z
  simp only at e2
  split at e2
  · rename_i hz
    cases e2
    refine qa c σ H s r _ _ e1 _ fun v H1 r1 x1 d1 => ?_
    cases d1
    exact ⟨z, rfl, sz1M hz, simF_new r1 x1 (fresh_of r1 hW x1) (dpa_signs z) k⟩
  · cases e2
end
theorem KDg.m {K : PySem.W.Frag} {w : World} {a : Addr} {f : Str → Option D} (h : KDg K w a f) : KDm K w a f := fun z d e => by
  rcases h.2 z with ⟨d', v, e1, ⟨es, n, r, D, e2, hr⟩, h2⟩ | ⟨e1, _⟩
  · rw [e] at e1
    cases e1
    rcases hr with ⟨q, _⟩ | ⟨v', u, q1, q2, r1⟩
    · cases q
    · cases q1
      subst q2
      exact ⟨v, ⟨es, n, u, D.at_, D.lit, e2, r1⟩, h2⟩
  · rw [e] at e1; cases e1
theorem tabW {fa : List He.Fa} {fn : List He.DefD} {ts : List He.Tab} {w : World} {K : PySem.W.Frag} (c : He.SaysT fa fn ts w K) (i : Nat) {t : He.Tab} (h : ts[i]? = some t := by rfl) : He.dicW K (t.1 K) = some (He.keysIn w.params t.2) := by
  have e : ts.map (fun t => He.dicW K (t.1 K)) = ts.map fun t => some (He.keysIn w.params t.2) := congrArg (fun z : He.AlT => z.2) c
  have e2 : (ts.map fun t => He.dicW K (t.1 K))[i]? = (ts.map fun t => some (He.keysIn w.params t.2))[i]? := by rw [e]
  rw [List.getElem?_map, List.getElem?_map, h] at e2
  exact Option.some.inj e2
end Z


namespace Z
open PySem PySem.Spec PyProof.Rows L2
/-! simp rows that run the mirrors of Z13, Z18 .. Z21 -/
@[simp] theorem dBit_ii (f : Int → Int → Int) (a b : Int) : dBit f (.int a) (.int b) = some (.int (f a b)) := rfl
theorem dShl_ii {a b : Int} (h : 0 ≤ b) (h2 : b ≤ 1000000) (h3 : a.natAbs < 2 ^ 64) : dShl (.int a) (.int b) = some (.int (a * 2 ^ b.toNat)) := if_pos ⟨h, h2, h3⟩
@[simp] theorem dShl_1 (b : Nat) (h2 : b ≤ 1000000) : dShl (.int 1) (.int (b : Int)) = some (.int ((2 ^ b : Nat) : Int)) := by
  rw [dShl_ii (by omega) (by omega) (by decide), Int.one_mul, Int.toNat_natCast, Int.natCast_pow]; rfl
theorem dShr_ii {a b : Int} (h : 0 ≤ b) : dShr (.int a) (.int b) = some (.int (a / 2 ^ b.toNat)) := if_pos h
@[simp] theorem dShr_nn (a b : Nat) : dShr (.int (a : Int)) (.int (b : Int)) = some (.int ((a / 2 ^ b : Nat) : Int)) := by
  rw [dShr_ii (by omega), Int.toNat_natCast, Int.natCast_ediv, Int.natCast_pow]; rfl
section
variable {s : MS} {xs : List D}
def repK (xs : List D) (n : Int) (s : MS) : Option (List D × MS) := if -1000000 ≤ n ∧ n ≤ 1000000 ∧ xs.length * n.toNat ≤ 1000000 then some ((List.replicate n.toNat xs).flatten, s) else none
def kRep1 (k : ME) : List D → MS → Option (List D × MS) := fun xs s => (k s).bind fun q => match q.1 with
  | .int n => repK xs n q.2
  | _ => none
def kRep2 (xs : List D) : D → MS → Option (List D × MS) := fun x s => match x with
  | .int n => repK xs n s
  | _ => none
@[simp] theorem xRep_ap (m : MF) (k : ME) : xRep m k s = bE (m s) (kRep1 k) := rfl
@[simp] theorem kRep1_ap (k : ME) : kRep1 k xs s = bE (k s) (kRep2 xs) := rfl
@[simp] theorem kRep2_ap (n : Int) : kRep2 xs (.int n) s = repK xs n s := rfl
theorem rep1 {x : D} {n : Nat} (h : n ≤ 1000000) : repK [x] (n : Int) s = some (List.replicate n x, s) := by
  unfold repK
  rw [if_pos ⟨by omega, by omega, by simp; omega⟩, Int.toNat_natCast]
  congr 2
  induction n with
  | zero => rfl
  | succ n ih => rw [List.replicate_succ, List.flatten_cons, ih (by omega)]; rfl
def kItems : D → MS → Option (List D × MS) := fun x s => ret1 (itemsD x) s
@[simp] theorem xItems_ap (m : ME) : xItems m s = bE (m s) kItems := rfl
@[simp] theorem kItems_ap (x : D) : kItems x s = ret1 (itemsD x) s := rfl
@[simp] theorem itemsD_l : itemsD (.list xs) = some xs := rfl
@[simp] theorem itemsD_t : itemsD (.tuple xs) = some xs := rfl
@[simp] theorem itemsD_s (z : Str) : itemsD (.str z) = some (signsD z) := rfl
def kItemsLS : D → MS → Option (List D × MS) := fun x s => ret1 (itemsLS x) s
@[simp] theorem xItemsLS_ap (m : ME) : xItemsLS m s = bE (m s) kItemsLS := rfl
@[simp] theorem kItemsLS_ap (x : D) : kItemsLS x s = ret1 (itemsLS x) s := rfl
@[simp] theorem itemsLS_l : itemsLS (.list xs) = some xs := rfl
@[simp] theorem itemsLS_s (z : Str) : itemsLS (.str z) = some (signsD z) := rfl
def kLstS : D → MS → Option (List D × MS) := fun x s => match x with
  | .str z => if z.length ≤ 1000000 then some (signsD z, s) else none
  | _ => none
@[simp] theorem xLstS_ap (m : ME) : xLstS m s = bE (m s) kLstS := rfl
@[simp] theorem kLstS_ap (z : Str) : kLstS (.str z) s = if z.length ≤ 1000000 then some (signsD z, s) else none := rfl
def kKG1 (f : Str → Option D) (d : ME) : D → MS → Option (D × MS) := fun x s => (d s).bind fun q => match x with
  | .str z => some ((f z).getD q.1, q.2)
  | _ => none
def kKG2 (f : Str → Option D) (z : Str) : D → MS → Option (D × MS) := fun y s => some ((f z).getD y, s)
@[simp] theorem xKGet_ap (f : Str → Option D) (e d : ME) : xKGet f e d s = bE (e s) (kKG1 f d) := rfl
@[simp] theorem kKG1_ap (f : Str → Option D) (d : ME) (z : Str) : kKG1 f d (.str z) s = bE (d s) (kKG2 f z) := rfl
@[simp] theorem kKG2_ap (f : Str → Option D) (z : Str) (y : D) : kKG2 f z y s = some ((f z).getD y, s) := rfl
def kCh1 (f g : D → D → Option D) (b c : ME) : D → MS → Option (D × MS) := fun x s => (b s).bind fun q => (f x q.1).bind fun z => match z with
  | .bool true => (c q.2).bind fun w => (g q.1 w.1).map fun u => (u, w.2)
  | .bool false => some (.bool false, q.2)
  | _ => none
def kCh2 (f g : D → D → Option D) (c : ME) (x : D) : D → MS → Option (D × MS) := fun y s => (f x y).bind fun z => match z with
  | .bool true => (c s).bind fun w => (g y w.1).map fun u => (u, w.2)
  | .bool false => some (.bool false, s)
  | _ => none
@[simp] theorem xChain_ap (f g : D → D → Option D) (a b c : ME) : xChain f g a b c s = bE (a s) (kCh1 f g b c) := rfl
@[simp] theorem kCh1_ap (f g : D → D → Option D) (b c : ME) (x : D) : kCh1 f g b c x s = bE (b s) (kCh2 f g c x) := rfl
def kCh3 (g : D → D → Option D) (c : ME) (y : D) (p : Bool) (s : MS) : Option (D × MS) := if p = true then bE (c s) (kOp2 g y) else some (.bool false, s)
@[simp] theorem kCh3_t (g : D → D → Option D) (c : ME) (y : D) : kCh3 g c y true s = bE (c s) (kOp2 g y) := rfl
@[simp] theorem kCh3_f (g : D → D → Option D) (c : ME) (y : D) : kCh3 g c y false s = some (.bool false, s) := rfl
def bB (o : Option D) (k : Bool → Option (D × MS)) : Option (D × MS) := match o with
  | some (.bool p) => k p
  | _ => none
@[simp] theorem bB_some (p : Bool) (k : Bool → Option (D × MS)) : bB (some (.bool p)) k = k p := by
  unfold bB; simp only
@[simp] theorem kCh2_ap (f g : D → D → Option D) (c : ME) (x y : D) : kCh2 f g c x y s = bB (f x y) fun p => kCh3 g c y p s := by
  unfold kCh2 bB kCh3
  cases h : f x y with
  | none => rfl
  | some z =>
    cases z <;> try rfl
    rename_i p
    cases p <;> rfl
@[simp] theorem dIsi_ap (T : String) (x : D) : dIsi T x = (kitB (tyD x) T).map .bool := rfl
/-! loops over a list that is written out: simp [forL_n, forL_c] -/
section
variable (b : D → MS → Option MS) (m : MM) (d : D) (ds : List D) (s : MS)
def bM (o : Option MS) (k : MM) : Option Out := o.bind k
@[simp] theorem bM_some : bM (some s) m = m s := by
  unfold bM; rw [Option.bind_some]
def lp (o : Option Out) : Option Out := o.bind fun o => match o with
  | .nx s2 => forL b m ds s2
  | .ct s2 => forL b m ds s2
  | .bk s2 => some (.nx s2)
  | .rt d s2 => some (.rt d s2)
  | .ex x s2 => some (.ex x s2)
theorem forL_n : forL b m [] s = some (.nx s) := rfl
theorem forL_c : forL b m (d :: ds) s = lp b m ds (bM (b d s) m) := by
  show (b d s).bind _ = _
  unfold lp bM
  cases b d s with
  | none => rfl
  | some s1 => rfl
@[simp] theorem lp_nx : lp b m ds (some (.nx s)) = forL b m ds s := by
  unfold lp; rw [Option.bind_some]
@[simp] theorem lp_ct : lp b m ds (some (.ct s)) = forL b m ds s := by
  unfold lp; rw [Option.bind_some]
@[simp] theorem lp_bk : lp b m ds (some (.bk s)) = some (.nx s) := by
  unfold lp; rw [Option.bind_some]
@[simp] theorem lp_ex (x : Exn) : lp b m ds (some (.ex x s)) = some (.ex x s) := by
  unfold lp; rw [Option.bind_some]
@[simp] theorem lp_rt : lp b m ds (some (.rt d s)) = some (.rt d s) := by
  unfold lp; rw [Option.bind_some]
end
@[simp] theorem mNo_ap : mNo s = none := rfl
@[simp] theorem xNo_ap : xNo s = none := rfl
end
end Z


namespace Z
open PySem PySem.Spec PyProof.Rows L2
section
variable {α : Type} {vs : List Nat} {b : D → MS → Option MS} {t : MT} {e : ME} {m : MM}
/-- a comprehension that takes all, told by what is done, what is found and the state -/
theorem lc_each (enc : α → D) (Inv : List α → List D → MS → Prop) : ∀ (xs done : List α) (acc : List D) (s : MS), Inv done acc s → (∀ d x r, done ++ xs = d ++ x :: r → ∀ acc s, Inv d acc s → ∃ s1 s2 y s3, b (enc x) s = some s1 ∧ t s1 = some (true, s2) ∧ e s2 = some (y, s3) ∧ Inv (d ++ [x]) (acc ++ [y]) (wipeM s3 vs)) →
    ∃ ys s', lcL vs b t e (xs.map enc) s = some (ys, s') ∧ Inv (done ++ xs) (acc ++ ys) s'
  | [], done, acc, s, h, _ => ⟨[], s, rfl, by rw [List.append_nil, List.append_nil]; exact h⟩
  | x :: r, done, acc, s, h, hs => by
    obtain ⟨s1, s2, y, s3, h1, h2, h3, h4⟩ := hs done x r rfl acc s h
    obtain ⟨ys, s', e1, e2⟩ := lc_each enc Inv r (done ++ [x]) (acc ++ [y]) _ h4 fun d z q w => hs d z q (by rw [← w, List.append_assoc]; rfl)
    refine ⟨y :: ys, s', ?_, by rw [List.append_assoc, List.append_assoc] at e2; exact e2⟩
    rw [List.map_cons, lcL, h1]
    simp only [Option.bind_some]
    rw [h2]
    simp only [Option.bind_some]
    rw [h3]
    simp only [if_true, Option.bind_some]
    rw [e1]
    rfl
theorem kLc_each (enc : α → D) (Inv : List α → List D → MS → Prop) {s : MS} {xs : List α} (hl : xs.length ≤ 1000000) (h0 : Inv [] [] (wipeM s vs)) (h : ∀ d x r, xs = d ++ x :: r → ∀ acc s, Inv d acc s → ∃ s1 s2 y s3, b (enc x) s = some s1 ∧ t s1 = some (true, s2) ∧ e s2 = some (y, s3) ∧ Inv (d ++ [x]) (acc ++ [y]) (wipeM s3 vs)) :
    ∃ ys s', kLc vs b t e (xs.map enc) s = some (ys, unwipe s s' vs) ∧ Inv xs ys s' := by
  obtain ⟨ys, s', h1, h2⟩ := lc_each enc Inv xs [] [] _ h0 h
  refine ⟨ys, s', ?_, h2⟩
  unfold kLc
  rw [if_pos (by rw [List.length_map]; exact hl), h1]
  rfl
end
@[simp] theorem dInt_b (b : Bool) : dInt [.bool b] = some (.int (if b then 1 else 0)) := rfl
end Z


namespace Z
open PySem PySem.Spec PyProof.Rows L2
/-! ## defs that may let an exception out -/
def spX (K : PySem.W.Frag) (f : List D → Option (D ⊕ Exn)) : Sp := fun vs H Q E => ∃ (C : Addr → Prop) (ds : List D) (r : D ⊕ Exn), (∀ p, C p → ∃ o, H p = some o) ∧ RpAll K (hide C H) vs ds ∧ f ds = some r ∧
  (∀ d, r = .inl d → ∀ v H', Ex H H' → Rp K (hide C H') v d → Q v H') ∧ (∀ x, r = .inr x → ∀ cls d H', Ex H H' → RX K (hide C H') cls d x → E cls d H')
def outX : Out → Option (D ⊕ Exn)
  | .rt d _ => some (.inl d)
  | .nx _ => some (.inl .none)
  | .ex x _ => some (.inr x)
  | _ => none
def fnX (a n : Nat) (m : MM) : List D → Option (D ⊕ Exn) := fun ds => if ds.length = a then (m (startM n ds)).bind outX else none
section
variable {P : Program} {w : World} {K : PySem.W.Frag} {mg : Str → Option Value} {base : Heap} {x qual : Str} {st : Stmt} {f : Addr} {fd : FuncData} {N ps : List Str} {k a n : Nat} {m : MM}
theorem fn_X (F : FnP K x qual st f fd) (S : FnScope N ps (defScope st)) (ha : ps.length = a) (hn : N.length = n) (h : ∀ A, Room k A → TrSs (G0 P w K mg base A N (defScope st)) [] false [] [] [] (defBody st) m) : FnOk P w K mg base (L2.CX P w) (k + 1) f fd ps (spX K (fnX a n m)) := by
  refine F.ok S (fun vs H Q E hs => ?_) (fun cdv A outer s H vs Q E hr hs => ?_)
  · obtain ⟨C, ds, r, _, hd, e, _⟩ := hs
    unfold fnX at e
    split at e
    · rw [dpa_len hd, ha]; assumption
    · cases e
  · obtain ⟨C, ds, r, hC, hd, e, q, qx⟩ := hs
    unfold fnX at e
    split at e
    · obtain ⟨o, e1, e2⟩ := bind_of e
      obtain ⟨t, pt, st'⟩ := h _ hr
      have hx : (cxOf (L2.CX P w) P w K mg base N qual (defScope st) f cdv A outer s H E).xe = fun e' s' => wpAny (model P w) (A.deeper (envOfC qual (defScope st) s.heap.objs.size f cdv)) (leaving (envOfC qual (defScope st) s.heap.objs.size f cdv) e') (fun _ s'' => L2.CX P w outer H s E e' s'') (fun e'' s'' => L2.CX P w outer H s E e'' s'') s' := rfl
      refine ⟨t fun cls d _ H => E cls d H, pt _ _ (inX0 S.nd) (fun u s' z => ?_), st' ⟨C, [], start N vs⟩ rfl (start N vs) H (startM n ds) (R_start hn hC hd) o e1 _ _ ⟨fun s' σ' H' eo r' fr => ?_, fun s' σ' H' eo r' fr => ?_, fun s' σ' H' eo r' fr => ?_, fun d' s' v H' eo rt => ?_, fun x' s' σ' H' cls d' eo r' fr rx => ?_⟩⟩
      · rw [hx]
        exact XE.leave (X := cxOf (L2.CX P w) P w K mg base N qual (defScope st) f cdv A outer s H E) (W := fun cls d _ H => E cls d H) (E := E) rfl rfl rfl (fun _ _ _ _ h => h) z
      · subst eo
        cases e2
        unfold Fr at fr
        rw [own_nil, own_nil, hide_false, hide_false] at fr
        exact q _ rfl .non H' fr .non
      · subst eo; cases e2
      · subst eo; cases e2
      · subst eo
        cases e2
        have fr := rt.fr
        have hT : (Cn.mk C [] (start N vs)).T = fun _ => False := own_nil
        rw [own_nil, hT, hide_false, hide_false] at fr
        exact q _ rfl v H' fr (dp_ex (ex_hide_sub fun a z => .inl z) rt.val)
      · subst eo
        cases e2
        unfold Fr at fr
        rw [own_nil] at fr
        have e0 : Own (G0 P w K mg base (A.deeper (envOfC qual (defScope st) s.heap.objs.size f cdv)) N (defScope st)).ox σ' = fun _ => False := own_nil
        rw [e0, hide_false, hide_false] at fr
        refine qx _ rfl cls d' H' fr (rx_ex (ex_hide_sub fun a z => .inl z) rx)
    · cases e
/-- what stands of a def of the module that may let an exception out -/
structure FnAtX (P : Program) (w : World) (K : PySem.W.Frag) (mg : Str → Option Value) (base : Heap) (k : Nat) (x : Str) (ps : List Str) (sp : Sp) : Prop where
  ex : ∃ f fd, FnOk P w K mg base (L2.CX P w) k f fd ps sp ∧ mg x = some (.ref f) ∧ PySem.W.keepIn K (.ref f) = true ∧ Binds K fd ps []
theorem fnAtX {sp : Sp} (F : FnP K x qual st f fd) (G : FnOk P w K mg base (L2.CX P w) k f fd ps sp) (hm : mg x = some (.ref f)) (hb : Binds K fd ps []) : FnAtX P w K mg base k x ps sp := ⟨f, fd, G, hm, F.kp, hb⟩
end
theorem passF {X : Cx} : Passes (L2.CX X.prog X.w) X (fun _ _ _ => False) := fun _ _ _ _ _ _ _ ⟨_, _, _, _, _, _, _, _, _, _, _, _, h⟩ => h.elim
theorem pa_nox {X : Cx} {es : List Expr} {t : TA} (h : PA X.nox es t) : PA X es t := ⟨fun pos pins s σ H Q I hw =>
  wpAny_mono (h.run pos pins s σ H Q (I.wish _) hw) (fun _ _ ⟨vs, H', I', r, q⟩ => ⟨vs, H', I'.unwish, r, q⟩) fun _ _ z => False.elim z⟩
def okX (mf : List D → Option (D ⊕ Exn)) : List D → Option D := fun ds => (mf ds).bind fun r => match r with
  | .inl d => some d
  | .inr _ => none
section
variable {Γ : G} {O L L0 W : List Nat} {e : Expr} {es : List Expr} {ms : MF} {x : Str} {p pos : Pos} {k : Nat} {ps : List Str}
theorem InG.fnX {Γ : G} {X : Cx} {f : Addr} {fd : FuncData} (h : InG Γ X) {sp : Sp} (F : FnOk Γ.P Γ.w Γ.K Γ.mg Γ.base (L2.CX Γ.P Γ.w) k f fd ps sp) : FnOk X.prog X.w X.K X.mg X.base (L2.CX X.prog X.w) k f fd ps sp := by
  rw [h.prog, h.w, h.K, h.mg, h.base]; exact F
/-- .. called where it lets none out -/
theorem tr_callX {mf : List D → Option (D ⊕ Exn)} (F : FnAtX Γ.P Γ.w Γ.K Γ.mg Γ.base k x ps (spX Γ.K mf)) (hr : Room k Γ.A) (hg : Γ.sc.names.lookup x = some .globalImplicit) (ha : TrA Γ O L W (e :: es) ms) (hL : ∀ j ∈ L, j ∈ O)
    (hdb : (x == ("__debug__" : Str)) = false := by decide) (he : ∀ env : Env, starEach (e :: es) env = (false, eval e env) :: starEach es env := by intro _; rfl) (hpl : ∀ env : Env, (backTo pos (starEach es env)).any (·.1) = false := by intro _; rfl) :
    TrE Γ O L W (.Call (.Name x p) (e :: es) [] pos) (xFn (okX mf) ms) := by
  obtain ⟨f, fd, F, hm, hk, hb⟩ := F.ex
  obtain ⟨t, pa, sa⟩ := ha
  refine ⟨tCall (spX Γ.K mf) [] (fun _ _ _ => False) t, fun X h => pe_call (h.fnX F) (h.room hr) (h.gl hg) (h.mgn hm) (h.kp hk) (h.bd hb) .nil passF (pa X h) hdb (he X.env) (hpl X.env), fun c σ H s r d s' e Q q => ?_⟩
  obtain ⟨ds, e1, e2⟩ := xFn_of e
  refine sa c σ H s r _ _ e1 _ fun vs H1 r1 x1 d1 => ?_
  unfold okX at e2
  obtain ⟨r0, e3, e4⟩ := bind_of e2
  cases r0 with
  | inr y => cases e4
  | inl d0 =>
    cases e4
    exact ⟨c.msk L σ, ds, .inl d, msk_there r1 hL, by rw [List.append_nil]; exact d1, e3, fun d' ed v H2 x2 d2 => by cases ed; exact q v H2 (r1.ex x2) (x1.trans (ex_hide x2)) d2, fun y ey => by cases ey⟩
/-! ## expressions whose last step may let one out -/
abbrev MC := MS → Option ((D ⊕ Exn) × MS)
def SimC (K : PySem.W.Frag) (O L W : List Nat) (t : (L2.St → XK) → TE) (m : MC) : Prop := ∀ (c : Cn) (σ : L2.St) (H : Hp) (s : MS), R K c O s σ H → ∀ r s', m s = some (r, s') → ∀ (Q : VK) (E : L2.St → XK),
  (∀ d, r = .inl d → ∀ v H', R K c O s' σ H' → Ex (hide (Own W σ) H) (hide (Own W σ) H') → Rp K (hide (c.msk L σ) H') v d → Q v H') →
  (∀ x, r = .inr x → ∀ cls d H', R K c O s' σ H' → Ex (hide (Own W σ) H) (hide (Own W σ) H') → RX K (hide (c.msk L σ) H') cls d x → E σ cls d H') → t E σ H Q
def TrC (Γ : G) (O L W : List Nat) (e : Expr) (m : MC) : Prop := ∃ t, (∀ X V, InX Γ X → Takes X V → PE X e (t (WE V))) ∧ SimC Γ.K O L W t m
def xCall (f : List D → Option (D ⊕ Exn)) (as : MF) : MC := fun s => (as s).bind fun p => (f p.1).map fun z => (z, p.2)
theorem tc_call {mf : List D → Option (D ⊕ Exn)} (F : FnAtX Γ.P Γ.w Γ.K Γ.mg Γ.base k x ps (spX Γ.K mf)) (hr : Room k Γ.A) (hg : Γ.sc.names.lookup x = some .globalImplicit) (ha : TrA Γ O L W (e :: es) ms) (hL : ∀ j ∈ L, j ∈ O)
    (hdb : (x == ("__debug__" : Str)) = false := by decide) (he : ∀ env : Env, starEach (e :: es) env = (false, eval e env) :: starEach es env := by intro _; rfl) (hpl : ∀ env : Env, (backTo pos (starEach es env)).any (·.1) = false := by intro _; rfl) :
    TrC Γ O L W (.Call (.Name x p) (e :: es) [] pos) (xCall mf ms) := by
  obtain ⟨f, fd, F, hm, hk, hb⟩ := F.ex
  obtain ⟨t, pa, sa⟩ := ha
  refine ⟨fun E => tCallS (spX Γ.K mf) E t, fun X V h tk => pe_callS (X := X) (CX := L2.CX X.prog X.w) (h.g.fnX F) (h.g.room hr) (h.g.gl hg) (h.g.mgn hm) (h.g.kp hk) (h.g.bd hb) (fun σ => passAt tk σ) (pa_nox (pa _ h.g)) hdb (he X.env) (hpl X.env), fun c σ H s r r0 s' e Q E q qx => ?_⟩
  · unfold xCall at e
    obtain ⟨⟨ds, s1⟩, e1, e2⟩ := bind_of e
    obtain ⟨r1', e3, e4⟩ := mapNx_of e2
    cases e4
    refine sa c σ H s r _ _ e1 _ fun vs H1 r1 x1 d1 => ?_
    exact ⟨c.msk L σ, ds, _, msk_there r1 hL, d1, e3, fun d' ed v H2 x2 d2 => q d' ed v H2 (r1.ex x2) (x1.trans (ex_hide x2)) d2, fun y ey cls d H2 x2 rx => qx y ey cls d H2 (r1.ex x2) (x1.trans (ex_hide x2)) rx⟩
end
section
variable {Γ : G} {Th : List Nat} {fz : Bool} {O O' Ol L W : List Nat} {e : Expr} {m : MC} {pos : Pos}
def toO (g : D → MS → Option Out) : (D ⊕ Exn) × MS → Option Out := fun p => match p.1 with
  | .inl d => g d p.2
  | .inr x => some (.ex x p.2)
def mSetC (i : Nat) (m : MC) : MM := fun s => (m s).bind (toO fun d s => some (.nx (s.set i (some d))))
def mRetC (m : MC) : MM := fun s => (m s).bind (toO fun d s => some (.rt d s))
def mDropC (m : MC) : MM := fun s => (m s).bind (toO fun _ s => some (.nx s))
def mAsgC (m : MC) (b : D → MS → Option MS) : MM := fun s => (m s).bind (toO fun d s => (b d s).map .nx)
/-- an exception that leaves a statement -/
theorem ex_out {c : Cn} {σ : L2.St} {H H1 : Hp} {s1 : MS} {x : Exn} {cls : Value} {d : Option Addr} {E : Ends} {V : WX} (hc : c.Th = Th) (hx : ∀ j ∈ Γ.ox, j ∈ O) (hxT : ∀ j ∈ Th, j ∈ Γ.ox) (hW : ∀ j ∈ W, j ∈ O) (hL : ∀ j ∈ Γ.ox, j ∈ L)
    (w : Ways Γ.K fz c O O' Ol Γ.ox σ H (.ex x s1) E V) (r1 : R Γ.K c O s1 σ H1) (x1 : Ex (hide (Own W σ) H) (hide (Own W σ) H1)) (rx : RX Γ.K (hide (c.msk L σ) H1) cls d x) : V cls d σ H1 := by
  obtain ⟨r2, x2⟩ := r1.free hx (by rw [hc]; exact hxT)
  exact w.ex x s1 σ H1 cls d rfl r2 ((Fr.of_ex hW x1).trans x2) (rx_ex (ex_hide_sub (msk_sub hL)) rx)
theorem ss_setC {i : Nat} {x : Str} {p2 : Pos} (hN : Γ.N[i]? = some x) (hv : locB Γ x = true) (he : TrC Γ O O W e m) (ht : i ∉ Th) (hO : ∀ j ∈ O', j ∈ O.filter (· ≠ i)) (hT : ∀ j ∈ Th, j ∈ O') (hW : ∀ j ∈ W, j ∈ O) (hx : ∀ j ∈ Γ.ox, j ∈ O) (hxT : ∀ j ∈ Th, j ∈ Γ.ox) (hs : swapsWith e (some (.Name x p2)) pos.line (envS Γ.sc) = pure false := by rfl) :
    TrS Γ Th fz O O' Ol (.Assign [.Name x p2] e pos) (mSetC i m) := by
  obtain ⟨t, p, q⟩ := he
  refine ⟨fun V => tAsg (t (WE V)) (gName i), fun X V h k => ps_set h.g.ndX (h.g.nx hN) (h.g.loc hv).1 (p X V h k) ((swaps_sc (h.g.sc.trans rfl)).trans hs) (h.g.loc hv).2, fun c hc σ H s r o e E V w => ?_⟩
  unfold mSetC at e
  obtain ⟨⟨r0, s1⟩, e1, e2⟩ := bind_of e
  refine q c σ H s r _ _ e1 _ _ (fun d ed v H1 r1 x1 d1 => ?_) fun y ey cls d H1 r1 x1 rx => ?_
  · subst ed
    cases e2
    obtain ⟨r2, x2⟩ := setR r1 d1 (by rw [hc]; exact ht) hO (by rw [hc]; exact hT)
    exact w.nx _ _ H1 rfl r2 ((Fr.of_ex hW x1).trans x2)
  · subst ey
    cases e2
    exact ex_out hc hx hxT hW hx w r1 x1 rx
theorem ss_dropC (he : TrC Γ O L W e m) (hW : ∀ j ∈ W, j ∈ O) (hx : ∀ j ∈ Γ.ox, j ∈ O) (hxT : ∀ j ∈ Th, j ∈ Γ.ox) (hL : ∀ j ∈ Γ.ox, j ∈ L) (hs : ∀ env : Env, swapsWith e none pos.line env = pure false := by intro _; rfl) : TrS Γ Th fz O O Ol (.Expr e pos) (mDropC m) := by
  obtain ⟨t, p, q⟩ := he
  refine ⟨fun V => tDrop (t (WE V)), fun X V h k => ps_expr (p X V h k) (hs X.env), fun c hc σ H s r o e E V w => ?_⟩
  unfold mDropC at e
  obtain ⟨⟨r0, s1⟩, e1, e2⟩ := bind_of e
  refine q c σ H s r _ _ e1 _ _ (fun d ed v H1 r1 x1 d1 => ?_) fun y ey cls d H1 r1 x1 rx => ?_
  · subst ed
    cases e2
    exact w.nx _ σ H1 rfl r1 (Fr.of_ex hW x1)
  · subst ey
    cases e2
    exact ex_out hc hx hxT hW hL w r1 x1 rx
theorem ss_retC (he : TrC Γ O Th W e m) (hW : ∀ j ∈ W, j ∈ O) (hx : ∀ j ∈ Γ.ox, j ∈ O) (hxT : ∀ j ∈ Th, j ∈ Γ.ox) (hL : ∀ j ∈ Γ.ox, j ∈ Th) : TrS Γ Th false O O' Ol (.Return (some e) pos) (mRetC m) := by
  obtain ⟨t, p, q⟩ := he
  refine ⟨fun V => tRet (t (WE V)), fun X V h k => ps_ret (p X V h k), fun c hc σ H s r o e E V w => ?_⟩
  unfold mRetC at e
  obtain ⟨⟨r0, s1⟩, e1, e2⟩ := bind_of e
  refine q c σ H s r _ _ e1 _ _ (fun d ed v H1 r1 x1 d1 => ?_) fun y ey cls d H1 r1 x1 rx => ?_
  · subst ed
    cases e2
    rw [← hc, msk_th r1] at d1
    exact w.rt _ _ v H1 rfl ⟨rt_ex r1 hW x1, rt_th r1, d1, fun z => Bool.noConfusion z⟩
  · subst ey
    cases e2
    exact ex_out hc hx hxT hW hL w r1 x1 rx
end
end Z


namespace Z
open PySem PySem.Spec PyProof.Rows L2
/-! ## except suites -/
/-- the context of a suite that handles the exception at a -/
abbrev G.sui (Γ : G) (a : Addr) : G := { Γ with A := Γ.A.mark (some (.ref a)), calm := false, ox := [] }
section
variable {Γ : G} {X : Cx} {a : Addr} {pn : List (Addr × Obj)}
theorem InX.sui (h : InX Γ X) : InG (Γ.sui a) (X.suite a pn) := ⟨h.g.prog, h.g.w, h.g.K, h.g.mg, h.g.base, congrArg (fun A : Around => A.mark (some (.ref a))) h.g.A, h.g.N, h.g.sc, h.g.fnc, h.g.nd, rfl, rfl⟩
theorem InX.suiX (h : InX Γ X) : InX (Γ.sui a) (X.suite a pn) := ⟨h.sui, PassesOwn.never, h.st, h.fr⟩
end
/-- the exception in slot i -/
structure JX (K : PySem.W.Frag) (c : Cn) (O : List Nat) (i : Nat) (a : Addr) (cls : Value) (d : Option Addr) (x : Exn) (σ : L2.St) (H : Hp) : Prop where
  at_ : σ[i]? = some (some (.ref a))
  rx : RX K (hide (c.msk O σ) H) cls d x
theorem JX.ex {K : PySem.W.Frag} {c : Cn} {O W : List Nat} {i : Nat} {a : Addr} {cls : Value} {d : Option Addr} {x : Exn} {σ : L2.St} {H H' : Hp} (j : JX K c O i a cls d x σ H) (hW : ∀ j ∈ W, j ∈ O) (e : Ex (hide (Own W σ) H) (hide (Own W σ) H')) : JX K c O i a cls d x σ H' := ⟨j.at_, rx_ex (keep hW e) j.rx⟩
abbrev Sui (Γ : G) (p : Cx → Addr → Value → Option Addr → Prop) : Prop := ∀ (X : Cx) (a : Addr) (oe : Obj) (cls : Value) (d : Option Addr) (pn : List (Addr × Obj)), InX Γ X → Zc cls d oe → (∃ vs, oe.data = .fields vs) → p (X.suite a ((a, oe) :: pn)) a cls d
def SimXE (K : PySem.W.Frag) (i : Nat) (O L W : List Nat) (t : Addr → Value → Option Addr → TE) (m : Exn → ME) : Prop := ∀ (c : Cn) (σ : L2.St) (H : Hp) (s : MS) (a : Addr) (cls : Value) (d : Option Addr) (x : Exn), R K c O s σ H → JX K c O i a cls d x σ H → ∀ r s', m x s = some (r, s') → ∀ Q : VK,
  (∀ v H', R K c O s' σ H' → Ex (hide (Own W σ) H) (hide (Own W σ) H') → Rp K (hide (c.msk L σ) H') v r → Q v H') → t a cls d σ H Q
def SimXA (K : PySem.W.Frag) (i : Nat) (O L W : List Nat) (t : Addr → Value → Option Addr → TA) (m : Exn → MF) : Prop := ∀ (c : Cn) (σ : L2.St) (H : Hp) (s : MS) (a : Addr) (cls : Value) (d : Option Addr) (x : Exn), R K c O s σ H → JX K c O i a cls d x σ H → ∀ r s', m x s = some (r, s') → ∀ Q : List V → Hp → Prop,
  (∀ v H', R K c O s' σ H' → Ex (hide (Own W σ) H) (hide (Own W σ) H') → RpAll K (hide (c.msk L σ) H') v r → Q v H') → t a cls d σ H Q
def SimXT (K : PySem.W.Frag) (i : Nat) (O W : List Nat) (t : Addr → Value → Option Addr → TT) (m : Exn → MT) : Prop := ∀ (c : Cn) (σ : L2.St) (H : Hp) (s : MS) (a : Addr) (cls : Value) (d : Option Addr) (x : Exn), R K c O s σ H → JX K c O i a cls d x σ H → ∀ r s', m x s = some (r, s') → ∀ Q : Bool → Hp → Prop,
  (∀ H', R K c O s' σ H' → Ex (hide (Own W σ) H) (hide (Own W σ) H') → Q r H') → t a cls d σ H Q
section
variable (Γ : G) (i : Nat) (O L W : List Nat)
def TrXE (e : Expr) (m : Exn → ME) : Prop := ∃ t, Sui Γ (fun X a cls d => PE X e (t a cls d)) ∧ SimXE Γ.K i O L W t m
def TrXA (es : List Expr) (m : Exn → MF) : Prop := ∃ t, Sui Γ (fun X a cls d => PA X es (t a cls d)) ∧ SimXA Γ.K i O L W t m
def TrXT (e : Expr) (m : Exn → MT) : Prop := ∃ t, Sui Γ (fun X a cls d => PT X e (t a cls d)) ∧ SimXT Γ.K i O W t m
def TrXW (e : Expr) (m : Exn → MT) : Prop := ∃ t, Sui Γ (fun X a cls d => PW X e (t a cls d)) ∧ SimXT Γ.K i O W t m
end
section
variable {Γ : G} {i : Nat} {O L L0 W : List Nat} {e e1 e2 : Expr} {es : List Expr} {pos : Pos}
theorem te_lift {m : ME} (h : ∀ a, TrE (Γ.sui a) O L W e m) : TrXE Γ i O L W e (fun _ => m) :=
  ⟨fun a _ _ => (h a).choose, fun X a oe cls d pn hX _ _ => (h a).choose_spec.1 _ hX.sui, fun c σ H s a cls d x r _ r0 s' e1 Q q => (h a).choose_spec.2 c σ H s r r0 s' e1 Q q⟩
theorem tx_lift {m : MT} (h : ∀ a, TrT (Γ.sui a) O W e m) : TrXT Γ i O W e (fun _ => m) :=
  ⟨fun a _ _ => (h a).choose, fun X a oe cls d pn hX _ _ => (h a).choose_spec.1 _ hX.sui, fun c σ H s a cls d x r _ r0 s' e1 Q q => (h a).choose_spec.2 c σ H s r r0 s' e1 Q q⟩
theorem tea_nil : TrXA Γ i O L W [] (fun _ => xaNil) := ⟨fun _ _ _ => tNil, fun _ _ _ _ _ _ _ _ _ => pa_nil, fun c σ H s a cls d x r _ ds s' e Q q => by cases e; exact q [] H r refl_hide .nil⟩
theorem tea_cons {m : Exn → ME} {ms : Exn → MF} (h : TrXE Γ i O L W e m) (hs : TrXA Γ i O L W es ms) (hW : ∀ j ∈ W, j ∈ L) (hL : ∀ j ∈ L, j ∈ O) (hst : ∀ env : Env, starEach (e :: es) env = (false, eval e env) :: starEach es env := by intro _; rfl) : TrXA Γ i O L W (e :: es) (fun x => xaCons (m x) (ms x)) := by
  obtain ⟨t, p, q⟩ := h
  obtain ⟨ts, ps, qs⟩ := hs
  refine ⟨fun a cls d => tCons (t a cls d) (ts a cls d), fun X a oe cls d pn hX hz hf => pa_cons (p X a oe cls d pn hX hz hf) (ps X a oe cls d pn hX hz hf) (hst X.env), fun c σ H s a cls d x r jx ds s' e Q k => ?_⟩
  obtain ⟨d1, s1, es, e1, e2, rfl⟩ := xaCons_of e
  refine q c σ H s a cls d x r jx _ _ e1 _ fun v H1 r1 x1 d1 => ?_
  refine qs c σ H1 s1 a cls d x r1 (jx.ex (fun j hj => hL j (hW j hj)) x1) _ _ e2 _ fun vs H2 r2 x2 d2 => ?_
  exact k _ H2 r2 (x1.trans x2) (.cons (dp_ex (keep hW x2) d1) d2)
theorem te_tup {k : Nat} {ms : Exn → MF} (hs : TrXA Γ i O L W es ms) (hL : ∀ j ∈ L, j ∈ O) : TrXE Γ i O L W (.Tuple es k pos) (fun x => xTup (ms x)) := by
  obtain ⟨ts, ps, qs⟩ := hs
  refine ⟨fun a cls d => tTup (ts a cls d), fun X a oe cls d pn hX hz hf => pe_tup (ps X a oe cls d pn hX hz hf), fun c σ H s a cls d x r jx r0 s' e Q q => ?_⟩
  obtain ⟨ds, e1, hl, rfl⟩ := xTup_of e
  refine qs c σ H s a cls d x r jx _ _ e1 _ fun vs H1 r1 x1 d1 => ⟨sz1000 (by rw [dpa_len d1]; exact hl), fun p hp => ?_⟩
  have x2 := ex_upd (o := HO.tup vs) hp
  refine q _ _ (r1.ex x2) (x1.trans (ex_hide x2)) (.tup (.inl (.inl (hide_of (fun z => ?_) upd_same))) (dpa_ex (ex_hide x2) d1))
  obtain ⟨o, z⟩ := msk_there r1 hL p z
  rw [hp] at z; cases z
/-- e.f: ns the classes whose exceptions may be handled here -/
def dAttr (ns : List Str) (f : Str) (x : Exn) : ME := fun s => if x.cls ∈ ns then (x.fs.lookup f).map fun y => (y, s) else none
open Classical in
theorem te_attr {y n : Str} {py : Pos} (ns : List Str) (hN : Γ.N[i]? = some y) (hv : visB Γ.sc y = true) (hT : ∀ z ∈ ns, XfC Γ.K (He.ga Γ.K z) ∧ PySem.W.findIn Γ.K (.ref (He.ga Γ.K z)) n = some none) (hL : ∀ j ∈ L, j ∈ O)
    (hd : (y == ("__debug__" : Str)) = false := by decide) (hcd : (y == ("__classdict__" : Str)) = false := by decide) (hb : ∀ env : Env, attributeBase (.Name y py) n env (eval (.Name y py) env) = eval (.Name y py) env := by intro _; rfl) :
    TrXE Γ i O L W (.Attribute (.Name y py) n pos) (dAttr ns n) := by
  refine ⟨fun a cls d => if h : ∃ z, z ∈ ns ∧ cls = .ref (He.ga Γ.K z) then tXf a cls d (He.ga Γ.K h.choose) n (tVar i) else fun _ _ _ => False, fun X a oe cls d pn hX hz hf => ?_, fun c σ H s a cls d x r jx r0 s' e Q q => ?_⟩
  · by_cases h : ∃ z, z ∈ ns ∧ cls = .ref (He.ga Γ.K z)
    · dsimp only
      rw [dif_pos h]
      obtain ⟨T, hno⟩ := hT _ h.choose_spec.1
      have eK : X.K = Γ.K := hX.g.K
      have T' : XfC X.K (He.ga Γ.K h.choose) := by rw [eK]; exact T
      have hno' : PySem.W.findIn X.K (.ref (He.ga Γ.K h.choose)) n = some none := by rw [eK]; exact hno
      exact pe_xf T' hno' hz hf (pe_var (hX.sui (a := a) (pn := (a, oe) :: pn) |>.nx hN) (hX.sui (a := a) (pn := (a, oe) :: pn) |>.vis hv) hd hcd) (hb _)
    · dsimp only
      rw [dif_neg h]
      exact ⟨fun _ _ _ _ _ _ z => z.elim⟩
  · unfold dAttr at e
    split at e
    · rename_i hm
      obtain ⟨y', e1, e2⟩ := mapNx_of e
      cases e2
      have hz : ∃ z, z ∈ ns ∧ cls = .ref (He.ga Γ.K z) := ⟨x.cls, hm, jx.rx.cl⟩
      show (if h : ∃ z, z ∈ ns ∧ cls = .ref (He.ga Γ.K z) then tXf a cls d (He.ga Γ.K h.choose) n (tVar i) else fun _ _ _ => False) σ H Q
      rw [dif_pos hz]
      rcases jx.rx.fs with h0 | ⟨dd, vs, h1, h2, h3⟩
      · rw [h0.1] at e1; cases e1
      · obtain ⟨v, k1, k2⟩ := h3 _ _ e1
        exact ⟨.ref a, jx.at_, rfl, hz.choose_spec.2, dd, vs, v, h1, (of_hide h2).2, k1, q v H r (Ex.refl _) (dp_ex (ex_hide_sub (msk_sub hL)) k2)⟩
    · cases e
end
/-! ## the statements of a suite -/
def SimU (K : PySem.W.Frag) (i : Nat) (Th : List Nat) (fz : Bool) (O O' Ol : List Nat) (t : Addr → Value → Option Addr → TS) (m : Exn → MM) : Prop := ∀ (c : Cn), c.Th = Th → ∀ (σ : L2.St) (H : Hp) (s : MS) (a : Addr) (cls : Value) (d : Option Addr) (x : Exn), R K c O s σ H → JX K c O i a cls d x σ H → ∀ o, m x s = some o → ∀ E : Ends, Ways0 K fz c O O' Ol σ H o E → t a cls d E σ H
section
variable (Γ : G) (i : Nat) (Th : List Nat) (fz : Bool) (O O' Ol : List Nat)
def TrU (sts : List Stmt) (m : Exn → MM) : Prop := ∃ t, Sui Γ (fun X a cls d => PSs X sts (t a cls d)) ∧ SimU Γ.K i Th fz O O' Ol t m
end
def noEx (o : Out) : Option Out := match o with
  | .ex _ _ => none
  | o => some o
section
variable {Γ : G} {i : Nat} {Th : List Nat} {fz : Bool} {O O' Ol L W : List Nat} {e : Expr} {sts sts1 sts2 : List Stmt} {pos : Pos}
/-- a suite that does not look at the exception -/
theorem tu_lift {m : MM} (h : ∀ a, TrSs (Γ.sui a) Th fz O O' Ol sts m) : TrU Γ i Th fz O O' Ol sts (fun _ s => (m s).bind noEx) :=
  ⟨fun a _ _ => (h a).choose fun _ _ _ _ => False, fun X a oe cls d pn hX _ _ => (h a).choose_spec.1 _ _ hX.suiX takes_none5, fun c hc σ H s a cls d x r _ o e E w => by
    obtain ⟨o1, e1, e2⟩ := bind_of e
    refine (h a).choose_spec.2 c hc σ H s r o1 e1 E _ ⟨fun s' σ' H' eo r' f => ?_, fun s' σ' H' eo r' f => ?_, fun s' σ' H' eo r' f => ?_, fun d s' v H' eo rt => ?_, fun x s' σ' H' cls d eo r' f rx => ?_⟩ <;> subst eo <;> cases e2
    · exact w.nx s' σ' H' rfl r' f
    · exact w.bk s' σ' H' rfl r' f
    · exact w.ct s' σ' H' rfl r' f
    · exact w.rt d s' v H' rfl rt⟩
theorem tu_ret {m : Exn → ME} (h : TrXE Γ i O Th W e m) (hW : ∀ j ∈ W, j ∈ O) : TrU Γ i Th false O O' Ol [.Return (some e) pos] (fun x => mRet (m x)) := by
  obtain ⟨t, p, q⟩ := h
  refine ⟨fun a cls d => tRet (t a cls d), fun X a oe cls d pn hX hz hf => pss_one (ps_ret (p X a oe cls d pn hX hz hf)), fun c hc σ H s a cls d x r jx o e E w => ?_⟩
  unfold mRet at e
  obtain ⟨pr, e1, rfl⟩ := mapNx_of e
  refine q c σ H s a cls d x r jx _ _ e1 _ fun v H1 r1 x1 d1 => w.rt _ _ v H1 rfl ⟨rt_ex r1 hW x1, rt_th r1, ?_, fun z => Bool.noConfusion z⟩
  rw [← hc, msk_th r1] at d1
  exact d1
theorem tu_set {m : Exn → ME} {j : Nat} {y : Str} {p2 : Pos} (hN : Γ.N[j]? = some y) (hv : locB Γ y = true) (h : TrXE Γ i O O W e m) (ht : j ∉ Th) (hO : ∀ k ∈ O', k ∈ O.filter (· ≠ j)) (hT : ∀ k ∈ Th, k ∈ O') (hW : ∀ j ∈ W, j ∈ O) (hs : swapsWith e (some (.Name y p2)) pos.line (envS Γ.sc) = pure false := by rfl) :
    TrU Γ i Th fz O O' Ol [.Assign [.Name y p2] e pos] (fun x => mSet j (m x)) := by
  obtain ⟨t, p, q⟩ := h
  refine ⟨fun a cls d => tAsg (t a cls d) (gName j), fun X a oe cls d pn hX hz hf => pss_one (ps_set (hX.sui (a := a) (pn := (a, oe) :: pn)).ndX ((hX.sui (a := a) (pn := (a, oe) :: pn)).nx hN) ((hX.sui (a := a) (pn := (a, oe) :: pn)).loc hv).1 (p X a oe cls d pn hX hz hf) ((swaps_sc (hX.g.sc.trans rfl)).trans hs) ((hX.sui (a := a) (pn := (a, oe) :: pn)).loc hv).2), fun c hc σ H s a cls d x r jx o e E w => ?_⟩
  unfold mSet at e
  obtain ⟨pr, e1, rfl⟩ := mapNx_of e
  refine q c σ H s a cls d x r jx _ _ e1 _ fun v H1 r1 x1 d1 => ?_
  obtain ⟨r2, x2⟩ := setR r1 d1 (by rw [hc]; exact ht) hO (by rw [hc]; exact hT)
  exact w.nx _ _ H1 rfl r2 ((Fr.of_ex hW x1).trans x2)
theorem tu_if {mt : Exn → MT} {m1 m2 : Exn → MM} (h : TrXT Γ i O W e mt) (h1 : TrU Γ i Th fz O O' Ol sts1 m1) (h2 : TrU Γ i Th fz O O' Ol sts2 m2) (hW : ∀ j ∈ W, j ∈ O) : TrU Γ i Th fz O O' Ol [.If e sts1 sts2 pos] (fun x => mIf (mt x) (m1 x) (m2 x)) := by
  obtain ⟨t, p, q⟩ := h
  obtain ⟨t1, p1, q1⟩ := h1
  obtain ⟨t2, p2, q2⟩ := h2
  refine ⟨fun a cls d => tIfS (t a cls d) (t1 a cls d) (t2 a cls d), fun X a oe cls d pn hX hz hf => pss_one (ps_if (p X a oe cls d pn hX hz hf) (p1 X a oe cls d pn hX hz hf) (p2 X a oe cls d pn hX hz hf)), fun c hc σ H s a cls d x r jx o e E w => ?_⟩
  unfold mIf at e
  obtain ⟨⟨k, s1⟩, e1, e2⟩ := bind_of e
  refine q c σ H s a cls d x r jx _ _ e1 _ fun H1 r1 x1 => ?_
  have wa : Ways0 Γ.K fz c O O' Ol σ H1 o E := ⟨fun s2 σ2 H2 eo r2 f2 => w.nx s2 σ2 H2 eo r2 ((Fr.of_ex hW x1).trans f2), fun s2 σ2 H2 eo r2 f2 => w.bk s2 σ2 H2 eo r2 ((Fr.of_ex hW x1).trans f2), fun s2 σ2 H2 eo r2 f2 => w.ct s2 σ2 H2 eo r2 ((Fr.of_ex hW x1).trans f2), fun d s2 v H2 eo rt => w.rt d s2 v H2 eo (rt.ahead (Fr.of_ex hW x1))⟩
  cases k with
  | true =>
    rw [if_pos rfl] at e2 ⊢
    exact q1 c hc σ H1 s1 a cls d x r1 (jx.ex hW x1) o e2 E wa
  | false =>
    rw [if_neg Bool.false_ne_true] at e2 ⊢
    exact q2 c hc σ H1 s1 a cls d x r1 (jx.ex hW x1) o e2 E wa
end
/-! ## try -/
/-- sub: of each class that may come, whether the clause takes it -/
def SubOk (K : PySem.W.Frag) (c : Str) (sub : List (Str × Bool)) : Prop := ∀ z b, sub.lookup z = some b → PySem.W.exmOne K (.ref (He.ga K z)) (.ref (He.ga K c)) = some b
def mTry (sub : List (Str × Bool)) (m : MM) (u : Exn → MM) : MM := fun s => (m s).bind fun o => match o with
  | .ex x s1 => (sub.lookup x.cls).bind fun b => if b = true then u x s1 else some (.ex x s1)
  | o => some o
section
variable {Γ : G} {Th : List Nat} {fz : Bool} {Os O O' Ol L W : List Nat} {body suite : List Stmt} {b₀ : Stmt} {c : Str} {np pos pos' : Pos} {sub : List (Str × Bool)} {m : MM} {u : Exn → MM}
theorem InX.tr {X : Cx} (h : InX Γ X) {ox : List Nat} {pn : List (Addr × Obj)} {xe : Value → Shared → Prop} (po : PassesOwn (model X.prog X.w) X.A X.env xe) : InX { Γ with ox := ox } (X.tr pn xe) := ⟨⟨h.g.prog, h.g.w, h.g.K, h.g.mg, h.g.base, h.g.A, h.g.N, h.g.sc, h.g.fnc, h.g.nd, h.g.calm, rfl⟩, po, h.st, h.fr⟩
/-- try: body; except C: suite, the exception unnamed -/
theorem ss_try {m2 : MM} (hg : Γ.sc.names.lookup c = some .globalImplicit) (hm : Γ.mg c = some (.ref (He.ga Γ.K c))) (hs : SubOk Γ.K c sub) (hb : TrSs { Γ with ox := Os } Th fz O O' Ol body m) (hu : ∀ a, TrSs (Γ.sui a) Th fz Os O' Ol (b₀ :: suite) m2)
    (hx : ∀ j ∈ Γ.ox, j ∈ Os) (hxT : ∀ j ∈ Th, j ∈ Γ.ox) (hdb : (c == ("__debug__" : Str)) = false := by decide) : TrS Γ Th fz O O' Ol (.Try body [.ExceptHandler (some (.Name c np)) none (b₀ :: suite) pos'] [] [] pos) (mTry sub m fun _ s => (m2 s).bind noEx) := by
  obtain ⟨t, p, q⟩ := hb
  refine ⟨fun V => fun D σ H => t (wOnly Γ.K (.ref (He.ga Γ.K c)) (fun a _ _ => (hu a).choose fun _ _ _ _ => False) V D) D σ H, fun X V h k => ?_, fun cn hc σ H s r o e E V w => ?_⟩
  · have eK : Γ.K = X.K := h.g.K.symm
    have := ps_try_only (X := X) (x := c) (c := .ref (He.ga Γ.K c)) (body := body) (suite := suite) (b₀ := b₀) (np := np) (pos := pos) (pos' := pos') (tb := t) (ts := fun a _ _ => (hu a).choose fun _ _ _ _ => False) (Wout := V) h.st h.fr ⟨h.g.gl hg, hdb, .inl (h.g.mgn hm)⟩ k
      (fun W pn xe tk po => p _ W (h.tr po) tk) fun a oe cls d pn hz hf => (hu a).choose_spec.1 _ _ h.suiX takes_none5
    have e2 : X.K = Γ.K := h.g.K
    rw [e2] at this
    exact this
  · unfold mTry at e
    obtain ⟨o1, e1, e2⟩ := bind_of e
    refine q cn hc σ H s r o1 e1 E _ ⟨fun s' σ' H' eo r' f => ?_, fun s' σ' H' eo r' f => ?_, fun s' σ' H' eo r' f => ?_, fun d s' v H' eo rt => ?_, fun x s' σ' H' cls d eo r' f rx => ?_⟩ <;> subst eo
    · cases e2; exact w.nx s' σ' H' rfl r' f
    · cases e2; exact w.bk s' σ' H' rfl r' f
    · cases e2; exact w.ct s' σ' H' rfl r' f
    · cases e2; exact w.rt d s' v H' rfl rt
    · obtain ⟨b, e3, e4⟩ := bind_of e2
      have em := hs _ _ e3
      refine ⟨b, by rw [rx.cl]; exact em, fun hb a na => ?_, fun hb => ?_⟩
      · subst hb
        rw [if_pos rfl] at e4
        obtain ⟨o2, e5, e6⟩ := bind_of e4
        refine (hu a).choose_spec.2 cn hc σ' H' s' r' o2 e5 E _ ⟨fun s2 σ2 H2 eo r2 f2 => ?_, fun s2 σ2 H2 eo r2 f2 => ?_, fun s2 σ2 H2 eo r2 f2 => ?_, fun d2 s2 v H2 eo rt => ?_, fun x s2 σ2 H2 cls d2 eo r2 f2 rx2 => ?_⟩ <;> subst eo <;> cases e6
        · exact w.nx s2 σ2 H2 rfl r2 (f.trans f2)
        · exact w.bk s2 σ2 H2 rfl r2 (f.trans f2)
        · exact w.ct s2 σ2 H2 rfl r2 (f.trans f2)
        · exact w.rt d2 s2 v H2 rfl (rt.ahead f)
      · subst hb
        rw [if_neg Bool.false_ne_true] at e4
        cases e4
        obtain ⟨r2, x2⟩ := r'.free hx (by rw [hc]; exact hxT)
        exact w.ex x s' σ' H' cls d rfl r2 (f.trans x2) (rx_ex (ex_hide_sub (msk_sub hx)) rx)
/-- a slot of which the mirror says nothing takes anything -/
theorem R.blank {K : PySem.W.Frag} {cn : Cn} {s : MS} {σ : L2.St} {H : Hp} (r : R K cn O s σ H) {i : Nat} (hi : i ∉ O) (ht : i ∉ cn.Th) (v : Option V) : R K cn O (s.set i none) (σ.set i v) H ∧ Own O (σ.set i v) = Own O σ := by
  have own : Own O (σ.set i v) = Own O σ := by
    funext a
    refine propext ⟨fun ⟨j, hj, e⟩ => ⟨j, hj, ?_⟩, fun ⟨j, hj, e⟩ => ⟨j, hj, ?_⟩⟩
    · rwa [List.getElem?_set_ne (fun (z : i = j) => hi (by rw [z]; exact hj))] at e
    · rwa [List.getElem?_set_ne (fun (z : i = j) => hi (by rw [z]; exact hj))]
  have msk : cn.msk O (σ.set i v) = cn.msk O σ := by
    unfold Cn.msk; rw [own]
  refine ⟨⟨by simpa using r.len, fun j d hj h => ?_, fun j hj => ?_, fun j k p hj hk h1 h2 => ?_, r.cs, fun j hj => ?_⟩, own⟩
  · by_cases e : j = i
    · subst e
      by_cases hl : j < s.length
      · rw [List.getElem?_set_self hl] at h; cases h
      · rw [List.getElem?_eq_none (by simp; omega)] at h; cases h
    · rw [List.getElem?_set_ne (Ne.symm e)] at h
      rw [List.getElem?_set_ne (Ne.symm e), msk]
      exact r.sh j d hj h
  · have e : j ≠ i := fun z => hi (z ▸ hj)
    rw [List.getElem?_set_ne (Ne.symm e), List.getElem?_set_ne (Ne.symm e), msk]
    exact r.ow j hj
  · have e : j ≠ i := fun z => hi (z ▸ hj)
    have e' : k ≠ i := fun z => hi (z ▸ hk)
    rw [List.getElem?_set_ne (Ne.symm e)] at h1
    rw [List.getElem?_set_ne (Ne.symm e')] at h2
    exact r.nd j k p hj hk h1 h2
  · have e : j ≠ i := fun z => ht (z ▸ hj)
    rw [List.getElem?_set_ne (Ne.symm e)]
    exact r.th j hj
theorem Fr.blank {σ : L2.St} {H : Hp} {i : Nat} (v : Option V) (own : Own O (σ.set i v) = Own O σ) : Fr O σ H O (σ.set i v) H := by
  unfold Fr
  rw [own]
  exact Ex.refl _
/-- what goes out of a suite: its exception's name goes -/
def gone (i : Nat) : Out → Out
  | .nx s => .nx (s.set i none)
  | .bk s => .bk (s.set i none)
  | .ct s => .ct (s.set i none)
  | o => o
def mSui (i : Nat) (u : Exn → MM) : Exn → MM := fun x s => if i < s.length then (u x (s.set i none)).map (gone i) else none
/-- try: body; except C as y: suite -/
theorem ss_tryAs {i : Nat} {y : Str} (hN : Γ.N[i]? = some y) (hy : Γ.sc.names.lookup y = some .local) (hg : Γ.sc.names.lookup c = some .globalImplicit) (hm : Γ.mg c = some (.ref (He.ga Γ.K c))) (hs : SubOk Γ.K c sub) (hb : TrSs { Γ with ox := Os } Th fz O O' Ol body m) (hu : TrU Γ i Th fz Os O' Ol (b₀ :: suite) u)
    (hx : ∀ j ∈ Γ.ox, j ∈ Os) (hxT : ∀ j ∈ Th, j ∈ Γ.ox) (hi : i ∉ Os) (hi2 : i ∉ O') (hi3 : i ∉ Ol) (hi4 : i ∉ Th) (hdb : (c == ("__debug__" : Str)) = false := by decide) : TrS Γ Th fz O O' Ol (.Try body [.ExceptHandler (some (.Name c np)) (some y) (b₀ :: suite) pos'] [] [] pos) (mTry sub m (mSui i u)) := by
  obtain ⟨t, p, q⟩ := hb
  obtain ⟨ts, pu, qu⟩ := hu
  refine ⟨fun V => fun D σ H => t (wAs Γ.K (.ref (He.ga Γ.K c)) i ts V D) D σ H, fun X V h k => ?_, fun cn hc σ H s r o e E V w => ?_⟩
  · have := ps_try_as (X := X) (x := c) (n := y) (i := i) (c := .ref (He.ga Γ.K c)) (body := body) (suite := suite) (b₀ := b₀) (np := np) (pos := pos) (pos' := pos') (tb := t) (ts := ts) (Wout := V) h.st h.fr h.g.ndX (h.g.nx hN) (by
        show X.env.scope.names.lookup y = _
        have := h.g.sc
        rw [show X.env.scope = Γ.sc from this]; exact hy) ⟨h.g.gl hg, hdb, .inl (h.g.mgn hm)⟩ k
      (fun W pn xe tk po => p _ W (h.tr po) tk) fun a oe cls d pn hz hf => pu X a oe cls d pn h hz hf
    have e2 : X.K = Γ.K := h.g.K
    rw [e2] at this
    exact this
  · unfold mTry at e
    obtain ⟨o1, e1, e2⟩ := bind_of e
    refine q cn hc σ H s r o1 e1 E _ ⟨fun s' σ' H' eo r' f => ?_, fun s' σ' H' eo r' f => ?_, fun s' σ' H' eo r' f => ?_, fun d s' v H' eo rt => ?_, fun x s' σ' H' cls d eo r' f rx => ?_⟩ <;> subst eo
    · cases e2; exact w.nx s' σ' H' rfl r' f
    · cases e2; exact w.bk s' σ' H' rfl r' f
    · cases e2; exact w.ct s' σ' H' rfl r' f
    · cases e2; exact w.rt d s' v H' rfl rt
    · obtain ⟨b, e3, e4⟩ := bind_of e2
      have em := hs _ _ e3
      refine ⟨b, by rw [rx.cl]; exact em, fun hb a na => ?_, fun hb => ?_⟩
      · subst hb
        rw [if_pos rfl] at e4
        unfold mSui at e4
        split at e4
        case isFalse => cases e4
        rename_i hlen
        obtain ⟨o2, e5, e6⟩ := mapNx_of e4
        obtain ⟨rb, ob⟩ := r'.blank hi (by rw [hc]; exact hi4) (some (.ref a))
        have fb : Fr O σ H Os (σ'.set i (some (.ref a))) H' := f.trans (Fr.blank _ ob)
        have jx : JX Γ.K cn Os i a cls d x (σ'.set i (some (.ref a))) H' := ⟨List.getElem?_set_self (by rw [← r'.len]; exact hlen), by unfold Cn.msk; rw [ob]; exact rx⟩
        refine qu cn hc _ H' _ a cls d x rb jx o2 e5 _ ⟨fun s2 σ2 H2 eo r2 f2 => ?_, fun s2 σ2 H2 eo r2 f2 => ?_, fun s2 σ2 H2 eo r2 f2 => ?_, fun d2 s2 v H2 eo rt => ?_⟩ <;> subst eo <;> subst e6
        · obtain ⟨r3, o3⟩ := r2.blank hi2 (by rw [hc]; exact hi4) none
          exact w.nx _ _ H2 rfl r3 ((fb.trans f2).trans (Fr.blank _ o3))
        · obtain ⟨r3, o3⟩ := r2.blank hi3 (by rw [hc]; exact hi4) none
          exact w.bk _ _ H2 rfl r3 ((fb.trans f2).trans (Fr.blank _ o3))
        · obtain ⟨r3, o3⟩ := r2.blank hi3 (by rw [hc]; exact hi4) none
          exact w.ct _ _ H2 rfl r3 ((fb.trans f2).trans (Fr.blank _ o3))
        · exact w.rt d2 s2 v H2 rfl (rt.ahead fb)
      · subst hb
        rw [if_neg Bool.false_ne_true] at e4
        cases e4
        obtain ⟨r2, x2⟩ := r'.free hx (by rw [hc]; exact hxT)
        exact w.ex x s' σ' H' cls d rfl r2 (f.trans x2) (rx_ex (ex_hide_sub (msk_sub hx)) rx)
end
end Z


namespace Z
open PySem PySem.Spec PySem.Calls PyProof.Rows PySem.W
section
variable {pr : Program} {wo : World} {Ar : Around} {Er : Value → Shared → Prop} {sh : Shared} {K : Frag} {xa Ca : Addr} {xo : Obj} {dico : Option Obj}
theorem finds_class {av gv : Value} (h1 : (clsIn K Ca).isSome = true) (h2 : findIn K (.ref Ca) "__class__" = some (some av)) (h3 : specialIn K av "__get__" = some (some gv)) (h4 : takesIn K av = some true) : findObj K Ca dico "__class__" = some (.bind gv av) := by
  obtain ⟨cdd, e⟩ := Option.isSome_iff_exists.mp h1
  unfold findObj
  simp only [e, h2, h3, h4, Option.bind_some]
theorem asks_class {Qr : Option Value → Shared → Prop} (T : L2.ExcC K Ca) (kx : K.In sh.heap) (ins : InstAt sh.heap xa xo Ca dico) (fin : Qr (some (.ref Ca)) { sh with toks := sh.toks + 1 }) : wpAny (model pr wo) Ar (getAttr? (.ref xa) "__class__") Qr Er sh := by
  obtain ⟨T1, T2, T3, T4, T5, T6, T7, T8⟩ := T
  have fnd : findObj K Ca dico "__class__" = some (.bind (.builtin "getset_descriptor.__get__") (.builtin "object.__class__")) := finds_class (by obtain ⟨q, e, _⟩ := any_some T4; rw [e]; rfl) T5 T6 T7
  obtain ⟨hea, gea, dea, tea, oea⟩ := sh
  have ty0 := ins.type (M := model pr wo)
  have sub0 : Looks (model pr wo) hea (isInstance (.ref xa) (.type "BaseException")) true := ty0.andThen (looks_subIn kx T3)
  have no0 : (Value.builtin "BaseException.__getattribute__" == Value.builtin "object.__getattribute__") = false := by decide +kernel
  have no1 : (onTheHeap (Value.ref Ca) && Value.builtin "BaseException.__getattribute__" == Value.builtin "object.__getattribute__") = false := by
    rw [no0]; rfl
  unfold getAttr?; unfold getAttrBy?; unfold getAttrBy
  apply wpAny_bind; apply wpAny_mkText; apply wpAny_bind; apply wpAny_attempt; apply wpAny_holding; apply wpAny_bind
  apply ty0.at; apply wpAny_bind
  apply (looks_findIn (M := model pr wo) kx T1).at
  show wpAny _ _ (if (onTheHeap (Value.ref Ca) && Value.builtin "BaseException.__getattribute__" == Value.builtin "object.__getattribute__") = true then _ else _) _ _ _
  rw [no1, if_neg Bool.false_ne_true]
  unfold getAttrByItsOwn; unfold hookBefore; apply wpAny_bind
  rw [if_pos (show onTheHeap (Value.ref Ca) = true from rfl)]
  apply (looks_findIn (M := model pr wo) kx T2).at
  apply wpAny_bind; apply wpAny_attempt; apply wpAny_holding
  unfold callGetattribute
  rw [show (false && onTheHeap (Value.builtin "BaseException.__getattribute__")) = false from rfl, if_neg Bool.false_ne_true]
  unfold boundAndCalled
  rw [PySem.F.excAttr_ValueError.ga.bind (.ref xa)]
  apply wpAny_bind; apply wpAny_pure
  show wpAny _ _ (call (.builtin "BaseException.__getattribute__") [.ref xa, .str "__class__" tea]) _ _ _
  apply wpAny_call; apply codeAny_call_builtin PySem.F.excAttr_ValueError.ga.plain PySem.F.entry_bexc_ga
  refine @check_slot (model pr wo) _ _ ⟨hea, gea, dea, tea + 1, oea⟩ "BaseException.__getattribute__" "BaseException" "__getattribute__" (.ref xa) [.str "__class__" tea] [] _ (by decide +kernel) (by decide +kernel) sub0 (PySem.F.args_bexc_ga (.ref xa) (.str "__class__" tea)) ?_
  unfold Builtin.«object.__getattribute__»; apply wpAny_bind
  refine wpAny_of_eq (a := ((Value.ref xa : Value), [Value.str "__class__" tea])) (by first | rfl | (simp only [slotArgs]; rfl)) ?_
  apply wpAny_bind; apply wpAny_pure; apply wpAny_bind
  apply ty0.at; apply wpAny_bind
  apply (looks_find (M := model pr wo) kx ins fnd).at
  show wpAny _ _ (holding [Value.builtin "object.__class__"] (call (.builtin "getset_descriptor.__get__") [.builtin "object.__class__", .ref xa, .ref Ca]) >>= ret) _ _ _
  apply wpAny_bind; apply wpAny_holding; apply wpAny_call
  refine class_get (s := ⟨hea, gea, dea, tea + 1, oea⟩) (ox := xo) (od := dico) kx ins T8 ?_
  apply wpAny_pure
  show wpAny _ _ (handedOut (.ref Ca)) _ _ _
  rw [handedOut_of (v := .ref Ca) rfl]
  first
    | exact wpAny_pure (wpAny_pure fin)
    | exact wpAny_pure fin
    | exact wpAny_pure (wpAny_bind (wpAny_pure (wpAny_pure fin)))
theorem cls_there (h : hasDictIn K Ca = true) : ∃ (c0 : Value) (d0 : Option Addr) (k0 : ClassData) (s0 : Array (Option Value)), K.lookup Ca = some ⟨c0, d0, .cls k0, s0⟩ := by
  obtain ⟨k0, e, _⟩ := any_some h
  unfold clsIn at e
  split at e
  · exact ⟨_, _, _, _, ‹_›⟩
  · cases e
theorem kit_caught (T : L2.ExcC K Ca) : KitX K (.ref xa) (.ref Ca) (fun h => ∃ dico, InstAt h xa xo Ca dico) := by
  obtain ⟨c0, d0, k0, s0, hk⟩ := cls_there T.hd
  refine ⟨fun _ _ _ ⟨_, ins⟩ => ins.type, fun _ _ kx _ A1 Q1 E1 s1 keep1 fin => ?_, fun h tp _ _ _ _ kx there => ?_, fun kx ⟨_, ins⟩ fin => asks_class T kx ins fin⟩
  · unfold isType; unfold loadHead
    exact wpAny_bind (wpAny_loadPart (keep1 _ _ (kx _ _ hk)) (wpAny_pure fin))
  · cases e : ((Value.ref Ca) == (Value.ref tp)) with
    | false => rfl
    | true =>
      have e2 : Ca = tp := Value.ref.inj (beq_iff_eq.mp e)
      rw [← e2, kx _ _ hk] at there
      cases there
end
end Z
namespace Z
open PySem PySem.Spec PyProof.Rows L2
/-- isinstance(e, C), e the exception that the suite holds, of the class at Da -/
theorem call_caught {X : Cx} {a Da : Addr} {oe : Obj} {d : Option Addr} {pn : List (Addr × Obj)} (T : ExcC X.K Da) (hz : Zc (.ref Da) d oe) (hf : ∃ vs, oe.data = .fields vs) (hd : ∀ dd, d = some dd → True) :
    CallR (X.suite a ((a, oe) :: pn)) (.builtin "isinstance") (fun xs H Q => (∀ dd, d = some dd → ∃ fs, H dd = some (.xd fs)) ∧ rIsE X.K Da a xs H Q) := by
  intro pins s σ H xs us Q I r ⟨hdd, c, cv, b, exs, hcv, e, q⟩
  subst exs
  cases r with
  | cons rx rr =>
    cases rr with
    | cons rt rr =>
      cases rr
      cases rx
      have ec := hcv _ rt
      subst ec
      obtain ⟨hget, _⟩ := I.pin (a, oe) (List.mem_append.mpr (.inl List.mem_cons_self))
      obtain ⟨vs, hv⟩ := hf
      have ins : ∃ dico, PySem.W.InstAt s.heap a oe Da dico := by
        cases ed : d with
        | none =>
          refine ⟨none, hget, hz.1, by unfold PySem.W.notCls; rw [hv] <;> rfl, ?_⟩
          rw [hz.2, ed]
          trivial
        | some dd =>
          obtain ⟨fs, ea⟩ := hdd dd ed
          have hx : ObjOk X.prog X.w H s.heap dd (.xd fs) := I.hok dd _ ea
          obtain ⟨mA, hns, hr⟩ := hx
          obtain ⟨od, ho, hl⟩ := lookIn_ns hns
          exact ⟨some od, hget, hz.1, by unfold PySem.W.notCls; rw [hv] <;> rfl, by rw [hz.2, ed]; exact ho⟩
      exact PySem.W.kia_one (kit_caught T) I.kIn ins e (fun z => nomatch z) fun tk => ⟨.bl b, H, I.kept (t' := tk) fun _ _ z => z, rfl, q⟩
/-- c the class that is asked for; sub: of each class whose exceptions may be handled here, the answer -/
def IsOk (K : PySem.W.Frag) (c : Str) (sub : List (Str × Bool)) : Prop := ∀ z b, sub.lookup z = some b → ExcC K (He.ga K z) ∧ PySem.W.kitOne K (.ref (He.ga K z)) (.ref (He.ga K c)) = some b
def dIsX (sub : List (Str × Bool)) (x : Exn) : ME := fun s => (sub.lookup x.cls).map fun b => (.bool b, s)
section
variable {Γ : G} {i : Nat} {O L W : List Nat}
open Classical in
theorem te_isi {y c : Str} {py pc p pos : Pos} (sub : List (Str × Bool)) (hN : Γ.N[i]? = some y) (hv : visB Γ.sc y = true) (hg : Γ.sc.names.lookup ("isinstance" : Str) = some .globalImplicit) (hm : Γ.mg "isinstance" = none) (hgc : Γ.sc.names.lookup c = some .globalImplicit) (hmc : Γ.mg c = some (.ref (He.ga Γ.K c))) (hT : IsOk Γ.K c sub)
    (hd : (y == ("__debug__" : Str)) = false := by decide) (hcd : (y == ("__classdict__" : Str)) = false := by decide) (hdb : (c == ("__debug__" : Str)) = false := by decide) : TrXE Γ i O L W (.Call (.Name "isinstance" p) [.Name y py, .Name c pc] [] pos) (dIsX sub) := by
  refine ⟨fun a cls d => if h : ∃ z b, sub.lookup z = some b ∧ cls = .ref (He.ga Γ.K z) then tCB (fun xs H Q => (∀ dd, d = some dd → ∃ fs, H dd = some (.xd fs)) ∧ rIsE Γ.K (He.ga Γ.K h.choose) a xs H Q) (tCons (tVar i) (tCons (tC (.ref (He.ga Γ.K c))) tNil)) else fun _ _ _ => False, fun X a oe cls d pn hX hz hf => ?_, fun cn σ H s a cls d x r jx r0 s' e Q q => ?_⟩
  · dsimp only
    by_cases h : ∃ z b, sub.lookup z = some b ∧ cls = .ref (He.ga Γ.K z)
    · rw [dif_pos h]
      obtain ⟨b, hb, hcls⟩ := h.choose_spec
      obtain ⟨T, _⟩ := hT _ _ hb
      have eK : X.K = Γ.K := hX.g.K
      have T' : ExcC X.K (He.ga Γ.K h.choose) := by rw [eK]; exact T
      have hz' : Zc (.ref (He.ga Γ.K h.choose)) d oe := by rw [← hcls]; exact hz
      have G' := hX.sui (a := a) (pn := (a, oe) :: pn)
      have CR := call_caught (X := X) (pn := pn) (a := a) T' hz' hf fun _ _ => trivial
      rw [eK] at CR
      exact pe_callB CR (G'.gl hg) (G'.mgn hm) (by decide +kernel) (pa_cons (pe_var (G'.nx hN) (G'.vis hv) hd hcd) (pa_cons (pe_glob (G'.gl hgc) (G'.mgn hmc) rfl hdb) pa_nil)) (by decide) (by decide)
    · rw [dif_neg h]
      exact ⟨fun _ _ _ _ _ _ z => z.elim⟩
  · unfold dIsX at e
    obtain ⟨b, e1, e2⟩ := mapNx_of e
    cases e2
    have hz : ∃ z b, sub.lookup z = some b ∧ cls = .ref (He.ga Γ.K z) := ⟨x.cls, b, e1, jx.rx.cl⟩
    show (if h : ∃ z b, sub.lookup z = some b ∧ cls = .ref (He.ga Γ.K z) then tCB (fun xs H Q => (∀ dd, d = some dd → ∃ fs, H dd = some (.xd fs)) ∧ rIsE Γ.K (He.ga Γ.K h.choose) a xs H Q) (tCons (tVar i) (tCons (tC (.ref (He.ga Γ.K c))) tNil)) else fun _ _ _ => False) σ H Q
    rw [dif_pos hz]
    have eq : He.ga Γ.K hz.choose = He.ga Γ.K x.cls := by
      obtain ⟨b', hb, hcls⟩ := hz.choose_spec
      exact Value.ref.inj (hcls.symm.trans jx.rx.cl)
    refine ⟨.ref a, jx.at_, fun dd ed => ?_, .ref (He.ga Γ.K c), .ref (He.ga Γ.K c), b, rfl, fun u hu => hu, by rw [eq]; exact (hT _ _ e1).2, q _ H r (Ex.refl _) (.bl b)⟩
    rcases jx.rx.fs with ⟨_, h0⟩ | ⟨dd', vs, h1, h2, h3⟩
    · rw [ed] at h0; cases h0
    · rw [ed] at h1
      cases h1
      exact ⟨vs, (of_hide h2).2⟩
end
section
variable {Γ : G} {i : Nat} {O L L0 W : List Nat} {a b e : Expr} {es : List Expr} {pos : Pos}
theorem te_one {op} {m : Exn → ME} (h : TrXE Γ i O L W a m) : TrXE Γ i O L W (.BoolOp op [a] pos) m := by
  obtain ⟨t, p, q⟩ := h
  exact ⟨t, fun X a oe cls d pn hX hz hf => pe_one (p X a oe cls d pn hX hz hf), q⟩
theorem te_and {ma mb : Exn → ME} (ha : TrXE Γ i O L0 W a ma) (hb : TrXE Γ i O L W (.BoolOp .And (b :: es) pos) mb) (hW : ∀ j ∈ W, j ∈ O) : TrXE Γ i O L W (.BoolOp .And (a :: b :: es) pos) (fun x => xAndV (xT (ma x)) (mb x)) := by
  obtain ⟨t, p, q⟩ := ha
  obtain ⟨u, p2, q2⟩ := hb
  refine ⟨fun a cls d => tAndV (t a cls d) (u a cls d), fun X a oe cls d pn hX hz hf => pe_and (p X a oe cls d pn hX hz hf) (p2 X a oe cls d pn hX hz hf), fun c σ H s a cls d x r jx r0 s' e Q w => ?_⟩
  unfold xAndV at e
  obtain ⟨⟨k1, s1⟩, e1, e⟩ := bind_of e
  refine q c σ H s a cls d x r jx _ _ (xT_of e1) _ fun v H1 r1 x1 d1 => ?_
  cases d1
  refine ⟨k1, rfl, ?_⟩
  cases k1 with
  | true =>
    rw [if_pos rfl] at e ⊢
    exact q2 c σ H1 s1 a cls d x r1 (jx.ex hW x1) _ _ e Q fun v H2 r2 x2 d2 => w v H2 r2 (x1.trans x2) d2
  | false =>
    rw [if_neg Bool.false_ne_true] at e ⊢
    cases e
    exact w _ H1 r1 x1 (.bl false)
theorem te_or {ma mb : Exn → ME} (ha : TrXE Γ i O L0 W a ma) (hb : TrXE Γ i O L W (.BoolOp .Or (b :: es) pos) mb) (hW : ∀ j ∈ W, j ∈ O) : TrXE Γ i O L W (.BoolOp .Or (a :: b :: es) pos) (fun x => xOrV (xT (ma x)) (mb x)) := by
  obtain ⟨t, p, q⟩ := ha
  obtain ⟨u, p2, q2⟩ := hb
  refine ⟨fun a cls d => tOrV (t a cls d) (u a cls d), fun X a oe cls d pn hX hz hf => pe_or (p X a oe cls d pn hX hz hf) (p2 X a oe cls d pn hX hz hf), fun c σ H s a cls d x r jx r0 s' e Q w => ?_⟩
  unfold xOrV at e
  obtain ⟨⟨k1, s1⟩, e1, e⟩ := bind_of e
  refine q c σ H s a cls d x r jx _ _ (xT_of e1) _ fun v H1 r1 x1 d1 => ?_
  cases d1
  refine ⟨k1, rfl, ?_⟩
  cases k1 with
  | true =>
    rw [if_pos rfl] at e ⊢
    cases e
    exact w _ H1 r1 x1 (.bl true)
  | false =>
    rw [if_neg Bool.false_ne_true] at e ⊢
    exact q2 c σ H1 s1 a cls d x r1 (jx.ex hW x1) _ _ e Q fun v H2 r2 x2 d2 => w v H2 r2 (x1.trans x2) d2
theorem te_not {ma : Exn → ME} (ha : TrXE Γ i O L0 W a ma) : TrXE Γ i O L W (.UnaryOp .Not a pos) (fun x => xB (xNot (xT (ma x)))) := by
  obtain ⟨t, p, q⟩ := ha
  refine ⟨fun a cls d => tNotV (t a cls d), fun X a oe cls d pn hX hz hf => pe_not (p X a oe cls d pn hX hz hf), fun c σ H s a cls d x r jx r0 s' e Q w => ?_⟩
  unfold xB xNot at e
  obtain ⟨⟨k1, s1⟩, e1, e2⟩ := mapNx_of e
  obtain ⟨⟨k2, s2⟩, e3, e4⟩ := mapNx_of e1
  cases e2
  cases e4
  refine q c σ H s a cls d x r jx _ _ (xT_of e3) _ fun v H1 r1 x1 d1 => ?_
  cases d1
  exact ⟨_, rfl, w _ H1 r1 x1 (.bl _)⟩
/-- a bool as a test -/
theorem tx_val {m : Exn → ME} (h : TrXE Γ i O L W e m) (he : ∀ (env : Env) whole, isTrue e env whole = (do let v ← whole; standAt e.pos; holding [v] (truthy v)) := by intro _ _; rfl) : TrXT Γ i O W e (fun x => xT (m x)) := by
  obtain ⟨t, p, q⟩ := h
  refine ⟨fun a cls d => tB (t a cls d), fun X a oe cls d pn hX hz hf => pt_val (p X a oe cls d pn hX hz hf) (he _), fun c σ H s a cls d x r jx r0 s' e Q w => ?_⟩
  refine q c σ H s a cls d x r jx _ _ (xT_of e) _ fun v H' r' x' d' => ?_
  cases d'
  exact ⟨_, rfl, w H' r' x'⟩
theorem tx_not {m : Exn → MT} (h : TrXT Γ i O W a m) : TrXT Γ i O W (.UnaryOp .Not a pos) (fun x => xNot (m x)) := by
  obtain ⟨t, p, q⟩ := h
  refine ⟨fun a cls d => tNot (t a cls d), fun X a oe cls d pn hX hz hf => pt_not (p X a oe cls d pn hX hz hf), fun c σ H s a cls d x r jx r0 s' e Q w => ?_⟩
  unfold xNot at e
  obtain ⟨⟨k1, s1⟩, e1, e2⟩ := mapNx_of e
  cases e2
  exact q c σ H s a cls d x r jx _ _ e1 _ fun H1 r1 x1 => w H1 r1 x1
theorem tx_W {m : Exn → MT} (h : TrXW Γ i O W e m) : TrXT Γ i O W e m := by
  obtain ⟨t, p, q⟩ := h
  exact ⟨t, fun X a oe cls d pn hX hz hf => (p X a oe cls d pn hX hz hf).pt, q⟩
theorem twx_or1 {m : Exn → MT} (h : TrXT Γ i O W a m) : TrXW Γ i O W (.BoolOp .Or [a] pos) m := by
  obtain ⟨t, p, q⟩ := h
  exact ⟨t, fun X a oe cls d pn hX hz hf => pw_or1 (p X a oe cls d pn hX hz hf), q⟩
theorem twx_or {ta tb : Exn → MT} (ha : TrXT Γ i O W a ta) (hb : TrXW Γ i O W (.BoolOp .Or (b :: es) pos) tb) (hW : ∀ j ∈ W, j ∈ O) : TrXW Γ i O W (.BoolOp .Or (a :: b :: es) pos) (fun x => xOr (ta x) (tb x)) := by
  obtain ⟨t, p, q⟩ := ha
  obtain ⟨u, p2, q2⟩ := hb
  refine ⟨fun a cls d => tOr (t a cls d) (u a cls d), fun X a oe cls d pn hX hz hf => pw_or (p X a oe cls d pn hX hz hf) (p2 X a oe cls d pn hX hz hf), fun c σ H s a cls d x r jx r0 s' e Q w => ?_⟩
  unfold xOr at e
  obtain ⟨⟨k1, s1⟩, e1, e⟩ := bind_of e
  refine q c σ H s a cls d x r jx _ _ e1 _ fun H1 r1 x1 => ?_
  cases k1 with
  | true =>
    rw [if_pos rfl] at e ⊢
    cases e
    exact w H1 r1 x1
  | false =>
    rw [if_neg Bool.false_ne_true] at e ⊢
    exact q2 c σ H1 s1 a cls d x r1 (jx.ex hW x1) _ _ e Q fun H2 r2 x2 => w H2 r2 (x1.trans x2)
end
end Z


namespace Z
open PySem PySem.Spec PyProof.Rows L2
/-! ## exceptions of own classes, made -/
/-- what must stand of a class whose __init__ is its own -/
def oexB (K : PySem.W.Frag) (C : Addr) : Bool := (match K.lookup C with
  | some ⟨.type "type", _, .cls cd, sl⟩ => (match cd.mro, sl.toList with
    | .ref C' :: bm, [_, _, _, _, some (.builtin n), _] => C' == C && (n == "ValueError.__new__" && (!cd.hasDel && (cd.hasDict && PySem.HandSPX.refsVE bm)))
    | _, _ => false)
  | _ => false) && (decide (PySem.W.findIn K (.ref C) "__setattr__" = some (some (.builtin "object.__setattr__"))) && (decide (PySem.W.subIn K (.ref C) (.type "BaseException") = some true) && (decide (PySem.W.typeIn K (.ref C) = some (.type "type")) && PySem.W.keepIn K (.ref C))))
theorem oexB_ok {K : PySem.W.Frag} {C : Addr} (h : oexB K C = true) : OexC K C := by
  obtain ⟨h1, h⟩ := Bool.and_eq_true_iff.mp h
  obtain ⟨h2, h⟩ := Bool.and_eq_true_iff.mp h
  obtain ⟨h3, h⟩ := Bool.and_eq_true_iff.mp h
  obtain ⟨h4, h5⟩ := Bool.and_eq_true_iff.mp h
  refine ⟨?_, of_decide_eq_true h2, of_decide_eq_true h3, of_decide_eq_true h4, h5⟩
  split at h1
  · rename_i ddx cdx slx there
    split at h1
    · rename_i Cx bmx u0 u1 u2 u3 nx u5 e_mro e_sl
      simp only [Bool.and_eq_true, beq_iff_eq, Bool.not_eq_true'] at h1
      obtain ⟨e1, e2, e3, e4, e5⟩ := h1
      obtain ⟨c1, c2, c3, c4, c5, c6, c7, c8, c9, c10, c11⟩ := cdx
      dsimp only at e_mro e3 e4
      subst e_mro e3 e4 e1 e2
      obtain ⟨lx⟩ := slx
      dsimp only at e_sl
      subst e_sl
      exact ⟨c1, c5, c4, c2, bmx, c7, c8, c9, c10, ddx, u0, u1, u2, u3, u5, there, e5⟩
    · cases h1
  · cases h1
/-- an __init__ that stores its arguments, fs the fields -/
def spI (C : Addr) (fs : List Str) : Sp := fun vs H Q _ => ∃ (a : Addr) (ws : List V), vs = .ref a :: ws ∧ ws.length = fs.length ∧ H a = some (exo a C none) ∧
  ∀ d, H d = none → d ≠ a → ∀ H', H' a = some (exo a C (some d)) → H' d = some (exd d ((fs.zip ws).reverse)) → (∀ b, b ≠ a → b ≠ d → H' b = H b) → Q .non H'
section
variable {P : Program} {w : World} {K : PySem.W.Frag} {mg : Str → Option Value} {base : Heap} {qual : Str} {st : Stmt} {fI C : Addr} {fd : FuncData} {k : Nat} {f1 f2 f3 x1 x2 x3 : Str} {p1 p2 p3 p4 q1 q2 q3 q4 r1 r2 r3 r4 : Pos}
theorem vis_of {sc : Scope} {x : Str} (e : visB sc x = true) : Vis sc x := by
  unfold visB at e
  unfold Vis
  split at e
  · exact .inl ‹_›
  · exact .inr (.inl ‹_›)
  · exact .inr (.inr ‹_›)
  · cases e
theorem init_1 (T : OexC K C) (F : FnP K "__init__" qual st fI fd) (S : FnScope ["self", x1] ["self", x1] (defScope st)) (hb : defBody st = [.Assign [.Attribute (.Name "self" p1) f1 p2] (.Name x1 p3) p4]) (hn : PySem.W.findIn K (.ref C) f1 = some none)
    (v0 : visB (defScope st) "self" = true) (v1 : visB (defScope st) x1 = true) (g1 : (x1 == ("__debug__" : Str)) = false) (g2 : (x1 == ("__classdict__" : Str)) = false) (hs : swapsWith (.Name x1 p3) (some (.Attribute (.Name "self" p1) f1 p2)) p4.line (envS (defScope st)) = pure false) : FnOk P w K mg base CX0 (k + 1) fI fd ["self", x1] (spI C [f1]) := by
  refine F.ok S (fun vs H Q E ⟨a, ws, e, hl, _⟩ => by rw [e, List.length_cons, hl]; rfl) (fun cdv A outer s H vs Q E hr ⟨a, ws, e, hl, ha, q⟩ => ?_)
  match ws, hl with
  | [y1], _ =>
    subst e
    rw [hb]
    refine ⟨_, pss_one (ps_ost (pe_var (i := 0) rfl (vis_of v0) (by decide) (by decide)) (pe_var (i := 1) rfl (vis_of v1) g1 g2) ((swaps_sc rfl).trans hs)), ?_⟩
    refine ⟨y1, rfl, .ref a, rfl, a, C, rfl, T, hn, .inl ⟨ha, fun d hd ne => q d hd ne _ ?_ ?_ ?_⟩⟩
    · exact upd_same
    · rw [upd_ne ne, upd_same]; rfl
    · intro b h1 h2
      rw [upd_ne h1, upd_ne h2]
theorem init_2 (T : OexC K C) (F : FnP K "__init__" qual st fI fd) (S : FnScope ["self", x1, x2] ["self", x1, x2] (defScope st)) (hb : defBody st = [.Assign [.Attribute (.Name "self" p1) f1 p2] (.Name x1 p3) p4, .Assign [.Attribute (.Name "self" q1) f2 q2] (.Name x2 q3) q4]) (hn : PySem.W.findIn K (.ref C) f1 = some none) (hn2 : PySem.W.findIn K (.ref C) f2 = some none)
    (v0 : visB (defScope st) "self" = true) (v1 : visB (defScope st) x1 = true) (v2 : visB (defScope st) x2 = true) (g1 : (x1 == ("__debug__" : Str)) = false) (g2 : (x1 == ("__classdict__" : Str)) = false) (g3 : (x2 == ("__debug__" : Str)) = false) (g4 : (x2 == ("__classdict__" : Str)) = false)
    (hs : swapsWith (.Name x1 p3) (some (.Attribute (.Name "self" p1) f1 p2)) p4.line (envS (defScope st)) = pure false) (hs2 : swapsWith (.Name x2 q3) (some (.Attribute (.Name "self" q1) f2 q2)) q4.line (envS (defScope st)) = pure false) : FnOk P w K mg base CX0 (k + 1) fI fd ["self", x1, x2] (spI C [f1, f2]) := by
  refine F.ok S (fun vs H Q E ⟨a, ws, e, hl, _⟩ => by rw [e, List.length_cons, hl]; rfl) (fun cdv A outer s H vs Q E hr ⟨a, ws, e, hl, ha, q⟩ => ?_)
  match ws, hl with
  | [y1, y2], _ =>
    subst e
    rw [hb]
    refine ⟨_, pss_cons (ps_ost (pe_var (i := 0) rfl (vis_of v0) (by decide) (by decide)) (pe_var (i := 1) rfl (vis_of v1) g1 g2) ((swaps_sc rfl).trans hs)) (pss_one (ps_ost (pe_var (i := 0) rfl (vis_of v0) (by decide) (by decide)) (pe_var (i := 2) rfl (vis_of v2) g3 g4) ((swaps_sc rfl).trans hs2))), ?_⟩
    refine ⟨y1, rfl, .ref a, rfl, a, C, rfl, T, hn, .inl ⟨ha, fun d hd ne => ?_⟩⟩
    refine ⟨y2, rfl, .ref a, rfl, a, C, rfl, T, hn2, .inr ⟨d, [(f1, y1)], upd_same, by rw [upd_ne ne, upd_same], by simp, q d hd ne _ ?_ ?_ ?_⟩⟩
    · rw [upd_ne (Ne.symm ne), upd_same]
    · rw [upd_same]; rfl
    · intro b h1 h2
      rw [upd_ne h2, upd_ne h1, upd_ne h2]
theorem init_3 (T : OexC K C) (F : FnP K "__init__" qual st fI fd) (S : FnScope ["self", x1, x2, x3] ["self", x1, x2, x3] (defScope st)) (hb : defBody st = [.Assign [.Attribute (.Name "self" p1) f1 p2] (.Name x1 p3) p4, .Assign [.Attribute (.Name "self" q1) f2 q2] (.Name x2 q3) q4, .Assign [.Attribute (.Name "self" r1) f3 r2] (.Name x3 r3) r4]) (hn : PySem.W.findIn K (.ref C) f1 = some none) (hn2 : PySem.W.findIn K (.ref C) f2 = some none) (hn3 : PySem.W.findIn K (.ref C) f3 = some none)
    (v0 : visB (defScope st) "self" = true) (v1 : visB (defScope st) x1 = true) (v2 : visB (defScope st) x2 = true) (v3 : visB (defScope st) x3 = true) (g1 : (x1 == ("__debug__" : Str)) = false) (g2 : (x1 == ("__classdict__" : Str)) = false) (g3 : (x2 == ("__debug__" : Str)) = false) (g4 : (x2 == ("__classdict__" : Str)) = false) (g5 : (x3 == ("__debug__" : Str)) = false) (g6 : (x3 == ("__classdict__" : Str)) = false)
    (hs : swapsWith (.Name x1 p3) (some (.Attribute (.Name "self" p1) f1 p2)) p4.line (envS (defScope st)) = pure false) (hs2 : swapsWith (.Name x2 q3) (some (.Attribute (.Name "self" q1) f2 q2)) q4.line (envS (defScope st)) = pure false) (hs3 : swapsWith (.Name x3 r3) (some (.Attribute (.Name "self" r1) f3 r2)) r4.line (envS (defScope st)) = pure false) : FnOk P w K mg base CX0 (k + 1) fI fd ["self", x1, x2, x3] (spI C [f1, f2, f3]) := by
  refine F.ok S (fun vs H Q E ⟨a, ws, e, hl, _⟩ => by rw [e, List.length_cons, hl]; rfl) (fun cdv A outer s H vs Q E hr ⟨a, ws, e, hl, ha, q⟩ => ?_)
  match ws, hl with
  | [y1, y2, y3], _ =>
    subst e
    rw [hb]
    refine ⟨_, pss_cons (ps_ost (pe_var (i := 0) rfl (vis_of v0) (by decide) (by decide)) (pe_var (i := 1) rfl (vis_of v1) g1 g2) ((swaps_sc rfl).trans hs)) (pss_cons (ps_ost (pe_var (i := 0) rfl (vis_of v0) (by decide) (by decide)) (pe_var (i := 2) rfl (vis_of v2) g3 g4) ((swaps_sc rfl).trans hs2)) (pss_one (ps_ost (pe_var (i := 0) rfl (vis_of v0) (by decide) (by decide)) (pe_var (i := 3) rfl (vis_of v3) g5 g6) ((swaps_sc rfl).trans hs3)))), ?_⟩
    refine ⟨y1, rfl, .ref a, rfl, a, C, rfl, T, hn, .inl ⟨ha, fun d hd ne => ?_⟩⟩
    refine ⟨y2, rfl, .ref a, rfl, a, C, rfl, T, hn2, .inr ⟨d, [(f1, y1)], upd_same, by rw [upd_ne ne, upd_same], by simp, ?_⟩⟩
    refine ⟨y3, rfl, .ref a, rfl, a, C, rfl, T, hn3, .inr ⟨d, [(f2, y2), (f1, y1)], by rw [upd_ne (Ne.symm ne), upd_same], upd_same, by simp, q d hd ne _ ?_ ?_ ?_⟩⟩
    · rw [upd_ne (Ne.symm ne), upd_ne (Ne.symm ne), upd_same]
    · rw [upd_same]; rfl
    · intro b h1 h2
      rw [upd_ne h2, upd_ne h2, upd_ne h1, upd_ne h2]
end
/-! ## raise -/
def mRaise (n : Str) (fs : List Str) (ms : MF) : MM := fun s => (ms s).bind fun p => if p.1.length = fs.length then some (.ex ⟨n, (fs.zip p.1).reverse⟩ p.2) else none
theorem zip_acc {K : PySem.W.Frag} {H : Hp} : ∀ {fs : List Str} {vs : List V} {ds : List D}, RpAll K H vs ds → vs.length = fs.length → ∀ (acc : List (Str × D)) (acc2 : List (Str × V)), (∀ g y, acc.lookup g = some y → ∃ v, acc2.lookup g = some v ∧ Rp K H v y) → ∀ (g : Str) (y : D), ((fs.zip ds).reverse ++ acc).lookup g = some y → ∃ v, ((fs.zip vs).reverse ++ acc2).lookup g = some v ∧ Rp K H v y
  | [], _, _, _, _, acc, acc2, h1, g, y, e => h1 g y (by simpa using e)
  | f :: r, _, _, .nil, hl, _, _, _, _, _, _ => nomatch hl
  | f :: r, v :: vs, d :: ds, .cons hv hr, hl, acc, acc2, h1, g, y, e => by
    have hl' : vs.length = r.length := by simpa using hl
    simp only [List.zip_cons_cons, List.reverse_cons, List.append_assoc, List.singleton_append] at e ⊢
    refine zip_acc hr hl' ((f, d) :: acc) ((f, v) :: acc2) (fun g y e => ?_) g y e
    rw [List.lookup_cons] at e ⊢
    cases q : (g == f) with
    | true => rw [q] at e; cases e; exact ⟨v, rfl, hv⟩
    | false => rw [q] at e; exact h1 g y e
theorem zip_rel {K : PySem.W.Frag} {H : Hp} {fs : List Str} {vs : List V} {ds : List D} (h : RpAll K H vs ds) (hl : vs.length = fs.length) (g : Str) (y : D) (e : ((fs.zip ds).reverse).lookup g = some y) : ∃ v, ((fs.zip vs).reverse).lookup g = some v ∧ Rp K H v y := by
  have := zip_acc h hl [] [] (fun g y e => by cases e) g y (by rw [List.append_nil]; exact e)
  rwa [List.append_nil] at this
section
variable {Γ : G} {Th : List Nat} {fz : Bool} {O O' Ol W : List Nat} {e : Expr} {es : List Expr} {ms : MF} {p pos pos2 : Pos} {k : Nat} {fI : Addr} {fd : FuncData} {ps fs : List Str} {n : Str}
theorem ss_raise (T : OexC Γ.K (He.ga Γ.K n)) (iC : PySem.W.findIn Γ.K (.ref (He.ga Γ.K n)) "__init__" = some (some (.ref fI))) (tI : PySem.W.typeIn Γ.K (.ref fI) = some (.type "function")) (hf : ∀ n', FnOk Γ.P Γ.w Γ.K Γ.mg Γ.base CX0 (n' + 1) fI fd ps (spI (He.ga Γ.K n) fs)) (hb : Binds Γ.K fd ps []) (hr : Room (k + 2) Γ.A)
    (hg : Γ.sc.names.lookup n = some .globalImplicit) (hm : Γ.mg n = some (.ref (He.ga Γ.K n))) (ha : TrA Γ O Γ.ox W (e :: es) ms) (hW : ∀ j ∈ W, j ∈ O) (hx : ∀ j ∈ Γ.ox, j ∈ O) (hxT : ∀ j ∈ Th, j ∈ Γ.ox) (hfl : fs.length ≤ 1000) (hcm : Γ.calm = true := by rfl)
    (hdb : (n == ("__debug__" : Str)) = false := by decide) (he : ∀ env : Env, starEach (e :: es) env = (false, eval e env) :: starEach es env := by intro _; rfl) (hpl : ∀ env : Env, (backTo pos2 (starEach es env)).any (·.1) = false := by intro _; rfl) :
    TrS Γ Th fz O O' Ol (.Raise (some (.Call (.Name n p) (e :: es) [] pos2)) none pos) (mRaise n fs ms) := by
  obtain ⟨t, pa, sa⟩ := ha
  refine ⟨fun V _ σ H => tMkO (He.ga Γ.K n) (spI (He.ga Γ.K n) fs) [] t σ H fun cls d H' => V cls d σ H', fun X V h kk => ?_, fun c hc σ H s r o e E V w => ?_⟩
  · have eK : X.K = Γ.K := h.g.K
    refine ps_raise (h.g.cm hcm) kk (pmk_oex (CX := CX0) (k := k + 1) (by rw [eK]; exact T) (by rw [eK]; exact iC) (by rw [eK]; exact tI) (h.g.fn (hf k)) (h.g.room hr) (h.g.bd hb) .nil pass0 (h.g.gl hg) (h.g.mgn hm) (pa_nox (pa _ h.g)) hdb (he X.env) (hpl X.env))
  · unfold mRaise at e
    obtain ⟨⟨ds, s1⟩, e1, e2⟩ := bind_of e
    split at e2
    case isFalse => cases e2
    rename_i hlen
    cases e2
    refine sa c σ H s r _ _ e1 _ fun vs H1 r1 x1 d1 => ?_
    have hl : vs.length = fs.length := by rw [dpa_len d1]; exact hlen
    refine ⟨by rw [hl]; exact hfl, fun a na => ⟨a, vs, by rw [List.append_nil], hl, upd_same, fun d hd ne H2 g1 g2 g3 => ⟨rfl, d, _, g1, g2, ?_, ?_⟩⟩⟩
    · rwa [upd_ne ne] at hd
    · have hd1 : H1 d = none := by rwa [upd_ne ne] at hd
      have eH : upd (del H2 a) d (.xd ((fs.zip vs).reverse)) = upd H1 d (.xd ((fs.zip vs).reverse)) := by
        funext b
        by_cases hb : b = d
        · rw [hb, upd_same, upd_same]
        · rw [upd_ne hb, upd_ne hb]
          by_cases hba : b = a
          · rw [hba, del_same, na]
          · rw [del_ne hba, g3 b hba hb, upd_ne hba]
      rw [eH]
      have x2 : Ex H1 (upd H1 d (.xd ((fs.zip vs).reverse))) := ex_upd hd1
      refine ex_out hc hx hxT hW (fun _ z => z) w (r1.ex x2) (x1.trans (ex_hide x2)) ⟨rfl, .inr ⟨d, _, rfl, hide_of (fun z => ?_) upd_same, fun g y hy => ?_⟩⟩
      · obtain ⟨o, z⟩ := msk_there r1 hx d z
        rw [hd1] at z; cases z
      · obtain ⟨v, k1, k2⟩ := zip_rel d1 hl g y hy
        exact ⟨v, k1, dp_ex (ex_hide x2) k2⟩
end
/-- C(), a class without own __init__ -/
theorem pmk_none {X : Cx} {C : Addr} {x : Str} {p pos : Pos} (q : PySem.W.excIn X.K C He.veBase "ValueError.__new__" = true) (gC : X.mg x = some (.ref C)) (kC : PySem.W.keepIn X.K (.ref C) = true) (r : Raises X (.ref C)) (hg : Gl X x) (hdb : (x == ("__debug__" : Str)) = false := by decide) :
    PMk X (.Call (.Name x p) [] [] pos) (fun _ H Q => Q (.ref C) none H) := by
  intro pins s σ H Q I h
  refine wpAny_Call_Name_kw (ld_glob I hg gC ?_ hdb)
  refine PySem.W.callWith_K0 I.kIn kC ?_
  obtain ⟨bmx, Nx, n1, n2, n3, n4, n5, n6, n7, n8, n9, u0, u1, u2, u3, u5, mx, hC, hN, hni, Tx⟩ := exc_obj I.kIn q
  exact wpAny_call_exc_subT PySem.F.excBase_ValueError Tx hC hN hni (fun h' e hm' => mk_of I hm' r h (I.hok.gone hm'.new)) (by show 0 ≤ sizeLine; exact Nat.zero_le _)
section
variable {Γ : G} {Th : List Nat} {fz : Bool} {O O' Ol : List Nat} {p pos pos2 : Pos} {n : Str}
def mRaise0 (n : Str) : MM := fun s => some (.ex ⟨n, []⟩ s)
theorem ss_raise0 (hq : (He.Fa.exc n).ok Γ.K = true) (hg : Γ.sc.names.lookup n = some .globalImplicit) (hm : Γ.mg n = some (.ref (He.ga Γ.K n))) (hx : ∀ j ∈ Γ.ox, j ∈ O) (hxT : ∀ j ∈ Th, j ∈ Γ.ox) (hcm : Γ.calm = true := by rfl) (hdb : (n == ("__debug__" : Str)) = false := by decide) :
    TrS Γ Th fz O O' Ol (.Raise (some (.Call (.Name n p) [] [] pos2)) none pos) (mRaise0 n) := by
  obtain ⟨h1, h2, h3, h4⟩ := He.exc_ok hq
  refine ⟨fun V _ σ H => V (.ref (He.ga Γ.K n)) none σ H, fun X V h kk => ?_, fun c hc σ H s r o e E V w => ?_⟩
  · have eK : X.K = Γ.K := h.g.K
    exact ps_raise (X := X) (h.g.cm hcm) kk (pmk_none (X := X) (by rw [eK]; exact h1) (h.g.mgn hm) (by rw [eK]; exact h2) (raises_own (by rw [eK]; exact h3) (by rw [eK]; exact h4)) (h.g.gl hg) hdb)
  · cases e
    exact ex_out (W := []) hc hx hxT (fun _ z => nomatch z) (fun _ z => z) w r (Ex.refl _) ⟨rfl, .inl ⟨rfl, rfl⟩⟩
end
end Z


namespace Z
open PySem PySem.Spec PyProof.Rows L2
/-! ## what stands of the exception classes, by looks at K -/
def isDef : Stmt → Bool
  | .FunctionDef .. => true
  | _ => false
def initOf : Stmt → Stmt
  | .ClassDef (body := b) .. => (b.find? isDef).getD (.Pass ⟨0, 0, 0, 0⟩)
  | s => s
def initD (n : Str) (q : Str) (st : Stmt) : He.DefD := ⟨(n, some "__init__"), "__init__", q, defArgs st, defBody st, defScope st, [], []⟩
structure RzOk (P : Program) (w : World) (K : PySem.W.Frag) (mg : Str → Option Value) (base : Heap) (n : Str) (fs ps : List Str) : Prop where
  ex : ∃ fI fd, OexC K (He.ga K n) ∧ PySem.W.findIn K (.ref (He.ga K n)) "__init__" = some (some (.ref fI)) ∧ PySem.W.typeIn K (.ref fI) = some (.type "function") ∧ (∀ k, FnOk P w K mg base CX0 (k + 1) fI fd ps (spI (He.ga K n) fs)) ∧ Binds K fd ps []
  mgn : mg n = some (.ref (He.ga K n))
def rzB (K : PySem.W.Frag) (n : Str) (fs : List Str) : Bool := oexB K (He.ga K n) && (decide (PySem.W.findIn K (.ref (He.ga K n)) "__init__" = some (some (.ref (He.ma K (He.ga K n) "__init__")))) && (decide (PySem.W.typeIn K (.ref (He.ma K (He.ga K n) "__init__")) = some (.type "function")) && fs.all fun f => decide (PySem.W.findIn K (.ref (He.ga K n)) f = some none)))
theorem rzB_ok {K : PySem.W.Frag} {n : Str} {fs : List Str} (h : rzB K n fs = true) : OexC K (He.ga K n) ∧ PySem.W.findIn K (.ref (He.ga K n)) "__init__" = some (some (.ref (He.ma K (He.ga K n) "__init__"))) ∧ PySem.W.typeIn K (.ref (He.ma K (He.ga K n) "__init__")) = some (.type "function") ∧ ∀ f ∈ fs, PySem.W.findIn K (.ref (He.ga K n)) f = some none := by
  obtain ⟨h1, h⟩ := Bool.and_eq_true_iff.mp h
  obtain ⟨h2, h⟩ := Bool.and_eq_true_iff.mp h
  obtain ⟨h3, h4⟩ := Bool.and_eq_true_iff.mp h
  exact ⟨oexB_ok h1, of_decide_eq_true h2, of_decide_eq_true h3, fun f hf => of_decide_eq_true (List.all_eq_true.mp h4 f hf)⟩
/-- the classes whose field f is read -/
def AtOk (K : PySem.W.Frag) (ns : List Str) (f : Str) : Prop := ∀ z ∈ ns, XfC K (He.ga K z) ∧ PySem.W.findIn K (.ref (He.ga K z)) f = some none
def atB (K : PySem.W.Frag) (ns : List Str) (f : Str) : Bool := ns.all fun z => xfB K (He.ga K z) && decide (PySem.W.findIn K (.ref (He.ga K z)) f = some none)
theorem atB_ok {K : PySem.W.Frag} {ns : List Str} {f : Str} (h : atB K ns f = true) : AtOk K ns f := fun z hz => by
  obtain ⟨h1, h2⟩ := Bool.and_eq_true_iff.mp (List.all_eq_true.mp h z hz)
  exact ⟨xfB_ok h1, of_decide_eq_true h2⟩
theorem lookup_mem {α : Type} {z : Str} {b : α} : ∀ {l : List (Str × α)}, l.lookup z = some b → (z, b) ∈ l
  | [], h => nomatch h
  | (y, c) :: r, h => by
    rw [List.lookup_cons] at h
    cases e : (z == y) with
    | true =>
      rw [e] at h
      cases h
      rw [beq_iff_eq.mp e]
      exact List.mem_cons_self
    | false =>
      rw [e] at h
      exact List.mem_cons_of_mem _ (lookup_mem h)
def subB (K : PySem.W.Frag) (c : Str) (sub : List (Str × Bool)) : Bool := sub.all fun p => decide (PySem.W.exmOne K (.ref (He.ga K p.1)) (.ref (He.ga K c)) = some p.2)
theorem subB_ok {K : PySem.W.Frag} {c : Str} {sub : List (Str × Bool)} (h : subB K c sub = true) : SubOk K c sub := fun z b e => of_decide_eq_true (List.all_eq_true.mp h (z, b) (lookup_mem e))
def excCB (K : PySem.W.Frag) (D : Addr) : Bool := decide (PySem.W.findIn K (.ref D) "__getattribute__" = some (some (.builtin "BaseException.__getattribute__"))) && (decide (PySem.W.findIn K (.ref D) "__getattr__" = some none) && (decide (PySem.W.subIn K (.ref D) (.type "BaseException") = some true) && (PySem.W.hasDictIn K D && (decide (PySem.W.findIn K (.ref D) "__class__" = some (some (.builtin "object.__class__"))) &&
  (decide (PySem.W.specialIn K (.builtin "object.__class__") "__get__" = some (some (.builtin "getset_descriptor.__get__"))) && (decide (PySem.W.takesIn K (.builtin "object.__class__") = some true) && decide (PySem.W.mroIn K D (.type "object") = some true)))))))
theorem excCB_ok {K : PySem.W.Frag} {D : Addr} (h : excCB K D = true) : ExcC K D := by
  obtain ⟨h1, h⟩ := Bool.and_eq_true_iff.mp h
  obtain ⟨h2, h⟩ := Bool.and_eq_true_iff.mp h
  obtain ⟨h3, h⟩ := Bool.and_eq_true_iff.mp h
  obtain ⟨h4, h⟩ := Bool.and_eq_true_iff.mp h
  obtain ⟨h5, h⟩ := Bool.and_eq_true_iff.mp h
  obtain ⟨h6, h⟩ := Bool.and_eq_true_iff.mp h
  obtain ⟨h7, h8⟩ := Bool.and_eq_true_iff.mp h
  exact ⟨of_decide_eq_true h1, of_decide_eq_true h2, of_decide_eq_true h3, h4, of_decide_eq_true h5, of_decide_eq_true h6, of_decide_eq_true h7, of_decide_eq_true h8⟩
def isB (K : PySem.W.Frag) (c : Str) (sub : List (Str × Bool)) : Bool := sub.all fun p => excCB K (He.ga K p.1) && decide (PySem.W.kitOne K (.ref (He.ga K p.1)) (.ref (He.ga K c)) = some p.2)
theorem isB_ok {K : PySem.W.Frag} {c : Str} {sub : List (Str × Bool)} (h : isB K c sub = true) : IsOk K c sub := fun z b e => by
  obtain ⟨h1, h2⟩ := Bool.and_eq_true_iff.mp (List.all_eq_true.mp h (z, b) (lookup_mem e))
  exact ⟨excCB_ok h1, of_decide_eq_true h2⟩
/-! ## the rules, with the slots at an exception written out -/
section
variable {Γ : G} {Th : List Nat} {fz : Bool} {O O' Ol L W : List Nat} {e : Expr} {es : List Expr} {m : MC} {ms : MF} {p pos pos2 : Pos} {n : Str} {fs ps : List Str} {k : Nat}
theorem sx_set (ox : List Nat) {i : Nat} {x : Str} {p2 : Pos} (hN : Γ.N[i]? = some x) (hv : locB Γ x = true) (he : TrC Γ O O W e m) (ht : i ∉ Th) (hO : ∀ j ∈ O', j ∈ O.filter (· ≠ i)) (hT : ∀ j ∈ Th, j ∈ O') (hW : ∀ j ∈ W, j ∈ O) (hx : ∀ j ∈ ox, j ∈ O) (hxT : ∀ j ∈ Th, j ∈ ox) (eo : Γ.ox = ox := by rfl) (hs : swapsWith e (some (.Name x p2)) pos.line (envS Γ.sc) = pure false := by rfl) :
    TrS Γ Th fz O O' Ol (.Assign [.Name x p2] e pos) (mSetC i m) := by
  subst eo
  exact ss_setC hN hv he ht hO hT hW hx hxT hs
theorem sx_drop (ox : List Nat) (he : TrC Γ O L W e m) (hW : ∀ j ∈ W, j ∈ O) (hx : ∀ j ∈ ox, j ∈ O) (hxT : ∀ j ∈ Th, j ∈ ox) (hL : ∀ j ∈ ox, j ∈ L) (eo : Γ.ox = ox := by rfl) (hs : ∀ env : Env, swapsWith e none pos.line env = pure false := by intro _; rfl) : TrS Γ Th fz O O Ol (.Expr e pos) (mDropC m) := by
  subst eo
  exact ss_dropC he hW hx hxT hL hs
theorem sx_ret (ox : List Nat) (he : TrC Γ O Th W e m) (hW : ∀ j ∈ W, j ∈ O) (hx : ∀ j ∈ ox, j ∈ O) (hxT : ∀ j ∈ Th, j ∈ ox) (hL : ∀ j ∈ ox, j ∈ Th) (eo : Γ.ox = ox := by rfl) : TrS Γ Th false O O' Ol (.Return (some e) pos) (mRetC m) := by
  subst eo
  exact ss_retC he hW hx hxT hL
theorem sx_raise (ox : List Nat) (R : RzOk Γ.P Γ.w Γ.K Γ.mg Γ.base n fs ps) (hr : Room (k + 2) Γ.A) (hg : Γ.sc.names.lookup n = some .globalImplicit) (ha : TrA Γ O ox W (e :: es) ms) (hW : ∀ j ∈ W, j ∈ O) (hx : ∀ j ∈ ox, j ∈ O) (hxT : ∀ j ∈ Th, j ∈ ox) (hfl : fs.length ≤ 1000) (eo : Γ.ox = ox := by rfl) (hcm : Γ.calm = true := by rfl)
    (hdb : (n == ("__debug__" : Str)) = false := by decide) (he : ∀ env : Env, starEach (e :: es) env = (false, eval e env) :: starEach es env := by intro _; rfl) (hpl : ∀ env : Env, (backTo pos2 (starEach es env)).any (·.1) = false := by intro _; rfl) :
    TrS Γ Th fz O O' Ol (.Raise (some (.Call (.Name n p) (e :: es) [] pos2)) none pos) (mRaise n fs ms) := by
  subst eo
  obtain ⟨⟨fI, fd, T, iC, tI, hf, hb⟩, hm⟩ := R
  exact ss_raise (k := k) T iC tI hf hb hr hg hm ha hW hx hxT hfl hcm hdb he hpl
theorem sx_raise0 (ox : List Nat) (hq : (He.Fa.exc n).ok Γ.K = true) (hg : Γ.sc.names.lookup n = some .globalImplicit) (hm : Γ.mg n = some (.ref (He.ga Γ.K n))) (hx : ∀ j ∈ ox, j ∈ O) (hxT : ∀ j ∈ Th, j ∈ ox) (eo : Γ.ox = ox := by rfl) (hcm : Γ.calm = true := by rfl) (hdb : (n == ("__debug__" : Str)) = false := by decide) :
    TrS Γ Th fz O O' Ol (.Raise (some (.Call (.Name n p) [] [] pos2)) none pos) (mRaise0 n) := by
  subst eo
  exact ss_raise0 hq hg hm hx hxT hcm hdb
end
section
variable {Γ : G} {Th : List Nat} {fz : Bool} {Os O O' Ol : List Nat} {body suite : List Stmt} {b₀ : Stmt} {c : Str} {np pos pos' : Pos} {sub : List (Str × Bool)} {m m2 : MM} {u : Exn → MM}
theorem sx_try (ox : List Nat) (hg : Γ.sc.names.lookup c = some .globalImplicit) (hm : Γ.mg c = some (.ref (He.ga Γ.K c))) (hs : SubOk Γ.K c sub) (hb : TrSs { Γ with ox := Os } Th fz O O' Ol body m) (hu : ∀ a, TrSs (Γ.sui a) Th fz Os O' Ol (b₀ :: suite) m2)
    (hx : ∀ j ∈ ox, j ∈ Os) (hxT : ∀ j ∈ Th, j ∈ ox) (eo : Γ.ox = ox := by rfl) (hdb : (c == ("__debug__" : Str)) = false := by decide) : TrS Γ Th fz O O' Ol (.Try body [.ExceptHandler (some (.Name c np)) none (b₀ :: suite) pos'] [] [] pos) (mTry sub m fun _ s => (m2 s).bind noEx) := by
  subst eo
  exact ss_try hg hm hs hb hu hx hxT hdb
theorem sx_tryAs (ox : List Nat) {i : Nat} {y : Str} (hN : Γ.N[i]? = some y) (hy : Γ.sc.names.lookup y = some .local) (hg : Γ.sc.names.lookup c = some .globalImplicit) (hm : Γ.mg c = some (.ref (He.ga Γ.K c))) (hs : SubOk Γ.K c sub) (hb : TrSs { Γ with ox := Os } Th fz O O' Ol body m) (hu : TrU Γ i Th fz Os O' Ol (b₀ :: suite) u)
    (hx : ∀ j ∈ ox, j ∈ Os) (hxT : ∀ j ∈ Th, j ∈ ox) (hi : i ∉ Os) (hi2 : i ∉ O') (hi3 : i ∉ Ol) (hi4 : i ∉ Th) (eo : Γ.ox = ox := by rfl) (hdb : (c == ("__debug__" : Str)) = false := by decide) : TrS Γ Th fz O O' Ol (.Try body [.ExceptHandler (some (.Name c np)) (some y) (b₀ :: suite) pos'] [] [] pos) (mTry sub m (mSui i u)) := by
  subst eo
  exact ss_tryAs hN hy hg hm hs hb hu hx hxT hi hi2 hi3 hi4 hdb
end
theorem fnAtXD {P : Program} {w : World} {K : PySem.W.Frag} {mg : Str → Option Value} {base : Heap} {k : Nat} {x : Str} {st : Stmt} {f : Addr} {fd : FuncData} {ps : List Str} {sp : Sp} (F : FnP K x x st f fd) (G : FnOk P w K mg base (L2.CX P w) k f fd ps sp) (hm : mg x = some (.ref f))
    (h : ∀ (kV doc pm : Value) (an : Option Addr) (cdv ct : Value) (us : List Value), us.length = ps.length → bindArgs (PySem.W.fnOf x x (defArgs st) (defBody st) (defScope st) .none kV doc pm an cdv ct) ⟨us, []⟩ = pure (ps.zip us)) : FnAtX P w K mg base k x ps sp :=
  ⟨f, fd, G, hm, F.kp, F.bindsN h⟩
end Z


namespace Z
open PySem PySem.Spec PyProof.Rows L2
/-! ## defs that call themselves: mirrors by fuel -/
section
variable {P : Program} {w : World} {K : PySem.W.Frag} {mg : Str → Option Value} {base : Heap} {CX : CXT} {k : Nat} {f : Addr} {fd : FuncData} {ps : List Str} {sp : Sp}
theorem fn_zero (h : ∀ vs H Q E, ¬ sp vs H Q E) : FnOk P w K mg base CX k f fd ps sp :=
  ⟨fun vs H Q E hs => absurd hs (h vs H Q E), fun A outer s H args us vs Q E _ _ _ _ hs => absurd hs (h vs H Q E)⟩
theorem zP : ∀ vs H Q E, ¬ spP K (fun _ => none) vs H Q E := fun _ _ _ _ ⟨_, _, _, _, _, e, _⟩ => nomatch e
theorem zL : ∀ vs H Q E, ¬ spL K (fun _ => none) vs H Q E := fun _ _ _ _ ⟨_, _, _, _, _, e, _⟩ => nomatch e
theorem zX : ∀ vs H Q E, ¬ spX K (fun _ => none) vs H Q E := fun _ _ _ _ ⟨_, _, _, _, _, e, _⟩ => nomatch e
theorem zT : ∀ vs H Q E, ¬ spT K (fun _ _ => none) vs H Q E := fun _ _ _ _ ⟨_, _, _, _, _, _, _, _, _, _, _, _, _, _, e, _⟩ => nomatch e
end
/-- the parameters of a def, each given -/
abbrev BindN (K : PySem.W.Frag) (fd : FuncData) (ps : List Str) : Prop := Binds K fd ps []
end Z


namespace Z
open PySem PySem.Spec PyProof.Rows L2
/-! ## sorted, of data that can be compared -/
/-- the items as values: xs, related to ds at Hm -/
def rSortedD (K : PySem.W.Frag) (u0 : Nat) : List V → Hp → VK → Prop := fun vs H Q => ∃ (a : Addr) (xs : List V) (ds : List D) (Hm : Hp), vs = [.ref a] ∧ SqL K H a xs ∧ Ex Hm H ∧ RpAll K Hm xs ds ∧ PySem.W.AllAlike ds ∧ PySem.W.Sortable ds ∧ (∀ d ∈ ds, u0 + 2 + d.depth < cLine) ∧
  ∀ ys p, RpAll K Hm ys (ds.mergeSort (PySem.W.dataLe false id)) → H p = none → Q (.ref p) (upd H p (.lst ys))
theorem each_of {K : PySem.W.Frag} {Hm : Hp} : ∀ {xs : List V} {us : List Value} {ds : List D}, Vals xs us → RpAll K Hm xs ds → PySem.W.EachIs (fun u d => ∃ x, RelV x u ∧ Rp K Hm x d) us ds
  | _, _, _, .nil, .nil => .nil
  | _, _, _, .cons r rs, .cons h hs => .cons ⟨_, r, h⟩ (each_of rs hs)
theorem of_each {K : PySem.W.Frag} {Hm : Hp} : ∀ {us : List Value} {ds : List D}, PySem.W.EachIs (fun u d => ∃ x, RelV x u ∧ Rp K Hm x d) us ds → ∃ ys, Vals ys us ∧ RpAll K Hm ys ds
  | _, _, .nil => ⟨[], .nil, .nil⟩
  | _, _, .cons ⟨x, r, h⟩ t => let ⟨ys, k1, k2⟩ := of_each t; ⟨x :: ys, .cons r k1, .cons h k2⟩
section
variable {X : Cx}
theorem cr_sortedD : CallR X (.builtin "sorted") (rSortedD X.K X.A.units) := by
  intro pins s σ H vs us Q I r h
  obtain ⟨a, xs, ds, Hm, rfl, hs, ex, hd, hal, hk, hu, q⟩ := h
  obtain ⟨its, rv, hl, hz⟩ := I.list hs
  obtain ⟨u, rfl, ru⟩ := vals1 r
  obtain rfl : u = Value.ref a := ru
  have lenE : xs.length = ds.length := dpa_len hd
  have e1 := each_of rv hd
  have er : PySem.W.EachIs (fun v b => ∃ as, Reads s.heap v (id b) as) its ds := e1.mono fun u d ⟨x, k1, k2⟩ => Dp.reads I d x u (Rp.dp (dp_ex ex k2)) k1
  have mid : ds.map id = ds := List.map_id ds
  refine PySem.W.sorted_data (enc := id) (bs := ds) hl.isList e1 er (by rw [mid]; exact hal) (by rw [mid]; exact hk) (by rw [← lenE]; exact hz) (fun d hd => hu d hd) fun out hlen ho => ?_
  obtain ⟨ys, k1, k2⟩ := of_each ho
  have hp : H (s.heap.objs.size + 1) = none := I.hok.fresh (Nat.le_succ _)
  obtain ⟨n, hn⟩ := sortedAll_at s.heap its out.toArray
  refine ⟨.ref (s.heap.objs.size + 1), upd H (s.heap.objs.size + 1) (.lst ys), I.laid (t' := s.toks) (fun b o e => sortedAll_old e) (Nat.le_succ _) ⟨?_, out, n, k1, hn⟩, rfl, q ys _ k2 hp⟩
  have := dpa_len k2
  rw [this, List.length_mergeSort, ← lenE]
  exact hz
end
open Classical in
noncomputable def dSortD (ds : List D) : Option (List D) := if PySem.W.AllAlike ds ∧ PySem.W.Sortable ds ∧ ∀ d ∈ ds, d.depth ≤ 50 then some (ds.mergeSort (PySem.W.dataLe false id)) else none
section
variable {Γ : G} {O L W : List Nat} {a : Expr} {ma : MF} {p pos : Pos}
theorem tf_sortedD (hu : Γ.A.units + 64 < cLine) (hg : Γ.sc.names.lookup ("sorted" : Str) = some .globalImplicit) (hm : Γ.mg "sorted" = none) (ha : TrB Γ O L W a ma) (hW : ∀ j ∈ W, j ∈ O) (hst : ∀ env : Env, starEach [a] env = (false, eval a env) :: starEach [] env := by intro _; rfl) : TrF Γ O L W (.Call (.Name "sorted" p) [a] [] pos) (xfMap dSortD ma) := by
  obtain ⟨ta, pa, sa⟩ := ha
  refine ⟨_, fun X h => pe_callB (r := rSortedD Γ.K Γ.A.units) (id := "sorted") (by rw [← h.K, ← h.A]; exact cr_sortedD) (h.gl hg) (h.mgn hm) (by decide +kernel) (pa_cons (pa X h) pa_nil (hst X.env)) (he := hst X.env), fun c σ H s r ds s' e Q q => ?_⟩
  obtain ⟨es, e1, e2⟩ := xfMap_of e
  refine sa c σ H s r _ _ e1 _ fun p vs H1 r1 x1 rd1 d1 => ?_
  unfold dSortD at e2
  split at e2
  · rename_i hh
    obtain ⟨h1, h2, h3⟩ := hh
    cases e2
    refine ⟨p, vs, es, _, rfl, sql_ex ex_hide0 rd1, ex_hide0, d1, h1, h2, fun d hd => by have := h3 d hd; omega, fun ys p' hy hn => ?_⟩
    exact simF_new (vs := ys) r1 x1 (fresh_of r1 hW x1) hy q p' hn
  · cases e2
end
end Z


namespace Z
open PySem PySem.Spec PyProof.Rows L2
/-! ## rows of mirrors with exceptions (none of them by evaluation) -/
section
variable {α : Type} {s s1 : MS} {as : MF} {x : Exn} {d : D} {ds : List D} {i : Nat} {m : MM} {mc : MC} {o : Out}
@[simp] theorem ret1_so (y : α) (s : MS) : ret1 (some y) s = some (y, s) := by unfold ret1; rw [Option.map_some]
def kCallX (f : List D → Option (D ⊕ Exn)) : List D → MS → Option ((D ⊕ Exn) × MS) := fun ds s => ret1 (f ds) s
theorem xCall_ap (f : List D → Option (D ⊕ Exn)) : xCall f as s = bE (as s) (kCallX f) := rfl
@[simp] theorem kCallX_ap (f : List D → Option (D ⊕ Exn)) : kCallX f ds s = ret1 (f ds) s := by unfold kCallX; rfl
def kO (g : D → MS → Option Out) : (D ⊕ Exn) → MS → Option Out := fun r s => toO g (r, s)
@[simp] theorem kO_l (g : D → MS → Option Out) : kO g (.inl d) s = g d s := by unfold kO toO; rfl
@[simp] theorem kO_r (g : D → MS → Option Out) : kO g (.inr x) s = some (.ex x s) := by unfold kO toO; rfl
def kSC (i : Nat) : D → MS → Option Out := fun d s => some (.nx (s.set i (some d)))
@[simp] theorem kSC_ap : kSC i d s = some (.nx (s.set i (some d))) := by unfold kSC; rfl
def kRC : D → MS → Option Out := fun d s => some (.rt d s)
@[simp] theorem kRC_ap : kRC d s = some (.rt d s) := by unfold kRC; rfl
def kDC : D → MS → Option Out := fun _ s => some (.nx s)
@[simp] theorem kDC_ap : kDC d s = some (.nx s) := by unfold kDC; rfl
theorem mSetC_ap : mSetC i mc s = bE (mc s) (kO (kSC i)) := rfl
theorem mRetC_ap : mRetC mc s = bE (mc s) (kO kRC) := rfl
theorem mDropC_ap : mDropC mc s = bE (mc s) (kO kDC) := rfl
def tryO (sub : List (Str × Bool)) (u : Exn → MM) : Option Out → Option Out := fun o => o.bind fun o => match o with
  | .ex x s1 => (sub.lookup x.cls).bind fun b => if b = true then u x s1 else some (.ex x s1)
  | o => some o
theorem mTry_ap (sub : List (Str × Bool)) (u : Exn → MM) : mTry sub m u s = tryO sub u (m s) := rfl
@[simp] theorem tryO_nx (sub : List (Str × Bool)) (u : Exn → MM) : tryO sub u (some (.nx s)) = some (.nx s) := by unfold tryO; rw [Option.bind_some]
@[simp] theorem tryO_rt (sub : List (Str × Bool)) (u : Exn → MM) : tryO sub u (some (.rt d s)) = some (.rt d s) := by unfold tryO; rw [Option.bind_some]
@[simp] theorem tryO_bk (sub : List (Str × Bool)) (u : Exn → MM) : tryO sub u (some (.bk s)) = some (.bk s) := by unfold tryO; rw [Option.bind_some]
@[simp] theorem tryO_ct (sub : List (Str × Bool)) (u : Exn → MM) : tryO sub u (some (.ct s)) = some (.ct s) := by unfold tryO; rw [Option.bind_some]
def pickU (u : Exn → MM) (x : Exn) (s : MS) : Option Bool → Option Out := fun b => b.bind fun b => if b = true then u x s else some (.ex x s)
@[simp] theorem tryO_ex (sub : List (Str × Bool)) (u : Exn → MM) : tryO sub u (some (.ex x s)) = pickU u x s (sub.lookup x.cls) := by unfold tryO; rw [Option.bind_some]; rfl
@[simp] theorem pickU_t (u : Exn → MM) : pickU u x s (some true) = u x s := by unfold pickU; rw [Option.bind_some, if_pos rfl]
@[simp] theorem pickU_f (u : Exn → MM) : pickU u x s (some false) = some (.ex x s) := by unfold pickU; rw [Option.bind_some, if_neg (by decide)]
def goneO (i : Nat) (o : Option Out) : Option Out := o.map (gone i)
@[simp] theorem goneO_nx : goneO i (some (.nx s)) = some (.nx (s.set i none)) := by unfold goneO; rw [Option.map_some]; rfl
@[simp] theorem goneO_rt : goneO i (some (.rt d s)) = some (.rt d s) := by unfold goneO; rw [Option.map_some]; rfl
@[simp] theorem goneO_ex : goneO i (some (.ex x s)) = some (.ex x s) := by unfold goneO; rw [Option.map_some]; rfl
@[simp] theorem goneO_bk : goneO i (some (.bk s)) = some (.bk (s.set i none)) := by unfold goneO; rw [Option.map_some]; rfl
@[simp] theorem goneO_ct : goneO i (some (.ct s)) = some (.ct (s.set i none)) := by unfold goneO; rw [Option.map_some]; rfl
theorem mSui_ap (u : Exn → MM) : mSui i u x s = if i < s.length then goneO i (u x (s.set i none)) else none := rfl
theorem dAttr_ap (ns : List Str) (f : Str) : dAttr ns f x s = if x.cls ∈ ns then ret1 (x.fs.lookup f) s else none := rfl
theorem dIsX_ap (sub : List (Str × Bool)) : dIsX sub x s = bE (ret1 (sub.lookup x.cls) s) fun b s => some (.bool b, s) := by
  unfold dIsX ret1 bE
  cases sub.lookup x.cls with
  | none => rfl
  | some b => rw [Option.map_some, Option.map_some, Option.bind_some]
def kRaise (n : Str) (fs : List Str) : List D → MS → Option Out := fun ds s => if ds.length = fs.length then some (.ex ⟨n, (fs.zip ds).reverse⟩ s) else none
theorem mRaise_ap (n : Str) (fs : List Str) : mRaise n fs as s = bE (as s) (kRaise n fs) := rfl
@[simp] theorem kRaise_ap (n : Str) (fs : List Str) : kRaise n fs ds s = if ds.length = fs.length then some (.ex ⟨n, (fs.zip ds).reverse⟩ s) else none := by unfold kRaise; rfl
end
theorem lookup_os (a b : String) (v : α) (r : List (Str × α)) : List.lookup (Str.ofString a) ((Str.ofString b, v) :: r) = if a = b then some v else List.lookup (Str.ofString a) r := by
  rw [List.lookup_cons]
  by_cases e : a = b
  · subst e; simp
  · have : (Str.ofString a == Str.ofString b) = false := by
      rw [beq_eq_false_iff_ne]; exact fun q => e (ofString_inj.mp q)
    rw [this, if_neg e]
end Z


namespace Z
open PySem PySem.Spec PyProof.Rows L2
/-! ## text.replace(y, z, 1), behind a test that writes a text -/
section
open Builtin Builtin.Str
def R1 (y z x : Str) : Str := if ((occurrences x y 0 x.length 1).isEmpty || (y.length == 0 && z.length == 0)) = true then x else glued z (partsBetween x (occurrences x y 0 x.length 1) y.length)
def rpl1 (y z x : Str) : Option Str := if tooLong (x.length + (occurrences x y 0 x.length 1).length * z.length) = false ∧ (R1 y z x).length ≤ sizeLine then some (R1 y z x) else none
theorem gives_rep1 (x y z : Str) (t u v w : Tok) (hu : (u == 0 || v == 0) = false) (huv : (u == v) = false) (hyz : (y == z) = false) (hl : tooLong (x.length + (occurrences x y 0 x.length 1).length * z.length) = false) :
    Gives («str.replace» ⟨[.str x t, .str y u, .str z v, .int 1 w], []⟩) (if ((occurrences x y 0 x.length 1).isEmpty || (y.length == 0 && z.length == 0)) = true then .val (.str x t) else .str (glued z (partsBetween x (occurrences x y 0 x.length 1) y.length))) := by
  have e : «str.replace» ⟨[.str x t, .str y u, .str z v, .int 1 w], []⟩ = (if ((occurrences x y 0 x.length 1).isEmpty || (y.length == 0 && z.length == 0)) = true then (do rule "str.replace.nothing"; ret (.str x t)) else
          (do let same ← isSame (.str y u) (.str z v)
              if same = true then (do rule "str.replace.old-is-new"; ret (.str x t)) else
              if tooLong (x.length + (occurrences x y 0 x.length 1).length * z.length) = true then unsupported "str.replace:memory" else
              retStr (glued z (partsBetween x (occurrences x y 0 x.length 1) y.length)))) := by
    show (do let limit ← countLimit "str.replace" (some (.int 1 w)) (x.length + 1); _) = _
    rw [countLimit_int "str.replace" 1 w (x.length + 1) (by decide)]
    rfl
  rw [e]
  cases hc : ((occurrences x y 0 x.length 1).isEmpty || (y.length == 0 && z.length == 0))
  · rw [isSame_str_other y z u v hu huv hyz, hl]
    exact .of_eq rfl
  · exact .rule (.of_eq rfl)
theorem call_rep1 {prog : Program} {w : World} {A : Around} {E : Value → Shared → Prop} {s : Shared} {x y z r : Str} {t u v w1 : Tok} {Q : Value → Shared → Prop} (hu : u ≠ 0) (hv : v ≠ 0) (huv : u ≠ v) (hyz : (y == z) = false) (hr : rpl1 y z x = some r)
    (hq : ∀ t' k, Q (.str r t') { s with toks := k }) : wpAny (model prog w) A (call (.builtin "str.replace") [.str x t, .str y u, .str z v, .int 1 w1]) Q E s := by
  unfold rpl1 at hr
  split at hr
  · rename_i h
    obtain ⟨hl, hs⟩ := h
    cases hr
    refine call_gives F.slot_str_replace (typeIs_str _ _ _) F.entry_str_replace (F.args_str_replace_4 _ _ _ _) (gives_rep1 x y z t u v w1 (by simp [hu, hv]) (by simp [huv]) hyz hl) ?_
    unfold R1 at hq hs
    cases hc : ((occurrences x y 0 x.length 1).isEmpty || (y.length == 0 && z.length == 0))
    · rw [hc] at hq hs
      simp only [Bool.false_eq_true, if_false] at hq hs ⊢
      exact ⟨hs, hq _ _⟩
    · rw [hc] at hq
      simp only [if_true] at hq ⊢
      exact hq t s.toks
  · cases hr
end
section
variable {X : Cx} {o b : Expr} {to tb : TE} {y z x c : Str} {j j1 k l : Nat} {c0 c1 c2 cp apos pos : Pos}
theorem call_three {prog : Program} {w : World} {A : Around} {E : Value → Shared → Prop} {env : Env} {s : Shared} {o a1 a2 a3 : Expr} {name : Str} {apos pos : Pos} {Q : Value → Shared → Prop} (hbase : attributeBase o name env (eval o env) = eval o env) (hs : starEach [a1, a2, a3] env = [(false, eval a1 env), (false, eval a2 env), (false, eval a3 env)]) (hline : (apos.endLine == pos.line) = true)
    (h : wpAny (model prog w) A (eval o env) (fun ov s₁ => MethodOnS prog w A E name ov pos [(false, eval a1 env), (false, eval a2 env), (false, eval a3 env)] Q s₁) E s) : wpAny (model prog w) A (eval (.Call (.Attribute o name apos) [a1, a2, a3] [] pos) env) Q E s := by
  refine wpAny_Call_method_lateS hbase (by rw [hs]; rfl) hline ?_
  rwa [hs]
def tRep1 (to : TE) (y z : Str) : TE := fun σ H Q => to σ H fun v H1 => ∃ x r, v = .str x ∧ rpl1 y z x = some r ∧ Q (.str r) H1
theorem pet_rep1 (ho : PE X o to) (hyz : (y == z) = false := by decide)
    (hst : starEach [.Constant (.str y) j c0, .Constant (.str z) k c1, .Constant (.int 1) l c2] X.env = [(false, eval (.Constant (.str y) j c0) X.env), (false, eval (.Constant (.str z) k c1) X.env), (false, eval (.Constant (.int 1) l c2) X.env)] := by rfl)
    (hbase : attributeBase o "replace" X.env (eval o X.env) = eval o X.env := by rfl) (hline : (apos.endLine == pos.line) = true := by rfl) :
    PET X (.Call (.Attribute o "replace" apos) [.Constant (.str y) j c0, .Constant (.str z) k c1, .Constant (.int 1) l c2] [] pos) (tRep1 to y z) := by
  intro pins s σ H Q h0 I h
  refine call_three hbase hst hline (wpAny_mono (PySem.wpAny_toks (ho.run pins s σ H _ I h)) (fun v s1 q => ?_) fun _ _ z => z.2)
  obtain ⟨hk, v', H1, I1, r1, x, r, e1, er, q⟩ := q
  subst e1
  obtain ⟨tx, e2⟩ := r1
  subst e2
  refine ⟨"str", _, PySem.F.plainAttrs_str, PySem.F.slot_str_replace, PySem.F.type_str_replace, typeIs_str _ _ _, (fun _ e => nomatch e), Calls.callWith_builtin rfl (Calls.evalArgs_plain (Calls.spliced_cons ?_))⟩
  refine Calls.Constant_str (Calls.spliced_cons (Calls.Constant_str (Calls.spliced_cons (wpAny_Constant_int (Calls.spliced_nil ?_)))))
  exact call_rep1 (by show s1.toks ≠ 0; omega) (by show s1.toks + 1 ≠ 0; omega) (by show s1.toks ≠ s1.toks + 1; omega) hyz er fun t' k => ⟨.str r, H1, I1.tok k, ⟨t', rfl⟩, q⟩
theorem pst_setT {i : Nat} {x : Str} {e : Expr} {te : TE} {pos' : Pos} (hN : X.N.Nodup) (hi : X.N[i]? = some x) (hx : Loc X.env.scope x) (he : PET X e te) (hs : swapsWith e (some (.Name x pos')) pos.line X.env = pure false) (hf : X.fn x = true ∨ X.env.scope.names.lookup x = some .local) :
    PST X (.Assign [.Name x pos'] e pos) (tAsg te (gName i)) := by
  intro pins s σ H D h0 I h
  refine wpAny_Assign_Name (thn (he pins s σ H _ h0 I h) fun v s1 ⟨y, H1, I1, r1, q1⟩ => ?_) hs
  exact store_ok I1 hN hi hx r1 (fun s2 I2 => ⟨_, H1, I2, q1⟩) hf
theorem pst_nox {st : Stmt} {t : TS} (h : PST X.nox st t) : PST X st t := fun pins s σ H D h0 I hw =>
  wpAny_mono (h pins s σ H D h0 (I.wish _) hw) (fun _ _ q => q.unwish) fun _ _ z => False.elim z
/-- a test that writes a text: behind it a token is out -/
def PT1 (X : Cx) (e : Expr) (t : TT) : Prop := ∀ (pins : List (Addr × Obj)) (s : Shared) (σ : L2.St) (H : Hp) (Q : Bool → Hp → Prop), Inv X pins σ H s → t σ H Q → wpAny (model X.prog X.w) X.A (isTrue e X.env (eval e X.env)) (fun d s1 => 1 ≤ s1.toks ∧ TP X pins σ Q d s1) X.xe s
theorem pt1_nox {e : Expr} {t : TT} (h : PT1 X.nox e t) : PT1 X e t := fun pins s σ H Q I hw =>
  wpAny_mono (h pins s σ H Q (I.wish _) hw) (fun _ _ q => ⟨q.1, let ⟨H', i, q'⟩ := q.2; ⟨H', i.unwish, q'⟩⟩) fun _ _ z => False.elim z
theorem pt1_cmp {op : CmpOp} {r : R2} (ho : OpR X (compareOp op) r) (hb : PE X b tb) (hm : behindInMarks op b = false) : PT1 X (.Compare (.Constant (.str c) j cp) [op] [b] pos) (tTest (tOp r (tC (.str c)) tb)) := by
  intro pins s σ H Q I h
  refine wpAny_isTrue_Compare1 (Calls.Constant_str ?_) hm
  have I0 : Inv X pins σ H { s with toks := s.toks + 1 } := I.tok _
  refine wpAny_mono (PySem.wpAny_toks (hb.run pins { s with toks := s.toks + 1 } σ H _ I0 h)) (fun u s2 q => ?_) fun _ _ z => z.2
  obtain ⟨hk, y, H2, I2, r2, q2⟩ := q
  have hk : s.toks + 1 ≤ s2.toks := hk
  refine wpAny_mono (PySem.wpAny_toks (ho pins s2 σ H2 (.str c) y (.str c s.toks) u _ I2 ⟨_, rfl⟩ r2 q2)) (fun d s3 q => ?_) fun _ _ z => z.2
  obtain ⟨hk2, z, H3, I3, r3, k, e, q3⟩ := q
  subst e
  cases r3
  exact wpAny_truthy_bool ⟨by omega, H3, I3, q3⟩
theorem ps_if1 {c : Expr} {a b : List Stmt} {tc : TT} {t u : TS} (hc : PT1 X c tc) (ha : PSsT X a t) (hb : PSs X b u) : PS X (.If c a b pos) (tIfS tc t u) := by
  refine ⟨fun pins s σ H D I h => ?_⟩
  refine wpAny_If (thn (hc pins s σ H _ I h) fun d s1 ⟨hk, H1, I1, q1⟩ => ?_)
  cases d with
  | true => exact ha pins s1 σ H1 D hk I1 q1
  | false => exact hb.run pins s1 σ H1 D I1 q1
end
def dRpl (y z : Str) : D → Option D
  | .str x => (rpl1 y z x).map .str
  | _ => none
theorem sim_rep {K : PySem.W.Frag} {O L W : List Nat} {to : TE} {mo : ME} {y z : Str} (ha : SimE K O L W to mo) : SimE K O L W (tRep1 to y z) (xUn (dRpl y z) mo) := fun c σ H s r d s' e Q q => by
  obtain ⟨x, e1, e2⟩ := xUn_of e
  refine ha c σ H s r _ _ e1 _ fun v H' r' ex hd => ?_
  cases hd <;> first | (cases e2; done) | skip
  rename_i x
  simp only [dRpl, Option.map_eq_some_iff] at e2
  obtain ⟨r0, e3, rfl⟩ := e2
  exact ⟨x, r0, rfl, e3, q _ H' r' ex (.str r0)⟩
section
variable {Γ : G} {Th : List Nat} {fz : Bool} {O O' Ol : List Nat} {b l o : Expr} {sts2 : List Stmt} {mb ml mo : ME} {m2 : MM} {c y z : Str} {j jy jz j1 : Nat} {cp pc cy cz c1 apos p2 p3 p4 p5 p6 : Pos}
/-- if c in b: x = l + o.replace(y, z, 1) -/
theorem ss_ifRep {op : CmpOp} {op2 : Operator} {r r2 : R2} {f f2 : D → D → Option D} {i : Nat} {x : Str} (ho : ∀ X, InG Γ X → OpR X (compareOp op) r) (hr : RS Γ.K r f) (hb : TrE Γ O [] [] b mb) (hm : behindInMarks op b = false) (ho2 : ∀ X, InG Γ X → OpR X (binaryOp op2) r2) (hr2 : RS Γ.K r2 f2) (hl : TrE Γ O O [] l ml) (hp : TrE Γ O O [] o mo)
    (hN : Γ.N[i]? = some x) (hv : locB Γ x = true) (ht : i ∉ Th) (hO : ∀ j ∈ O', j ∈ O.filter (· ≠ i)) (hT : ∀ j ∈ Th, j ∈ O') (he : TrSs Γ Th fz O O' Ol sts2 m2)
    (hyz : (y == z) = false := by decide) (hline : (apos.endLine == p3.line) = true := by rfl)
    (hst : ∀ env : Env, starEach [.Constant (.str y) jy cy, .Constant (.str z) jz cz, .Constant (.int 1) j1 c1] env = [(false, eval (.Constant (.str y) jy cy) env), (false, eval (.Constant (.str z) jz cz) env), (false, eval (.Constant (.int 1) j1 c1) env)] := by intro _; rfl)
    (hbase : ∀ env : Env, attributeBase o "replace" env (eval o env) = eval o env := by intro _; rfl)
    (hs : ∀ env : Env, swapsWith (.BinOp l op2 (.Call (.Attribute o "replace" apos) [.Constant (.str y) jy cy, .Constant (.str z) jz cz, .Constant (.int 1) j1 c1] [] p3) p4) (some (.Name x p2)) p5.line env = pure false := by intro _; rfl) :
    TrS Γ Th fz O O' Ol (.If (.Compare (.Constant (.str c) j cp) [op] [b] pc) [.Assign [.Name x p2] (.BinOp l op2 (.Call (.Attribute o "replace" apos) [.Constant (.str y) jy cy, .Constant (.str z) jz cz, .Constant (.int 1) j1 c1] [] p3) p4) p5] sts2 p6) (mIf (xT (xOp f (xC (.str c)) mb)) (mSet i (xOp f2 ml (xUn (dRpl y z) mo))) m2) := by
  obtain ⟨tb, pb, sb⟩ := hb
  obtain ⟨tl, pl, sl⟩ := hl
  obtain ⟨to, po, so⟩ := hp
  obtain ⟨v, pv, sv⟩ := he
  have sc : SimE Γ.K O [] [] (tC (.str c)) (xC (.str c)) := fun c σ H s r d s' e Q q => by cases e; exact q _ H r refl_hide (.str _)
  have sT := sim_test (L := []) (sim_opS (L := []) hr sc sb (fun _ z => z))
  have sE : SimE Γ.K O O [] (tOp r2 tl (tRep1 to y z)) (xOp f2 ml (xUn (dRpl y z) mo)) := sim_opS hr2 sl (sim_rep so) (fun _ z => by cases z)
  refine ⟨fun W => tIfS (tTest (tOp r (tC (.str c)) tb)) (tAsg (tOp r2 tl (tRep1 to y z)) (gName i)) (v W), fun X W h k => ps_if1 (pt1_nox (pt1_cmp (ho _ h.g) (pb _ h.g) hm)) (CwR.psst_one (pst_nox (pst_setT h.g.ndX (h.g.nx hN) (h.g.loc hv).1 (CwR.pet_op (ho2 _ h.g) (CwR.PET.of (pl _ h.g)) (pet_rep1 (po _ h.g) hyz (hst _) (hbase _) hline)) (hs _) (h.g.loc hv).2))) (pv X W h k), fun cn hc σ H s r o e E W w => ?_⟩
  unfold mIf at e
  obtain ⟨⟨k, s1⟩, e1, e2⟩ := bind_of e
  refine sT cn σ H s r _ _ e1 _ fun H1 r1 x1 => ?_
  have w1 := w.after (Fr.of_ex (O := O) (fun _ z => by cases z) x1)
  cases k with
  | true =>
    rw [if_pos rfl] at e2 ⊢
    unfold mSet at e2
    obtain ⟨pr, e3, rfl⟩ := mapNx_of e2
    refine sE cn σ H1 s1 r1 _ _ e3 _ fun v H2 r2 x2 d2 => ?_
    obtain ⟨r3, x3⟩ := setR r2 d2 (by rw [hc]; exact ht) hO (by rw [hc]; exact hT)
    exact w1.nx _ _ H2 rfl r3 ((Fr.of_ex (fun _ z => by cases z) x2).trans x3)
  | false =>
    rw [if_neg Bool.false_ne_true] at e2 ⊢
    exact sv cn hc σ H1 s1 r1 o e2 E W w1
end
end Z


namespace Z
open PySem PySem.Spec PyProof.Rows L2
/-! ## is True, is False -/
def dIsB : D → D → Option D
  | .bool a, .bool b => some (.bool (decide (a = b)))
  | _, _ => none
def dNotB : D → D → Option D
  | .bool a, .bool b => some (.bool (!decide (a = b)))
  | _, _ => none
theorem rs_isB {K : PySem.W.Frag} : RS K rIsB dIsB := fun H x y dx dy dz hx hy e Q q => by
  cases dx <;> cases dy <;> cases e
  cases hx; cases hy
  exact ⟨_, _, rfl, rfl, q _ fun M => .bl _⟩
theorem rs_notB {K : PySem.W.Frag} : RS K rNotB dNotB := fun H x y dx dy dz hx hy e Q q => by
  cases dx <;> cases dy <;> cases e
  cases hx; cases hy
  exact ⟨_, _, rfl, rfl, q _ fun M => .bl _⟩
section
variable {Γ : G}
theorem ho_isB : ∀ X, InG Γ X → OpR X (compareOp .Is) rIsB := fun _ _ => op_isBl
theorem ho_notB : ∀ X, InG Γ X → OpR X (compareOp .IsNot) rNotB := fun _ _ => op_notBl
end
/-! ## gcd, brought in by a name -/
def dGcd : List D → Option D
  | [.int a, .int b] => some (.int ((Nat.gcd a.natAbs b.natAbs : Nat) : Int))
  | _ => none
theorem rc_gcd {K : PySem.W.Frag} : RCS K rGcd dGcd := fun H vs ds dz h e Q q => by
  unfold dGcd at e
  split at e
  · cases e
    cases h with | cons h a => cases a with | cons h2 a2 => cases a2; cases h; cases h2; exact ⟨_, _, rfl, q _ fun M => .int _⟩
  · cases e
section
variable {Γ : G} {O L L0 W : List Nat} {e : Expr} {es : List Expr} {ms : MF} {x : Str} {p pos : Pos}
theorem tr_gcd (hg : Γ.sc.names.lookup x = some .globalImplicit) (hm : Γ.mg x = some (.builtin "math.gcd")) (ha : TrA Γ O L0 W (e :: es) ms)
    (hdb : (x == ("__debug__" : Str)) = false := by decide) (he : ∀ env : Env, starEach (e :: es) env = (false, eval e env) :: starEach es env := by intro _; rfl) (hpl : ∀ env : Env, (backTo pos (starEach es env)).any (·.1) = false := by intro _; rfl) :
    TrE Γ O L W (.Call (.Name x p) (e :: es) [] pos) (xFn dGcd ms) := by
  obtain ⟨t, pa, sa⟩ := ha
  exact ⟨_, fun X h => pe_callBfun cr_gcd (h.gl hg) (h.mgn hm) (pa X h) hdb (he X.env) (hpl X.env), sim_cb rc_gcd sa⟩
end
/-- a global that is a built-in function -/
def bfB (K : PySem.W.Frag) (x : Str) (id : String) : Bool := He.eqO (PySem.W.nsIn K mainGlobals x) (some (some (.builtin id)))
theorem bfB_ok {K : PySem.W.Frag} {h : Heap} {mg : Str → Option Value} {x : Str} {id : String} (X : K.In h) (G : h.Ns mainGlobals mg) (e : bfB K x id = true) : mg x = some (.builtin id) := PySem.W.mg_of X G (He.eqO_ok e)
/-! ## a comparison in an except suite -/
section
variable {Γ : G} {i : Nat} {O L L0 W : List Nat} {a b : Expr} {r : R2} {f : D → D → Option D} {pos : Pos}
theorem te_cmp {op : CmpOp} {ma mb : Exn → ME} (ho : ∀ A X, InG (Γ.sui A) X → OpR X (compareOp op) r) (hr : RS Γ.K r f) (ha : TrXE Γ i O L0 W a ma) (hb : TrXE Γ i O L0 W b mb) (hW : ∀ j ∈ W, j ∈ L0) (hW2 : ∀ j ∈ W, j ∈ O) (hm : behindInMarks op b = false) :
    TrXE Γ i O L W (.Compare a [op] [b] pos) (fun x => xOp f (ma x) (mb x)) := by
  obtain ⟨ta, pa, qa⟩ := ha
  obtain ⟨tb, pb, qb⟩ := hb
  refine ⟨fun a cls d => tOp r (ta a cls d) (tb a cls d), fun X a oe cls d pn hX hz hf => pe_cmpR (ho a _ (hX.sui (a := a) (pn := (a, oe) :: pn))) (pa X a oe cls d pn hX hz hf) (pb X a oe cls d pn hX hz hf) hm, fun c σ H s a cls d x r0 jx r1 s' e Q q => ?_⟩
  obtain ⟨x1, s1, y, e1, e2, e3⟩ := xOp_of e
  refine qa c σ H s a cls d x r0 jx _ _ e1 _ fun v H1 r1' k1 d1 => ?_
  refine qb c σ H1 s1 a cls d x r1' (jx.ex hW2 k1) _ _ e2 _ fun u H2 r2 k2 d2 => ?_
  exact hr H2 v u _ _ _ (dp_ex ex_hide0 (dp_ex (keep hW k2) d1)) (dp_ex ex_hide0 d2) e3 Q fun z hz => q z H2 r2 (k1.trans k2) (hz _)
end
/-! ## in a written dict of the module -/
def rInK (K : PySem.W.Frag) (q : Addr) (neg : Bool) : R2 := fun x y H Q => ∃ (z : Str) (r : Option Value), x = .str z ∧ y = .ref q ∧ PySem.W.nsIn K q z = some r ∧ Q (.bl (r.isSome != neg)) H
def dInK (f : Str → Option D) (neg : Bool) : D → Option D
  | .str z => some (.bool ((f z).isSome != neg))
  | _ => none
theorem kd_in {X : Cx} {q : Addr} (D : ∃ es n, KDict X.K X.w q es n) : OpR X (compareOp .In) (rInK X.K q false) := by
  obtain ⟨es, n, D⟩ := D
  intro pins s σ H x y v u Q I rx ry h
  obtain ⟨z, r, e1, e2, e3, e4⟩ := h
  exact op_in_kd D pins s σ H x y v u Q I rx ry ⟨z, r, e1, e2, e3, by simpa using e4⟩
theorem kd_nin {X : Cx} {q : Addr} (D : ∃ es n, KDict X.K X.w q es n) : OpR X (compareOp .NotIn) (rInK X.K q true) := by
  obtain ⟨es, n, D⟩ := D
  intro pins s σ H x y v u Q I rx ry h
  obtain ⟨z, r, e1, e2, e3, e4⟩ := h
  exact op_notIn_kd D pins s σ H x y v u Q I rx ry ⟨z, r, e1, e2, e3, by cases hr : r.isSome <;> rw [hr] at e4 <;> simpa [hr] using e4⟩
theorem sim_inK {K : PySem.W.Frag} {w : World} {O L L0 W : List Nat} {te : TE} {me : ME} {q : Addr} {f : Str → Option D} {neg : Bool} (hd : KDg K w q f) (he : SimE K O L0 W te me) : SimE K O L W (tOp (rInK K q neg) te (tC (.ref q))) (xUn (dInK f neg) me) := fun c σ H s r d s' e Q k => by
  obtain ⟨x, e1, e2⟩ := xUn_of e
  refine he c σ H s r _ _ e1 _ fun v H1 r1 x1 d1 => ?_
  cases d1 <;> first | (cases e2; done) | skip
  rename_i z
  cases e2
  rcases hd.2 z with ⟨d0, w0, e3, ⟨es, n, r0, D, e4, e5⟩, _⟩ | ⟨e3, ⟨es, n, r0, D, e4, e5⟩⟩
  · rcases e5 with ⟨a, _⟩ | ⟨v1, u1, a, b, _⟩
    · cases a
    · subst b
      refine ⟨z, _, rfl, rfl, e4, k _ H1 r1 x1 ?_⟩
      rw [e3]; exact .bl _
  · rcases e5 with ⟨_, b⟩ | ⟨v1, u1, a, b, _⟩
    · subst b
      refine ⟨z, _, rfl, rfl, e4, k _ H1 r1 x1 ?_⟩
      rw [e3]; exact .bl _
    · cases a
section
variable {Γ : G} {O L L0 W : List Nat} {e : Expr} {me : ME} {px pos : Pos} {x : Str} {q : Addr} {ft : Str → Option D}
theorem tr_inK (hg : Γ.sc.names.lookup x = some .globalImplicit) (hm : Γ.mg x = some (.ref q)) (hd : KDg Γ.K Γ.w q ft) (he : TrE Γ O L0 W e me) (hdb : (x == ("__debug__" : Str)) = false := by decide) :
    TrE Γ O L W (.Compare e [.In] [.Name x px] pos) (xUn (dInK ft false) me) := by
  obtain ⟨t, p, s⟩ := he
  exact ⟨tOp (rInK Γ.K q false) t (tC (.ref q)), fun X h => by
    rw [← h.K]
    exact pe_cmpR (kd_in (by rw [h.K, h.w]; exact hd.1)) (p X h) (pe_glob (v := .ref q) (h.gl hg) (h.mgn hm) rfl hdb) rfl, sim_inK hd s⟩
theorem tt_inK (hg : Γ.sc.names.lookup x = some .globalImplicit) (hm : Γ.mg x = some (.ref q)) (hd : KDg Γ.K Γ.w q ft) (he : TrE Γ O L0 W e me) (hdb : (x == ("__debug__" : Str)) = false := by decide) :
    TrT Γ O W (.Compare e [.In] [.Name x px] pos) (xT (xUn (dInK ft false) me)) := by
  obtain ⟨t, p, s⟩ := he
  exact ⟨tTest (tOp (rInK Γ.K q false) t (tC (.ref q))), fun X h => by
    rw [← h.K]
    exact pt_cmpR (kd_in (by rw [h.K, h.w]; exact hd.1)) (p X h) (pe_glob (v := .ref q) (h.gl hg) (h.mgn hm) rfl hdb) rfl, sim_test (L := []) (sim_inK hd s)⟩
theorem tr_ninK (hg : Γ.sc.names.lookup x = some .globalImplicit) (hm : Γ.mg x = some (.ref q)) (hd : KDg Γ.K Γ.w q ft) (he : TrE Γ O L0 W e me) (hdb : (x == ("__debug__" : Str)) = false := by decide) :
    TrE Γ O L W (.Compare e [.NotIn] [.Name x px] pos) (xUn (dInK ft true) me) := by
  obtain ⟨t, p, s⟩ := he
  exact ⟨tOp (rInK Γ.K q true) t (tC (.ref q)), fun X h => by
    rw [← h.K]
    exact pe_cmpR (kd_nin (by rw [h.K, h.w]; exact hd.1)) (p X h) (pe_glob (v := .ref q) (h.gl hg) (h.mgn hm) rfl hdb) rfl, sim_inK hd s⟩
theorem tt_ninK (hg : Γ.sc.names.lookup x = some .globalImplicit) (hm : Γ.mg x = some (.ref q)) (hd : KDg Γ.K Γ.w q ft) (he : TrE Γ O L0 W e me) (hdb : (x == ("__debug__" : Str)) = false := by decide) :
    TrT Γ O W (.Compare e [.NotIn] [.Name x px] pos) (xT (xUn (dInK ft true) me)) := by
  obtain ⟨t, p, s⟩ := he
  exact ⟨tTest (tOp (rInK Γ.K q true) t (tC (.ref q))), fun X h => by
    rw [← h.K]
    exact pt_cmpR (kd_nin (by rw [h.K, h.w]; exact hd.1)) (p X h) (pe_glob (v := .ref q) (h.gl hg) (h.mgn hm) rfl hdb) rfl, sim_test (L := []) (sim_inK hd s)⟩
end
end Z


namespace Z
open PySem PySem.Spec PyProof.Rows L2
namespace Tk00
noncomputable section
def cv_PLAIN : Cv := .str "I"
abbrev c_PLAIN : D := cvD cv_PLAIN
def kv_PHASES : List (Str × Cv) := [("XY", .tup [.int 1, .str "Z"]), ("YZ", .tup [.int 1, .str "X"]), ("ZX", .tup [.int 1, .str "Y"]), ("YX", .tup [.int 3, .str "Z"]), ("ZY", .tup [.int 3, .str "X"]), ("XZ", .tup [.int 3, .str "Y"])]
abbrev d_PHASES : Str → Option D := cvK kv_PHASES
def kv_SINGLES : List (Str × Cv) := [("hX", .str "Z+"), ("hY", .str "Y-"), ("hZ", .str "X+"), ("sX", .str "Y+"), ("sY", .str "X-"), ("sZ", .str "Z+"), ("rX", .str "Y-"), ("rY", .str "X+"), ("rZ", .str "Z+"), ("xX", .str "X+"), ("xY", .str "Y-"), ("xZ", .str "Z-"), ("yX", .str "X-"), ("yY", .str "Y+"), ("yZ", .str "Z-"), ("zX", .str "X-"), ("zY", .str "Y-"), ("zZ", .str "Z+")]
abbrev d_SINGLES : Str → Option D := cvK kv_SINGLES
def kv_PARTS : List (Str × Cv) := [("cxXI", .str "XX"), ("cxZI", .str "ZI"), ("cxIX", .str "IX"), ("cxIZ", .str "ZZ"), ("czXI", .str "XZ"), ("czZI", .str "ZI"), ("czIX", .str "ZX"), ("czIZ", .str "IZ"), ("swXI", .str "IX"), ("swZI", .str "IZ"), ("swIX", .str "XI"), ("swIZ", .str "ZI")]
abbrev d_PARTS : Str → Option D := cvK kv_PARTS
def cv_ONE_WIRE : Cv := .str "hsrxyz"
abbrev c_ONE_WIRE : D := cvD cv_ONE_WIRE
def cv_TWO_WIRES : Cv := .tup [.str "cx", .str "cz", .str "sw"]
abbrev c_TWO_WIRES : D := cvD cv_TWO_WIRES
def kv_BACKS : List (Str × Cv) := [("s", .str "r"), ("r", .str "s")]
abbrev d_BACKS : Str → Option D := cvK kv_BACKS
def cv_NOTHING : Cv := .tup [.int 0, .int 0]
abbrev c_NOTHING : D := cvD cv_NOTHING
def kv_LETTER_TURNS : List (Str × Cv) := [("X", .str "x"), ("Y", .str "y"), ("Z", .str "z")]
abbrev d_LETTER_TURNS : Str → Option D := cvK kv_LETTER_TURNS
section
variable {P : Program} {w : World} {K : PySem.W.Frag} {mg : Str → Option Value} {base : Heap}
def top (i : Nat) : Stmt := PySem.Challenge.pw_steadywires_k00_whole_letters_turns_and.main.body.getD i (.Pass ⟨0, 0, 0, 0⟩)
/-! ### single_product -/
abbrev s_single_product : Stmt := top 8
abbrev N_single_product : List Str := ["one", "other"]
theorem sc_single_product : FnScope N_single_product ["one", "other"] (defScope s_single_product) := ⟨rfl, rfl, rfl, by decide +kernel, rfl, by decide +kernel, by decide +kernel⟩
def mb_single_product : MM := (mSeq (mIf (xT (xOp dEq (xVar 0) (xVar 1))) (mRet (xTup (xaCons (xC (.int 0)) (xaCons (xC c_PLAIN) xaNil))))
  mSkip)
  (mSeq (mIf (xT (xOp dEq (xVar 0) (xC c_PLAIN))) (mRet (xTup (xaCons (xC (.int 0)) (xaCons (xVar 1) xaNil))))
  mSkip)
  (mSeq (mIf (xT (xOp dEq (xVar 1) (xC c_PLAIN))) (mRet (xTup (xaCons (xC (.int 0)) (xaCons (xVar 0) xaNil))))
  mSkip)
  (mRet (xUn (dKey d_PHASES) (xOp dAdd (xVar 0) (xVar 1)))))))
def m_single_product : List D → Option D := fnP 2 2 mb_single_product
theorem ok_single_product {f : Addr} {fd : FuncData} (F : FnP K "single_product" "single_product" s_single_product f fd) {u_PLAIN : Value} {v_PLAIN : V} (g_PLAIN : mg "PLAIN" = some u_PLAIN ∧ RelV v_PLAIN u_PLAIN ∧ ∀ M, Rp K M v_PLAIN c_PLAIN) {q_PHASES : Addr} (g_PHASES : mg "PHASES" = some (.ref q_PHASES) ∧ KDg K w q_PHASES d_PHASES) : FnOk P w K mg base CX0 1 f fd ["one", "other"] (spP K m_single_product) :=
  fn_P F sc_single_product rfl rfl fun A hr => have hu := u64 hr
  (sss_cons (O1 := []) (ss_if (W := []) (tt_cmp (L0 := []) (ho_eq hu) rs_eq (tr_var (i := 0) rfl rfl (by decide) (by decide)) (tr_var (i := 1) rfl rfl (by decide) (by decide)) (by decide) rfl) (sss_one (ss_ret (W := []) (tr_tup (ta_cons tr_int (ta_cons (tr_glob rfl g_PLAIN.1 g_PLAIN.2.1 g_PLAIN.2.2) ta_nil (by decide)) (by decide)) (by decide)) (by decide)))
  sss_nil (by decide))
  (sss_cons (O1 := []) (ss_if (W := []) (tt_cmp (L0 := []) (ho_eq hu) rs_eq (tr_var (i := 0) rfl rfl (by decide) (by decide)) (tr_glob rfl g_PLAIN.1 g_PLAIN.2.1 g_PLAIN.2.2) (by decide) rfl) (sss_one (ss_ret (W := []) (tr_tup (ta_cons tr_int (ta_cons (tr_var (i := 1) rfl rfl (by decide) (by decide)) ta_nil (by decide)) (by decide)) (by decide)) (by decide)))
  sss_nil (by decide))
  (sss_cons (O1 := []) (ss_if (W := []) (tt_cmp (L0 := []) (ho_eq hu) rs_eq (tr_var (i := 1) rfl rfl (by decide) (by decide)) (tr_glob rfl g_PLAIN.1 g_PLAIN.2.1 g_PLAIN.2.2) (by decide) rfl) (sss_one (ss_ret (W := []) (tr_tup (ta_cons tr_int (ta_cons (tr_var (i := 0) rfl rfl (by decide) (by decide)) ta_nil (by decide)) (by decide)) (by decide)) (by decide)))
  sss_nil (by decide))
  (sss_one (ss_ret (W := []) (tr_gdict (L0 := []) rfl g_PHASES.1 g_PHASES.2.m (tr_opS (L0 := []) ho_add rs_add (tr_var (i := 0) rfl rfl (by decide) (by decide)) (tr_var (i := 1) rfl rfl (by decide) (by decide)) (by decide))) (by decide))))))
/-! ### letter_product -/
abbrev s_letter_product : Stmt := top 9
abbrev N_letter_product : List Str := ["one", "other", "power", "letters", "mine", "theirs", "more", "letter"]
theorem sc_letter_product : FnScope N_letter_product ["one", "other"] (defScope s_letter_product) := ⟨rfl, rfl, rfl, by decide +kernel, rfl, by decide +kernel, by decide +kernel⟩
def mb_letter_product : MM := (mSeq (mSet 2 (xC (.int 0)))
  (mSeq (mSetF 3 (xDisp xaNil))
  (mSeq (mFor (xZip (xItems (xVar 0)) (xItems (xVar 1))) (bTup 2 (bCons (bName 4) (bCons (bName 5) bNil))) (mForget [4, 5, 6, 7] (mSeq (mAsg (xFn m_single_product (xaCons (xVar 4) (xaCons (xVar 5) xaNil))) (bTup 2 (bCons (bName 6) (bCons (bName 7) bNil))))
  (mSeq (mAug dAddI 2 (xVar 6))
  (mApp 3 (xVar 7))))))
  (mRet (xTup (xaCons (xOp dMod (xVar 2) (xC (.int 4))) (xaCons (xMt dJoin (xC (.str "")) (xaCons (xVar 3) xaNil)) xaNil)))))))
def m_letter_product : List D → Option D := fnP 2 8 mb_letter_product
theorem ok_letter_product {f : Addr} {fd : FuncData} (F : FnP K "letter_product" "letter_product" s_letter_product f fd) (b_zip : mg "zip" = none) (F_single_product : FnAt P w K mg base 1 "single_product" ["one", "other"] (spP K m_single_product)) : FnOk P w K mg base CX0 2 f fd ["one", "other"] (spP K m_letter_product) :=
  fn_P F sc_letter_product rfl rfl fun A hr => have hu := u64 hr
  (sss_cons (O1 := []) (ss_set (W := []) (i := 2) (O' := []) rfl rfl tr_int (by decide) (by decide) (by decide) (by decide))
  (sss_cons (O1 := [3]) (ss_setF (W := []) (i := 3) (O' := [3]) rfl rfl (tf_disp ta_nil (by decide)) (by decide) (by decide) (by decide) (by decide))
  (sss_cons (O1 := [3]) (ss_for (W := []) (vs := [4, 5]) (ti_zipG rfl b_zip (tr_var (i := 0) rfl rfl (by decide) (by decide)) (tr_var (i := 1) rfl rfl (by decide) (by decide)) (by decide)) (tg_tup (tgs_cons (tg_name (i := 4) rfl rfl (by decide) (by decide)) (tgs_cons (tg_name (i := 5) rfl rfl (by decide) (by decide)) tgs_nil (by decide)) (by decide))) (sss_forget [4, 5, 6, 7] (sss_cons (O1 := [3]) (ss_asg (W := []) (vs := [6, 7]) (tr_call F_single_product (hr.mono (by decide)) rfl (ta_cons (tr_var (i := 4) rfl rfl (by decide) (by decide)) (ta_cons (tr_var (i := 5) rfl rfl (by decide) (by decide)) ta_nil (by decide)) (by decide)) (by decide)) (tg_tup (tgs_cons (tg_name (i := 6) rfl rfl (by decide) (by decide)) (tgs_cons (tg_name (i := 7) rfl rfl (by decide) (by decide)) tgs_nil (by decide)) (by decide))) (by decide) (by decide))
  (sss_cons (O1 := [3]) (ss_aug (W := []) (i := 2) ho_iadd rs_addI rfl rfl (by decide) (by decide) (by decide) (tr_var (i := 6) rfl rfl (by decide) (by decide)) (by decide))
  (sss_one (ss_app (W := []) (i := 3) rfl rfl (by decide) (tr_var (i := 7) rfl rfl (by decide) (by decide)) (by decide))))) (by decide)) (by decide) (by decide))
  (sss_free (L := []) (sss_one (ss_ret (W := []) (tr_tup (ta_cons (tr_opS (L0 := []) ho_mod rs_mod (tr_var (i := 2) rfl rfl (by decide) (by decide)) tr_int (by decide)) (ta_cons (tr_join (L0 := []) tr_str (ta_cons (tr_var (i := 3) rfl rfl (by decide) (by decide)) ta_nil (by decide)) (by decide)) ta_nil (by decide)) (by decide)) (by decide)) (by decide))) (by decide) (by decide)))))
/-! ### do_agree -/
abbrev s_do_agree : Stmt := top 10
abbrev N_do_agree : List Str := ["one", "other", "unlike", "mine", "theirs"]
theorem sc_do_agree : FnScope N_do_agree ["one", "other"] (defScope s_do_agree) := ⟨rfl, rfl, rfl, by decide +kernel, rfl, by decide +kernel, by decide +kernel⟩
def mb_do_agree : MM := (mSeq (mSet 2 (xC (.int 0)))
  (mSeq (mFor (xZip (xItems (xVar 0)) (xItems (xVar 1))) (bTup 2 (bCons (bName 3) (bCons (bName 4) bNil))) (mForget [3, 4] (mIf (xAnd (xT (xOp dNe (xVar 3) (xVar 4))) (xAnd (xT (xOp dNe (xVar 3) (xC c_PLAIN))) (xT (xOp dNe (xVar 4) (xC c_PLAIN))))) (mAug dAddI 2 (xC (.int 1)))
  mSkip)))
  (mRet (xOp dEq (xOp dMod (xVar 2) (xC (.int 2))) (xC (.int 0))))))
def m_do_agree : List D → Option D := fnP 2 5 mb_do_agree
theorem ok_do_agree {f : Addr} {fd : FuncData} (F : FnP K "do_agree" "do_agree" s_do_agree f fd) (b_zip : mg "zip" = none) {u_PLAIN : Value} {v_PLAIN : V} (g_PLAIN : mg "PLAIN" = some u_PLAIN ∧ RelV v_PLAIN u_PLAIN ∧ ∀ M, Rp K M v_PLAIN c_PLAIN) : FnOk P w K mg base CX0 1 f fd ["one", "other"] (spP K m_do_agree) :=
  fn_P F sc_do_agree rfl rfl fun A hr => have hu := u64 hr
  (sss_cons (O1 := []) (ss_set (W := []) (i := 2) (O' := []) rfl rfl tr_int (by decide) (by decide) (by decide) (by decide))
  (sss_cons (O1 := []) (ss_for (W := []) (vs := [3, 4]) (ti_zipG rfl b_zip (tr_var (i := 0) rfl rfl (by decide) (by decide)) (tr_var (i := 1) rfl rfl (by decide) (by decide)) (by decide)) (tg_tup (tgs_cons (tg_name (i := 3) rfl rfl (by decide) (by decide)) (tgs_cons (tg_name (i := 4) rfl rfl (by decide) (by decide)) tgs_nil (by decide)) (by decide))) (sss_forget [3, 4] (sss_one (ss_if (W := []) (tt_W (tw_and (tt_cmp (L0 := []) (ho_ne hu) rs_ne (tr_var (i := 3) rfl rfl (by decide) (by decide)) (tr_var (i := 4) rfl rfl (by decide) (by decide)) (by decide) rfl) (tw_and (tt_cmp (L0 := []) (ho_ne hu) rs_ne (tr_var (i := 3) rfl rfl (by decide) (by decide)) (tr_glob rfl g_PLAIN.1 g_PLAIN.2.1 g_PLAIN.2.2) (by decide) rfl) (tw_and1 (tt_cmp (L0 := []) (ho_ne hu) rs_ne (tr_var (i := 4) rfl rfl (by decide) (by decide)) (tr_glob rfl g_PLAIN.1 g_PLAIN.2.1 g_PLAIN.2.2) (by decide) rfl))))) (sss_one (ss_aug (W := []) (i := 2) ho_iadd rs_addI rfl rfl (by decide) (by decide) (by decide) tr_int (by decide)))
  sss_nil (by decide))) (by decide)) (by decide) (by decide))
  (sss_one (ss_ret (W := []) (tr_cmp (L0 := []) (ho_eq hu) rs_eq (tr_opS (L0 := []) ho_mod rs_mod (tr_var (i := 2) rfl rfl (by decide) (by decide)) tr_int (by decide)) tr_int (by decide) rfl) (by decide)))))
/-! ### signed_product -/
abbrev s_signed_product : Stmt := top 11
abbrev N_signed_product : List Str := ["one", "other", "power", "letters"]
theorem sc_signed_product : FnScope N_signed_product ["one", "other"] (defScope s_signed_product) := ⟨rfl, rfl, rfl, by decide +kernel, rfl, by decide +kernel, by decide +kernel⟩
def mb_signed_product : MM := (mSeq (mAsg (xFn m_letter_product (xaCons (xOp dIx (xVar 0) (xC (.int 0))) (xaCons (xOp dIx (xVar 1) (xC (.int 0))) xaNil))) (bTup 2 (bCons (bName 2) (bCons (bName 3) bNil))))
  (mRet (xTup (xaCons (xVar 3) (xaCons (xOp dMod (xOp dAdd (xOp dAdd (xOp dIx (xVar 0) (xC (.int 1))) (xOp dIx (xVar 1) (xC (.int 1)))) (xOp dDiv (xVar 2) (xC (.int 2)))) (xC (.int 2))) xaNil)))))
def m_signed_product : List D → Option D := fnP 2 4 mb_signed_product
theorem ok_signed_product {f : Addr} {fd : FuncData} (F : FnP K "signed_product" "signed_product" s_signed_product f fd) (F_letter_product : FnAt P w K mg base 2 "letter_product" ["one", "other"] (spP K m_letter_product)) : FnOk P w K mg base CX0 3 f fd ["one", "other"] (spP K m_signed_product) :=
  fn_P F sc_signed_product rfl rfl fun A hr => have hu := u64 hr
  (sss_cons (O1 := []) (ss_asg (W := []) (vs := [2, 3]) (tr_call F_letter_product (hr.mono (by decide)) rfl (ta_cons (tr_ix (tr_var (i := 0) rfl rfl (by decide) (by decide)) tr_int (by decide) (by decide)) (ta_cons (tr_ix (tr_var (i := 1) rfl rfl (by decide) (by decide)) tr_int (by decide) (by decide)) ta_nil (by decide)) (by decide)) (by decide)) (tg_tup (tgs_cons (tg_name (i := 2) rfl rfl (by decide) (by decide)) (tgs_cons (tg_name (i := 3) rfl rfl (by decide) (by decide)) tgs_nil (by decide)) (by decide))) (by decide) (by decide))
  (sss_one (ss_ret (W := []) (tr_tup (ta_cons (tr_var (i := 3) rfl rfl (by decide) (by decide)) (ta_cons (tr_opS (L0 := []) ho_mod rs_mod (tr_opS (L0 := []) ho_add rs_add (tr_opS (L0 := []) ho_add rs_add (tr_ix (tr_var (i := 0) rfl rfl (by decide) (by decide)) tr_int (by decide) (by decide)) (tr_ix (tr_var (i := 1) rfl rfl (by decide) (by decide)) tr_int (by decide) (by decide)) (by decide)) (tr_opS (L0 := []) ho_div rs_div (tr_var (i := 2) rfl rfl (by decide) (by decide)) tr_int (by decide)) (by decide)) tr_int (by decide)) ta_nil (by decide)) (by decide)) (by decide)) (by decide))))
/-! ### weight_of -/
abbrev s_weight_of : Stmt := top 12
abbrev N_weight_of : List Str := ["letters", "letter"]
theorem sc_weight_of : FnScope N_weight_of ["letters"] (defScope s_weight_of) := ⟨rfl, rfl, rfl, by decide +kernel, rfl, by decide +kernel, by decide +kernel⟩
def mb_weight_of : MM := (mRet (xFn dLen (xaCons (xLst (xLc (xSigns (xVar 0)) [1] (bName 1) (xT (xOp dNe (xVar 1) (xC c_PLAIN))) (xVar 1))) xaNil)))
def m_weight_of : List D → Option D := fnP 1 2 mb_weight_of
theorem ok_weight_of {f : Addr} {fd : FuncData} (F : FnP K "weight_of" "weight_of" s_weight_of f fd) (b_len : mg "len" = none) {u_PLAIN : Value} {v_PLAIN : V} (g_PLAIN : mg "PLAIN" = some u_PLAIN ∧ RelV v_PLAIN u_PLAIN ∧ ∀ M, Rp K M v_PLAIN c_PLAIN) : FnOk P w K mg base CX0 1 f fd ["letters"] (spP K m_weight_of) :=
  fn_P F sc_weight_of rfl rfl fun A hr => have hu := u64 hr
  (sss_one (ss_ret (W := []) (tr_len (L0 := []) rfl b_len (ta_cons (tr_F (by decide) (tf_lc [("letter", 1)] (ti_str (L := []) (tr_var (i := 0) rfl rfl (by decide) (by decide))) rfl (tg_name (i := 1) rfl rfl (by decide) (by decide)) (tts_one (tt_cmp (L0 := []) (ho_ne hu) rs_ne (tr_var (i := 1) rfl rfl (by decide) (by decide)) (tr_glob rfl g_PLAIN.1 g_PLAIN.2.1 g_PLAIN.2.2) (by decide) rfl)) (tr_var (i := 1) rfl rfl (by decide) (by decide)) (by decide) (by decide) (by decide))) ta_nil (by decide))) (by decide)))
/-! ### letters_at -/
abbrev s_letters_at : Stmt := top 13
abbrev N_letters_at : List Str := ["letters", "wires", "wire"]
theorem sc_letters_at : FnScope N_letters_at ["letters", "wires"] (defScope s_letters_at) := ⟨rfl, rfl, rfl, by decide +kernel, rfl, by decide +kernel, by decide +kernel⟩
def mb_letters_at : MM := (mRet (xMt dJoin (xC (.str "")) (xaCons (xLst (xLc (xSeq (xVar 1)) [2] (bName 2) xYes (xOp dIx (xVar 0) (xVar 2)))) xaNil)))
def m_letters_at : List D → Option D := fnP 2 3 mb_letters_at
theorem ok_letters_at {f : Addr} {fd : FuncData} (F : FnP K "letters_at" "letters_at" s_letters_at f fd) : FnOk P w K mg base CX0 1 f fd ["letters", "wires"] (spP K m_letters_at) :=
  fn_P F sc_letters_at rfl rfl fun A hr => have hu := u64 hr
  (sss_one (ss_ret (W := []) (tr_join (L0 := []) tr_str (ta_cons (tr_F (by decide) (tf_lc [("wire", 2)] (ti_E (by decide) (tr_var (i := 1) rfl rfl (by decide) (by decide))) rfl (tg_name (i := 2) rfl rfl (by decide) (by decide)) tts_nil (tr_ix (tr_var (i := 0) rfl rfl (by decide) (by decide)) (tr_var (i := 2) rfl rfl (by decide) (by decide)) (by decide) (by decide)) (by decide) (by decide) (by decide))) ta_nil (by decide)) (by decide)) (by decide)))
/-! ### with_letters -/
abbrev s_with_letters : Stmt := top 14
abbrev N_with_letters : List Str := ["letters", "wires", "others", "found", "wire", "letter"]
theorem sc_with_letters : FnScope N_with_letters ["letters", "wires", "others"] (defScope s_with_letters) := ⟨rfl, rfl, rfl, by decide +kernel, rfl, by decide +kernel, by decide +kernel⟩
def mb_with_letters : MM := (mSeq (mSetF 3 (xLstS (xVar 0)))
  (mSeq (mFor (xZip (xItems (xVar 1)) (xItems (xVar 2))) (bTup 2 (bCons (bName 4) (bCons (bName 5) bNil))) (mForget [4, 5] (mSetIx 3 (xVar 5) (xVar 4))))
  (mRet (xMt dJoin (xC (.str "")) (xaCons (xVar 3) xaNil)))))
def m_with_letters : List D → Option D := fnP 3 6 mb_with_letters
theorem ok_with_letters {f : Addr} {fd : FuncData} (F : FnP K "with_letters" "with_letters" s_with_letters f fd) (b_list : mg "list" = none) (b_zip : mg "zip" = none) : FnOk P w K mg base CX0 1 f fd ["letters", "wires", "others"] (spP K m_with_letters) :=
  fn_P F sc_with_letters rfl rfl fun A hr => have hu := u64 hr
  (sss_cons (O1 := [3]) (ss_setF (W := []) (i := 3) (O' := [3]) rfl rfl (tf_listS (L0 := []) rfl b_list (tr_var (i := 0) rfl rfl (by decide) (by decide)) (by decide)) (by decide) (by decide) (by decide) (by decide))
  (sss_cons (O1 := [3]) (ss_for (W := []) (vs := [4, 5]) (ti_zipG rfl b_zip (tr_var (i := 1) rfl rfl (by decide) (by decide)) (tr_var (i := 2) rfl rfl (by decide) (by decide)) (by decide)) (tg_tup (tgs_cons (tg_name (i := 4) rfl rfl (by decide) (by decide)) (tgs_cons (tg_name (i := 5) rfl rfl (by decide) (by decide)) tgs_nil (by decide)) (by decide))) (sss_forget [4, 5] (sss_one (ss_setIx (W := []) (L0 := []) (i := 3) rfl rfl (by decide) (tr_var (i := 5) rfl rfl (by decide) (by decide)) (tr_var (i := 4) rfl rfl (by decide) (by decide)) (by decide))) (by decide)) (by decide) (by decide))
  (sss_free (L := []) (sss_one (ss_ret (W := []) (tr_join (L0 := []) tr_str (ta_cons (tr_var (i := 3) rfl rfl (by decide) (by decide)) ta_nil (by decide)) (by decide)) (by decide))) (by decide) (by decide))))
/-! ### turn_size -/
abbrev s_turn_size : Stmt := top 21
abbrev N_turn_size : List Str := ["name"]
theorem sc_turn_size : FnScope N_turn_size ["name"] (defScope s_turn_size) := ⟨rfl, rfl, rfl, by decide +kernel, rfl, by decide +kernel, by decide +kernel⟩
def mb_turn_size : MM := (mSeq (mIf (xAnd (xT (xOp dEq (xFn dLen (xaCons (xVar 0) xaNil)) (xC (.int 1)))) (xT (xOp (dInS false) (xVar 0) (xC c_ONE_WIRE)))) (mRet (xC (.int 1)))
  mSkip)
  (mSeq (mIf (xT (xOp (dIn false) (xVar 0) (xC c_TWO_WIRES))) (mRet (xC (.int 2)))
  mSkip)
  (mRaise "NoTurn" ["name"] (xaCons (xVar 0) xaNil))))
def m_turn_size : List D → Option (D ⊕ Exn) := fnX 1 1 mb_turn_size
theorem ok_turn_size {f : Addr} {fd : FuncData} (F : FnP K "turn_size" "turn_size" s_turn_size f fd) (b_len : mg "len" = none) {u_ONE_WIRE : Value} {v_ONE_WIRE : V} (g_ONE_WIRE : mg "ONE_WIRE" = some u_ONE_WIRE ∧ RelV v_ONE_WIRE u_ONE_WIRE ∧ ∀ M, Rp K M v_ONE_WIRE c_ONE_WIRE) {u_TWO_WIRES : Value} {v_TWO_WIRES : V} (g_TWO_WIRES : mg "TWO_WIRES" = some u_TWO_WIRES ∧ RelV v_TWO_WIRES u_TWO_WIRES ∧ ∀ M, Rp K M v_TWO_WIRES c_TWO_WIRES) (X0 : RzOk P w K mg base "NoTurn" ["name"] ["self", "name"]) : FnOk P w K mg base (L2.CX P w) 3 f fd ["name"] (spX K m_turn_size) :=
  fn_X F sc_turn_size rfl rfl fun A hr => have hu := u64 hr
  (sss_cons (O1 := []) (ss_if (W := []) (tt_W (tw_and (tt_cmp (L0 := []) (ho_eq hu) rs_eq (tr_len (L0 := []) rfl b_len (ta_cons (tr_var (i := 0) rfl rfl (by decide) (by decide)) ta_nil (by decide))) tr_int (by decide) rfl) (tw_and1 (tt_cmp (L0 := []) ho_inS rs_inS (tr_var (i := 0) rfl rfl (by decide) (by decide)) (tr_glob rfl g_ONE_WIRE.1 g_ONE_WIRE.2.1 g_ONE_WIRE.2.2) (by decide) rfl)))) (sss_one (ss_ret (W := []) tr_int (by decide)))
  sss_nil (by decide))
  (sss_cons (O1 := []) (ss_if (W := []) (tt_cmp (L0 := []) ho_in (rs_in false) (tr_var (i := 0) rfl rfl (by decide) (by decide)) (tr_glob rfl g_TWO_WIRES.1 g_TWO_WIRES.2.1 g_TWO_WIRES.2.2) (by decide) rfl) (sss_one (ss_ret (W := []) tr_int (by decide)))
  sss_nil (by decide))
  (sss_one (sx_raise [] (W := []) (k := 0) X0 (hr.mono (by decide)) rfl (ta_cons (tr_var (i := 0) rfl rfl (by decide) (by decide)) ta_nil (by decide)) (by decide) (by decide) (by decide) (by decide)))))
/-! ### back_turn -/
abbrev s_back_turn : Stmt := top 22
abbrev N_back_turn : List Str := ["name"]
theorem sc_back_turn : FnScope N_back_turn ["name"] (defScope s_back_turn) := ⟨rfl, rfl, rfl, by decide +kernel, rfl, by decide +kernel, by decide +kernel⟩
def mb_back_turn : MM := (mRet (xKGet d_BACKS (xVar 0) (xVar 0)))
def m_back_turn : List D → Option D := fnP 1 1 mb_back_turn
theorem ok_back_turn {f : Addr} {fd : FuncData} (F : FnP K "back_turn" "back_turn" s_back_turn f fd) {q_BACKS : Addr} (g_BACKS : mg "BACKS" = some (.ref q_BACKS) ∧ KDg K w q_BACKS d_BACKS) : FnOk P w K mg base CX0 1 f fd ["name"] (spP K m_back_turn) :=
  fn_P F sc_back_turn rfl rfl fun A hr => have hu := u64 hr
  (sss_one (ss_ret (W := []) (tr_kget rfl g_BACKS.1 g_BACKS.2 (tr_var (i := 0) rfl rfl (by decide) (by decide)) (tr_var (i := 0) rfl rfl (by decide) (by decide)) (by decide)) (by decide)))
/-! ### parts_of -/
abbrev s_parts_of : Stmt := top 23
abbrev N_parts_of : List Str := ["letters", "factors", "power", "at", "letter", "own"]
theorem sc_parts_of : FnScope N_parts_of ["letters"] (defScope s_parts_of) := ⟨rfl, rfl, rfl, by decide +kernel, rfl, by decide +kernel, by decide +kernel⟩
def mb_parts_of : MM := (mSeq (mSetF 1 (xDisp xaNil))
  (mSeq (mSet 2 (xC (.int 0)))
  (mSeq (mFor (xEnum (xItemsLS (xVar 0))) (bTup 2 (bCons (bName 3) (bCons (bName 4) bNil))) (mForget [3, 4, 5] (mSeq (mFor (xSeq (xTup (xaCons (xC (.str "X")) (xaCons (xC (.str "Z")) xaNil)))) (bName 5) (mForget [5] (mIf (xT (xOp (dIn false) (xVar 4) (xTup (xaCons (xVar 5) (xaCons (xC (.str "Y")) xaNil))))) (mApp 1 (xFn m_with_letters (xaCons (xOp dAdd (xC c_PLAIN) (xC c_PLAIN)) (xaCons (xLst (xDisp (xaCons (xVar 3) xaNil))) (xaCons (xVar 5) xaNil)))))
  mSkip)))
  (mIf (xT (xOp dEq (xVar 4) (xC (.str "Y")))) (mAug dAddI 2 (xC (.int 1)))
  mSkip))))
  (mRet (xTup (xaCons (xVar 1) (xaCons (xVar 2) xaNil)))))))
def m_parts_of : List D → Option D := fnP 1 6 mb_parts_of
theorem ok_parts_of {f : Addr} {fd : FuncData} (F : FnP K "parts_of" "parts_of" s_parts_of f fd) (b_enumerate : mg "enumerate" = none) {u_PLAIN : Value} {v_PLAIN : V} (g_PLAIN : mg "PLAIN" = some u_PLAIN ∧ RelV v_PLAIN u_PLAIN ∧ ∀ M, Rp K M v_PLAIN c_PLAIN) (F_with_letters : FnAt P w K mg base 1 "with_letters" ["letters", "wires", "others"] (spP K m_with_letters)) : FnOk P w K mg base CX0 2 f fd ["letters"] (spP K m_parts_of) :=
  fn_P F sc_parts_of rfl rfl fun A hr => have hu := u64 hr
  (sss_cons (O1 := [1]) (ss_setF (W := []) (i := 1) (O' := [1]) rfl rfl (tf_disp ta_nil (by decide)) (by decide) (by decide) (by decide) (by decide))
  (sss_cons (O1 := [1]) (ss_set (W := []) (i := 2) (O' := [1]) rfl rfl tr_int (by decide) (by decide) (by decide) (by decide))
  (sss_cons (O1 := [1]) (ss_for (W := []) (vs := [3, 4]) (ti_enumG rfl b_enumerate (tr_var (i := 0) rfl rfl (by decide) (by decide))) (tg_tup (tgs_cons (tg_name (i := 3) rfl rfl (by decide) (by decide)) (tgs_cons (tg_name (i := 4) rfl rfl (by decide) (by decide)) tgs_nil (by decide)) (by decide))) (sss_forget [3, 4, 5] (sss_cons (O1 := [1]) (ss_for (W := []) (vs := [5]) (ti_E (by decide) (tr_tup (ta_cons tr_str (ta_cons tr_str ta_nil (by decide)) (by decide)) (by decide))) (tg_name (i := 5) rfl rfl (by decide) (by decide)) (sss_forget [5] (sss_one (ss_if (W := []) (tt_cmp (L0 := []) ho_in (rs_in false) (tr_var (i := 4) rfl rfl (by decide) (by decide)) (tr_tup (ta_cons (tr_var (i := 5) rfl rfl (by decide) (by decide)) (ta_cons tr_str ta_nil (by decide)) (by decide)) (by decide)) (by decide) rfl) (sss_one (ss_app (W := []) (i := 1) rfl rfl (by decide) (tr_call F_with_letters (hr.mono (by decide)) rfl (ta_cons (tr_opS (L0 := []) ho_add rs_add (tr_glob rfl g_PLAIN.1 g_PLAIN.2.1 g_PLAIN.2.2) (tr_glob rfl g_PLAIN.1 g_PLAIN.2.1 g_PLAIN.2.2) (by decide)) (ta_cons (tr_F (by decide) (tf_disp (ta_cons (tr_var (i := 3) rfl rfl (by decide) (by decide)) ta_nil (by decide)) (by decide))) (ta_cons (tr_var (i := 5) rfl rfl (by decide) (by decide)) ta_nil (by decide)) (by decide)) (by decide)) (by decide)) (by decide)))
  sss_nil (by decide))) (by decide)) (by decide) (by decide))
  (sss_one (ss_if (W := []) (tt_cmp (L0 := []) (ho_eq hu) rs_eq (tr_var (i := 4) rfl rfl (by decide) (by decide)) tr_str (by decide) rfl) (sss_one (ss_aug (W := []) (i := 2) ho_iadd rs_addI rfl rfl (by decide) (by decide) (by decide) tr_int (by decide)))
  sss_nil (by decide)))) (by decide)) (by decide) (by decide))
  (sss_free (L := []) (sss_one (ss_ret (W := []) (tr_tup (ta_cons (tr_var (i := 1) rfl rfl (by decide) (by decide)) (ta_cons (tr_var (i := 2) rfl rfl (by decide) (by decide)) ta_nil (by decide)) (by decide)) (by decide)) (by decide))) (by decide) (by decide)))))
/-! ### turned_pair -/
abbrev s_turned_pair : Stmt := top 24
abbrev N_turned_pair : List Str := ["name", "letters", "factors", "power", "found", "factor", "more"]
theorem sc_turned_pair : FnScope N_turned_pair ["name", "letters"] (defScope s_turned_pair) := ⟨rfl, rfl, rfl, by decide +kernel, rfl, by decide +kernel, by decide +kernel⟩
def mb_turned_pair : MM := (mSeq (mAsg (xFn m_parts_of (xaCons (xVar 1) xaNil)) (bTup 2 (bCons (bName 2) (bCons (bName 3) bNil))))
  (mSeq (mSet 4 (xOp dAdd (xC c_PLAIN) (xC c_PLAIN)))
  (mSeq (mFor (xSeq (xVar 2)) (bName 5) (mForget [5, 6] (mSeq (mAsg (xFn m_letter_product (xaCons (xVar 4) (xaCons (xUn (dKey d_PARTS) (xOp dAdd (xVar 0) (xVar 5))) xaNil))) (bTup 2 (bCons (bName 6) (bCons (bName 4) bNil))))
  (mAug dAddI 3 (xVar 6)))))
  (mRet (xTup (xaCons (xVar 4) (xaCons (xOp dDiv (xOp dMod (xVar 3) (xC (.int 4))) (xC (.int 2))) xaNil)))))))
def m_turned_pair : List D → Option D := fnP 2 7 mb_turned_pair
theorem ok_turned_pair {f : Addr} {fd : FuncData} (F : FnP K "turned_pair" "turned_pair" s_turned_pair f fd) {u_PLAIN : Value} {v_PLAIN : V} (g_PLAIN : mg "PLAIN" = some u_PLAIN ∧ RelV v_PLAIN u_PLAIN ∧ ∀ M, Rp K M v_PLAIN c_PLAIN) {q_PARTS : Addr} (g_PARTS : mg "PARTS" = some (.ref q_PARTS) ∧ KDg K w q_PARTS d_PARTS) (F_parts_of : FnAt P w K mg base 2 "parts_of" ["letters"] (spP K m_parts_of)) (F_letter_product : FnAt P w K mg base 2 "letter_product" ["one", "other"] (spP K m_letter_product)) : FnOk P w K mg base CX0 3 f fd ["name", "letters"] (spP K m_turned_pair) :=
  fn_P F sc_turned_pair rfl rfl fun A hr => have hu := u64 hr
  (sss_cons (O1 := []) (ss_asg (W := []) (vs := [2, 3]) (tr_call F_parts_of (hr.mono (by decide)) rfl (ta_cons (tr_var (i := 1) rfl rfl (by decide) (by decide)) ta_nil (by decide)) (by decide)) (tg_tup (tgs_cons (tg_name (i := 2) rfl rfl (by decide) (by decide)) (tgs_cons (tg_name (i := 3) rfl rfl (by decide) (by decide)) tgs_nil (by decide)) (by decide))) (by decide) (by decide))
  (sss_cons (O1 := []) (ss_set (W := []) (i := 4) (O' := []) rfl rfl (tr_opS (L0 := []) ho_add rs_add (tr_glob rfl g_PLAIN.1 g_PLAIN.2.1 g_PLAIN.2.2) (tr_glob rfl g_PLAIN.1 g_PLAIN.2.1 g_PLAIN.2.2) (by decide)) (by decide) (by decide) (by decide) (by decide))
  (sss_cons (O1 := []) (ss_for (W := []) (vs := [5]) (ti_E (by decide) (tr_var (i := 2) rfl rfl (by decide) (by decide))) (tg_name (i := 5) rfl rfl (by decide) (by decide)) (sss_forget [5, 6] (sss_cons (O1 := []) (ss_asg (W := []) (vs := [6, 4]) (tr_call F_letter_product (hr.mono (by decide)) rfl (ta_cons (tr_var (i := 4) rfl rfl (by decide) (by decide)) (ta_cons (tr_gdict (L0 := []) rfl g_PARTS.1 g_PARTS.2.m (tr_opS (L0 := []) ho_add rs_add (tr_var (i := 0) rfl rfl (by decide) (by decide)) (tr_var (i := 5) rfl rfl (by decide) (by decide)) (by decide))) ta_nil (by decide)) (by decide)) (by decide)) (tg_tup (tgs_cons (tg_name (i := 6) rfl rfl (by decide) (by decide)) (tgs_cons (tg_name (i := 4) rfl rfl (by decide) (by decide)) tgs_nil (by decide)) (by decide))) (by decide) (by decide))
  (sss_one (ss_aug (W := []) (i := 3) ho_iadd rs_addI rfl rfl (by decide) (by decide) (by decide) (tr_var (i := 6) rfl rfl (by decide) (by decide)) (by decide)))) (by decide)) (by decide) (by decide))
  (sss_one (ss_ret (W := []) (tr_tup (ta_cons (tr_var (i := 4) rfl rfl (by decide) (by decide)) (ta_cons (tr_opS (L0 := []) ho_div rs_div (tr_opS (L0 := []) ho_mod rs_mod (tr_var (i := 3) rfl rfl (by decide) (by decide)) tr_int (by decide)) tr_int (by decide)) ta_nil (by decide)) (by decide)) (by decide)) (by decide))))))
/-! ### turned_letter -/
abbrev s_turned_letter : Stmt := top 25
abbrev N_turned_letter : List Str := ["name", "letter", "told"]
theorem sc_turned_letter : FnScope N_turned_letter ["name", "letter"] (defScope s_turned_letter) := ⟨rfl, rfl, rfl, by decide +kernel, rfl, by decide +kernel, by decide +kernel⟩
def mb_turned_letter : MM := (mSeq (mIf (xT (xOp dEq (xVar 1) (xC c_PLAIN))) (mRet (xTup (xaCons (xC c_PLAIN) (xaCons (xC (.int 0)) xaNil))))
  mSkip)
  (mSeq (mSet 2 (xUn (dKey d_SINGLES) (xOp dAdd (xVar 0) (xVar 1))))
  (mRet (xTup (xaCons (xOp dIx (xVar 2) (xC (.int 0))) (xaCons (xFn dInt (xaCons (xOp dEq (xOp dIx (xVar 2) (xC (.int 1))) (xC (.str "-"))) xaNil)) xaNil))))))
def m_turned_letter : List D → Option D := fnP 2 3 mb_turned_letter
theorem ok_turned_letter {f : Addr} {fd : FuncData} (F : FnP K "turned_letter" "turned_letter" s_turned_letter f fd) (b_int : mg "int" = none) {u_PLAIN : Value} {v_PLAIN : V} (g_PLAIN : mg "PLAIN" = some u_PLAIN ∧ RelV v_PLAIN u_PLAIN ∧ ∀ M, Rp K M v_PLAIN c_PLAIN) {q_SINGLES : Addr} (g_SINGLES : mg "SINGLES" = some (.ref q_SINGLES) ∧ KDg K w q_SINGLES d_SINGLES) : FnOk P w K mg base CX0 1 f fd ["name", "letter"] (spP K m_turned_letter) :=
  fn_P F sc_turned_letter rfl rfl fun A hr => have hu := u64 hr
  (sss_cons (O1 := []) (ss_if (W := []) (tt_cmp (L0 := []) (ho_eq hu) rs_eq (tr_var (i := 1) rfl rfl (by decide) (by decide)) (tr_glob rfl g_PLAIN.1 g_PLAIN.2.1 g_PLAIN.2.2) (by decide) rfl) (sss_one (ss_ret (W := []) (tr_tup (ta_cons (tr_glob rfl g_PLAIN.1 g_PLAIN.2.1 g_PLAIN.2.2) (ta_cons tr_int ta_nil (by decide)) (by decide)) (by decide)) (by decide)))
  sss_nil (by decide))
  (sss_cons (O1 := []) (ss_set (W := []) (i := 2) (O' := []) rfl rfl (tr_gdict (L0 := []) rfl g_SINGLES.1 g_SINGLES.2.m (tr_opS (L0 := []) ho_add rs_add (tr_var (i := 0) rfl rfl (by decide) (by decide)) (tr_var (i := 1) rfl rfl (by decide) (by decide)) (by decide))) (by decide) (by decide) (by decide) (by decide))
  (sss_one (ss_ret (W := []) (tr_tup (ta_cons (tr_ix (tr_var (i := 2) rfl rfl (by decide) (by decide)) tr_int (by decide) (by decide)) (ta_cons (tr_intC (L0 := []) rfl b_int (ta_cons (tr_cmp (L0 := []) (ho_eq hu) rs_eq (tr_ix (tr_var (i := 2) rfl rfl (by decide) (by decide)) tr_int (by decide) (by decide)) tr_str (by decide) rfl) ta_nil (by decide))) ta_nil (by decide)) (by decide)) (by decide)) (by decide)))))
/-! ### turned -/
abbrev s_turned : Stmt := top 26
abbrev N_turned : List Str := ["name", "wires", "signed", "letters", "sign", "own", "after", "more"]
theorem sc_turned : FnScope N_turned ["name", "wires", "signed"] (defScope s_turned) := ⟨rfl, rfl, rfl, by decide +kernel, rfl, by decide +kernel, by decide +kernel⟩
def mb_turned : MM := (mSeq (mAsg (xVar 2) (bTup 2 (bCons (bName 3) (bCons (bName 4) bNil))))
  (mSeq (mSet 5 (xFn m_letters_at (xaCons (xVar 3) (xaCons (xVar 1) xaNil))))
  (mSeq (mIf (xT (xOp dEq (xFn (okX m_turn_size) (xaCons (xVar 0) xaNil)) (xC (.int 1)))) (mAsg (xFn m_turned_letter (xaCons (xVar 0) (xaCons (xVar 5) xaNil))) (bTup 2 (bCons (bName 6) (bCons (bName 7) bNil))))
  (mAsg (xFn m_turned_pair (xaCons (xVar 0) (xaCons (xVar 5) xaNil))) (bTup 2 (bCons (bName 6) (bCons (bName 7) bNil)))))
  (mRet (xTup (xaCons (xFn m_with_letters (xaCons (xVar 3) (xaCons (xVar 1) (xaCons (xVar 6) xaNil)))) (xaCons (xOp dMod (xOp dAdd (xVar 4) (xVar 7)) (xC (.int 2))) xaNil)))))))
def m_turned : List D → Option D := fnP 3 8 mb_turned
theorem ok_turned {f : Addr} {fd : FuncData} (F : FnP K "turned" "turned" s_turned f fd) (F_letters_at : FnAt P w K mg base 1 "letters_at" ["letters", "wires"] (spP K m_letters_at)) (F_turn_size : FnAtX P w K mg base 3 "turn_size" ["name"] (spX K m_turn_size)) (F_turned_letter : FnAt P w K mg base 1 "turned_letter" ["name", "letter"] (spP K m_turned_letter)) (F_turned_pair : FnAt P w K mg base 3 "turned_pair" ["name", "letters"] (spP K m_turned_pair)) (F_with_letters : FnAt P w K mg base 1 "with_letters" ["letters", "wires", "others"] (spP K m_with_letters)) : FnOk P w K mg base CX0 4 f fd ["name", "wires", "signed"] (spP K m_turned) :=
  fn_P F sc_turned rfl rfl fun A hr => have hu := u64 hr
  (sss_cons (O1 := []) (ss_asg (W := []) (vs := [3, 4]) (tr_var (i := 2) rfl rfl (by decide) (by decide)) (tg_tup (tgs_cons (tg_name (i := 3) rfl rfl (by decide) (by decide)) (tgs_cons (tg_name (i := 4) rfl rfl (by decide) (by decide)) tgs_nil (by decide)) (by decide))) (by decide) (by decide))
  (sss_cons (O1 := []) (ss_set (W := []) (i := 5) (O' := []) rfl rfl (tr_call F_letters_at (hr.mono (by decide)) rfl (ta_cons (tr_var (i := 3) rfl rfl (by decide) (by decide)) (ta_cons (tr_var (i := 1) rfl rfl (by decide) (by decide)) ta_nil (by decide)) (by decide)) (by decide)) (by decide) (by decide) (by decide) (by decide))
  (sss_cons (O1 := []) (ss_if (W := []) (tt_cmp (L0 := []) (ho_eq hu) rs_eq (tr_callX F_turn_size (hr.mono (by decide)) rfl (ta_cons (tr_var (i := 0) rfl rfl (by decide) (by decide)) ta_nil (by decide)) (by decide)) tr_int (by decide) rfl) (sss_one (ss_asg (W := []) (vs := [6, 7]) (tr_call F_turned_letter (hr.mono (by decide)) rfl (ta_cons (tr_var (i := 0) rfl rfl (by decide) (by decide)) (ta_cons (tr_var (i := 5) rfl rfl (by decide) (by decide)) ta_nil (by decide)) (by decide)) (by decide)) (tg_tup (tgs_cons (tg_name (i := 6) rfl rfl (by decide) (by decide)) (tgs_cons (tg_name (i := 7) rfl rfl (by decide) (by decide)) tgs_nil (by decide)) (by decide))) (by decide) (by decide)))
  (sss_one (ss_asg (W := []) (vs := [6, 7]) (tr_call F_turned_pair (hr.mono (by decide)) rfl (ta_cons (tr_var (i := 0) rfl rfl (by decide) (by decide)) (ta_cons (tr_var (i := 5) rfl rfl (by decide) (by decide)) ta_nil (by decide)) (by decide)) (by decide)) (tg_tup (tgs_cons (tg_name (i := 6) rfl rfl (by decide) (by decide)) (tgs_cons (tg_name (i := 7) rfl rfl (by decide) (by decide)) tgs_nil (by decide)) (by decide))) (by decide) (by decide))) (by decide))
  (sss_one (ss_ret (W := []) (tr_tup (ta_cons (tr_call F_with_letters (hr.mono (by decide)) rfl (ta_cons (tr_var (i := 3) rfl rfl (by decide) (by decide)) (ta_cons (tr_var (i := 1) rfl rfl (by decide) (by decide)) (ta_cons (tr_var (i := 6) rfl rfl (by decide) (by decide)) ta_nil (by decide)) (by decide)) (by decide)) (by decide)) (ta_cons (tr_opS (L0 := []) ho_mod rs_mod (tr_opS (L0 := []) ho_add rs_add (tr_var (i := 4) rfl rfl (by decide) (by decide)) (tr_var (i := 7) rfl rfl (by decide) (by decide)) (by decide)) tr_int (by decide)) ta_nil (by decide)) (by decide)) (by decide)) (by decide))))))
/-! ### is_whole -/
abbrev s_is_whole : Stmt := top 28
abbrev N_is_whole : List Str := ["value"]
theorem sc_is_whole : FnScope N_is_whole ["value"] (defScope s_is_whole) := ⟨rfl, rfl, rfl, by decide +kernel, rfl, by decide +kernel, by decide +kernel⟩
def mb_is_whole : MM := (mRet (xAndV (xT (xUn (dIsi "int") (xVar 0))) (xB (xNot (xT (xUn (dIsi "bool") (xVar 0)))))))
def m_is_whole : List D → Option D := fnP 1 1 mb_is_whole
theorem ok_is_whole {f : Addr} {fd : FuncData} (F : FnP K "is_whole" "is_whole" s_is_whole f fd) (b_isinstance : mg "isinstance" = none) (b_int : mg "int" = none) (b_bool : mg "bool" = none) : FnOk P w K mg base CX0 1 f fd ["value"] (spP K m_is_whole) :=
  fn_P F sc_is_whole rfl rfl fun A hr => have hu := u64 hr
  (sss_one (ss_ret (W := []) (tr_and (L0 := []) (tr_isi (L0 := []) (T := "int") rfl b_isinstance rfl b_int (by decide +kernel) (tr_var (i := 0) rfl rfl (by decide) (by decide))) (tr_one (tr_not (L0 := []) (tr_isi (L0 := []) (T := "bool") rfl b_isinstance rfl b_bool (by decide +kernel) (tr_var (i := 0) rfl rfl (by decide) (by decide)))))) (by decide)))
/-! ### times_i -/
abbrev s_times_i : Stmt := top 32
abbrev N_times_i : List Str := ["pair", "k", "a", "b", "_"]
theorem sc_times_i : FnScope N_times_i ["pair", "k"] (defScope s_times_i) := ⟨rfl, rfl, rfl, by decide +kernel, rfl, by decide +kernel, by decide +kernel⟩
def mb_times_i : MM := (mSeq (mAsg (xVar 0) (bTup 2 (bCons (bName 2) (bCons (bName 3) bNil))))
  (mSeq (mFor (xRg1 (xOp dMod (xVar 1) (xC (.int 4)))) (bName 4) (mForget [4] (mPar 2 3 (xaCons (xUn dNeg (xVar 3)) (xaCons (xVar 2) xaNil)))))
  (mRet (xTup (xaCons (xVar 2) (xaCons (xVar 3) xaNil))))))
def m_times_i : List D → Option D := fnP 2 5 mb_times_i
theorem ok_times_i {f : Addr} {fd : FuncData} (F : FnP K "times_i" "times_i" s_times_i f fd) (b_range : mg "range" = none) : FnOk P w K mg base CX0 1 f fd ["pair", "k"] (spP K m_times_i) :=
  fn_P F sc_times_i rfl rfl fun A hr => have hu := u64 hr
  (sss_cons (O1 := []) (ss_asg (W := []) (vs := [2, 3]) (tr_var (i := 0) rfl rfl (by decide) (by decide)) (tg_tup (tgs_cons (tg_name (i := 2) rfl rfl (by decide) (by decide)) (tgs_cons (tg_name (i := 3) rfl rfl (by decide) (by decide)) tgs_nil (by decide)) (by decide))) (by decide) (by decide))
  (sss_cons (O1 := []) (ss_for (W := []) (vs := [4]) (ti_rng1 (L0 := []) rfl b_range (tr_opS (L0 := []) ho_mod rs_mod (tr_var (i := 1) rfl rfl (by decide) (by decide)) tr_int (by decide))) (tg_name (i := 4) rfl rfl (by decide) (by decide)) (sss_forget [4] (sss_one (ss_par (W := []) (i := 2) (j := 3) (O' := []) rfl rfl (by decide) rfl rfl (ta_cons (tr_neg (L0 := []) (tr_var (i := 3) rfl rfl (by decide) (by decide))) (ta_cons (tr_var (i := 2) rfl rfl (by decide) (by decide)) ta_nil (by decide)) (by decide)) (by decide) (by decide) (by decide) (by decide) (by decide))) (by decide)) (by decide) (by decide))
  (sss_one (ss_ret (W := []) (tr_tup (ta_cons (tr_var (i := 2) rfl rfl (by decide) (by decide)) (ta_cons (tr_var (i := 3) rfl rfl (by decide) (by decide)) ta_nil (by decide)) (by decide)) (by decide)) (by decide)))))
/-! ### sum_of -/
abbrev s_sum_of : Stmt := top 33
abbrev N_sum_of : List Str := ["one", "other"]
theorem sc_sum_of : FnScope N_sum_of ["one", "other"] (defScope s_sum_of) := ⟨rfl, rfl, rfl, by decide +kernel, rfl, by decide +kernel, by decide +kernel⟩
def mb_sum_of : MM := (mRet (xTup (xaCons (xOp dAdd (xOp dIx (xVar 0) (xC (.int 0))) (xOp dIx (xVar 1) (xC (.int 0)))) (xaCons (xOp dAdd (xOp dIx (xVar 0) (xC (.int 1))) (xOp dIx (xVar 1) (xC (.int 1)))) xaNil))))
def m_sum_of : List D → Option D := fnP 2 2 mb_sum_of
theorem ok_sum_of {f : Addr} {fd : FuncData} (F : FnP K "sum_of" "sum_of" s_sum_of f fd) : FnOk P w K mg base CX0 1 f fd ["one", "other"] (spP K m_sum_of) :=
  fn_P F sc_sum_of rfl rfl fun A hr => have hu := u64 hr
  (sss_one (ss_ret (W := []) (tr_tup (ta_cons (tr_opS (L0 := []) ho_add rs_add (tr_ix (tr_var (i := 0) rfl rfl (by decide) (by decide)) tr_int (by decide) (by decide)) (tr_ix (tr_var (i := 1) rfl rfl (by decide) (by decide)) tr_int (by decide) (by decide)) (by decide)) (ta_cons (tr_opS (L0 := []) ho_add rs_add (tr_ix (tr_var (i := 0) rfl rfl (by decide) (by decide)) tr_int (by decide) (by decide)) (tr_ix (tr_var (i := 1) rfl rfl (by decide) (by decide)) tr_int (by decide) (by decide)) (by decide)) ta_nil (by decide)) (by decide)) (by decide)) (by decide)))
/-! ### figure -/
abbrev s_figure : Stmt := top 34
abbrev N_figure : List Str := ["n", "index", "place"]
theorem sc_figure : FnScope N_figure ["n", "index", "place"] (defScope s_figure) := ⟨rfl, rfl, rfl, by decide +kernel, rfl, by decide +kernel, by decide +kernel⟩
def mb_figure : MM := (mRet (xOp (dBit Builtin.bitAnd) (xOp dShr (xVar 1) (xOp dSub (xOp dSub (xVar 0) (xC (.int 1))) (xVar 2))) (xC (.int 1))))
def m_figure : List D → Option D := fnP 3 3 mb_figure
theorem ok_figure {f : Addr} {fd : FuncData} (F : FnP K "figure" "figure" s_figure f fd) : FnOk P w K mg base CX0 1 f fd ["n", "index", "place"] (spP K m_figure) :=
  fn_P F sc_figure rfl rfl fun A hr => have hu := u64 hr
  (sss_one (ss_ret (W := []) (tr_opS (L0 := []) ho_band rs_bit (tr_opS (L0 := []) ho_shr rs_shr (tr_var (i := 1) rfl rfl (by decide) (by decide)) (tr_opS (L0 := []) ho_sub rs_sub (tr_opS (L0 := []) ho_sub rs_sub (tr_var (i := 0) rfl rfl (by decide) (by decide)) tr_int (by decide)) (tr_var (i := 2) rfl rfl (by decide) (by decide)) (by decide)) (by decide)) tr_int (by decide)) (by decide)))
/-! ### flipped -/
abbrev s_flipped : Stmt := top 35
abbrev N_flipped : List Str := ["n", "index", "place"]
theorem sc_flipped : FnScope N_flipped ["n", "index", "place"] (defScope s_flipped) := ⟨rfl, rfl, rfl, by decide +kernel, rfl, by decide +kernel, by decide +kernel⟩
def mb_flipped : MM := (mRet (xOp (dBit Builtin.bitXor) (xVar 1) (xOp dShl (xC (.int 1)) (xOp dSub (xOp dSub (xVar 0) (xC (.int 1))) (xVar 2)))))
def m_flipped : List D → Option D := fnP 3 3 mb_flipped
theorem ok_flipped {f : Addr} {fd : FuncData} (F : FnP K "flipped" "flipped" s_flipped f fd) : FnOk P w K mg base CX0 1 f fd ["n", "index", "place"] (spP K m_flipped) :=
  fn_P F sc_flipped rfl rfl fun A hr => have hu := u64 hr
  (sss_one (ss_ret (W := []) (tr_opS (L0 := []) ho_bxor rs_bit (tr_var (i := 1) rfl rfl (by decide) (by decide)) (tr_opS (L0 := []) ho_shl rs_shl tr_int (tr_opS (L0 := []) ho_sub rs_sub (tr_opS (L0 := []) ho_sub rs_sub (tr_var (i := 0) rfl rfl (by decide) (by decide)) tr_int (by decide)) (tr_var (i := 2) rfl rfl (by decide) (by decide)) (by decide)) (by decide)) (by decide)) (by decide)))
/-! ### single_goals -/
abbrev s_single_goals : Stmt := top 36
abbrev N_single_goals : List Str := ["n", "index", "name", "place", "first", "other"]
theorem sc_single_goals : FnScope N_single_goals ["n", "index", "name", "place"] (defScope s_single_goals) := ⟨rfl, rfl, rfl, by decide +kernel, rfl, by decide +kernel, by decide +kernel⟩
def mb_single_goals : MM := (mSeq (mSet 4 (xFn m_figure (xaCons (xVar 0) (xaCons (xVar 1) (xaCons (xVar 3) xaNil)))))
  (mSeq (mSet 5 (xFn m_flipped (xaCons (xVar 0) (xaCons (xVar 1) (xaCons (xVar 3) xaNil)))))
  (mSeq (mIf (xT (xOp dEq (xVar 2) (xC (.str "h")))) (mRetF (xDisp (xaCons (xTup (xaCons (xFn dMin (xaCons (xVar 1) (xaCons (xVar 5) xaNil))) (xaCons (xC (.int 0)) xaNil))) (xaCons (xTup (xaCons (xFn dMax (xaCons (xVar 1) (xaCons (xVar 5) xaNil))) (xaCons (xOp dMul (xC (.int 2)) (xVar 4)) xaNil))) xaNil))))
  mSkip)
  (mSeq (mIf (xT (xOp dEq (xVar 2) (xC (.str "x")))) (mRetF (xDisp (xaCons (xTup (xaCons (xVar 5) (xaCons (xC (.int 0)) xaNil))) xaNil)))
  mSkip)
  (mSeq (mIf (xT (xOp dEq (xVar 2) (xC (.str "y")))) (mRetF (xDisp (xaCons (xTup (xaCons (xVar 5) (xaCons (xIf (xTru (xVar 4)) (xC (.int 3)) (xC (.int 1))) xaNil))) xaNil)))
  mSkip)
  (mRetF (xDisp (xaCons (xTup (xaCons (xVar 1) (xaCons (xOp dMul (xVar 4) (xDGet ["s", "z", "r"] (xaCons (xC (.int 1)) (xaCons (xC (.int 2)) (xaCons (xC (.int 3)) xaNil))) (xVar 2))) xaNil))) xaNil))))))))
def m_single_goals : List D → Option (List D) := fnL 4 6 mb_single_goals
theorem ok_single_goals {f : Addr} {fd : FuncData} (F : FnP K "single_goals" "single_goals" s_single_goals f fd) (b_max : mg "max" = none) (b_min : mg "min" = none) (F_figure : FnAt P w K mg base 1 "figure" ["n", "index", "place"] (spP K m_figure)) (F_flipped : FnAt P w K mg base 1 "flipped" ["n", "index", "place"] (spP K m_flipped)) : FnOk P w K mg base CX0 2 f fd ["n", "index", "name", "place"] (spL K m_single_goals) :=
  fn_L F sc_single_goals rfl rfl fun A hr => have hu := u64 hr
  (sss_cons (O1 := []) (ss_set (W := []) (i := 4) (O' := []) rfl rfl (tr_call F_figure (hr.mono (by decide)) rfl (ta_cons (tr_var (i := 0) rfl rfl (by decide) (by decide)) (ta_cons (tr_var (i := 1) rfl rfl (by decide) (by decide)) (ta_cons (tr_var (i := 3) rfl rfl (by decide) (by decide)) ta_nil (by decide)) (by decide)) (by decide)) (by decide)) (by decide) (by decide) (by decide) (by decide))
  (sss_cons (O1 := []) (ss_set (W := []) (i := 5) (O' := []) rfl rfl (tr_call F_flipped (hr.mono (by decide)) rfl (ta_cons (tr_var (i := 0) rfl rfl (by decide) (by decide)) (ta_cons (tr_var (i := 1) rfl rfl (by decide) (by decide)) (ta_cons (tr_var (i := 3) rfl rfl (by decide) (by decide)) ta_nil (by decide)) (by decide)) (by decide)) (by decide)) (by decide) (by decide) (by decide) (by decide))
  (sss_cons (O1 := []) (ss_if (W := []) (tt_cmp (L0 := []) (ho_eq hu) rs_eq (tr_var (i := 2) rfl rfl (by decide) (by decide)) tr_str (by decide) rfl) (sss_one (ss_retF (W := []) (tf_disp (ta_cons (tr_tup (ta_cons (tr_min1 (L0 := []) rfl b_min (ta_cons (tr_var (i := 1) rfl rfl (by decide) (by decide)) (ta_cons (tr_var (i := 5) rfl rfl (by decide) (by decide)) ta_nil (by decide)) (by decide))) (ta_cons tr_int ta_nil (by decide)) (by decide)) (by decide)) (ta_cons (tr_tup (ta_cons (tr_max1 (L0 := []) rfl b_max (ta_cons (tr_var (i := 1) rfl rfl (by decide) (by decide)) (ta_cons (tr_var (i := 5) rfl rfl (by decide) (by decide)) ta_nil (by decide)) (by decide))) (ta_cons (tr_opS (L0 := []) ho_mul rs_mul tr_int (tr_var (i := 4) rfl rfl (by decide) (by decide)) (by decide)) ta_nil (by decide)) (by decide)) (by decide)) ta_nil (by decide)) (by decide)) (by decide)) (by decide)))
  sss_nil (by decide))
  (sss_cons (O1 := []) (ss_if (W := []) (tt_cmp (L0 := []) (ho_eq hu) rs_eq (tr_var (i := 2) rfl rfl (by decide) (by decide)) tr_str (by decide) rfl) (sss_one (ss_retF (W := []) (tf_disp (ta_cons (tr_tup (ta_cons (tr_var (i := 5) rfl rfl (by decide) (by decide)) (ta_cons tr_int ta_nil (by decide)) (by decide)) (by decide)) ta_nil (by decide)) (by decide)) (by decide)))
  sss_nil (by decide))
  (sss_cons (O1 := []) (ss_if (W := []) (tt_cmp (L0 := []) (ho_eq hu) rs_eq (tr_var (i := 2) rfl rfl (by decide) (by decide)) tr_str (by decide) rfl) (sss_one (ss_retF (W := []) (tf_disp (ta_cons (tr_tup (ta_cons (tr_var (i := 5) rfl rfl (by decide) (by decide)) (ta_cons (tr_ifExp (tt_tru (L := []) (tr_var (i := 4) rfl rfl (by decide) (by decide))) tr_int tr_int) ta_nil (by decide)) (by decide)) (by decide)) ta_nil (by decide)) (by decide)) (by decide)))
  sss_nil (by decide))
  (sss_one (ss_retF (W := []) (tf_disp (ta_cons (tr_tup (ta_cons (tr_var (i := 1) rfl rfl (by decide) (by decide)) (ta_cons (tr_opS (L0 := []) ho_mul rs_mul (tr_var (i := 4) rfl rfl (by decide) (by decide)) (tr_dget (L0 := []) hu (tp_cons tr_int (tp_cons tr_int (tp_cons tr_int tp_nil (by decide)) (by decide)) (by decide)) (tr_var (i := 2) rfl rfl (by decide) (by decide)) (by decide) (by decide)) (by decide)) ta_nil (by decide)) (by decide)) (by decide)) ta_nil (by decide)) (by decide)) (by decide))))))))
/-! ### double_goals -/
abbrev s_double_goals : Stmt := top 37
abbrev N_double_goals : List Str := ["n", "index", "name", "places", "first", "second"]
theorem sc_double_goals : FnScope N_double_goals ["n", "index", "name", "places"] (defScope s_double_goals) := ⟨rfl, rfl, rfl, by decide +kernel, rfl, by decide +kernel, by decide +kernel⟩
def mb_double_goals : MM := (mSeq (mSet 4 (xFn m_figure (xaCons (xVar 0) (xaCons (xVar 1) (xaCons (xOp dIx (xVar 3) (xC (.int 0))) xaNil)))))
  (mSeq (mSet 5 (xFn m_figure (xaCons (xVar 0) (xaCons (xVar 1) (xaCons (xOp dIx (xVar 3) (xC (.int 1))) xaNil)))))
  (mSeq (mIf (xT (xOp dEq (xVar 2) (xC (.str "cz")))) (mRetF (xDisp (xaCons (xTup (xaCons (xVar 1) (xaCons (xOp dMul (xOp dMul (xC (.int 2)) (xVar 4)) (xVar 5)) xaNil))) xaNil)))
  mSkip)
  (mSeq (mIf (xT (xOp dEq (xVar 2) (xC (.str "cx")))) (mRetF (xDisp (xaCons (xTup (xaCons (xIf (xTru (xVar 4)) (xFn m_flipped (xaCons (xVar 0) (xaCons (xVar 1) (xaCons (xOp dIx (xVar 3) (xC (.int 1))) xaNil)))) (xVar 1)) (xaCons (xC (.int 0)) xaNil))) xaNil)))
  mSkip)
  (mSeq (mIf (xT (xOp dNe (xVar 4) (xVar 5))) (mRetF (xDisp (xaCons (xTup (xaCons (xFn m_flipped (xaCons (xVar 0) (xaCons (xFn m_flipped (xaCons (xVar 0) (xaCons (xVar 1) (xaCons (xOp dIx (xVar 3) (xC (.int 0))) xaNil)))) (xaCons (xOp dIx (xVar 3) (xC (.int 1))) xaNil)))) (xaCons (xC (.int 0)) xaNil))) xaNil)))
  mSkip)
  (mRetF (xDisp (xaCons (xTup (xaCons (xVar 1) (xaCons (xC (.int 0)) xaNil))) xaNil))))))))
def m_double_goals : List D → Option (List D) := fnL 4 6 mb_double_goals
theorem ok_double_goals {f : Addr} {fd : FuncData} (F : FnP K "double_goals" "double_goals" s_double_goals f fd) (F_figure : FnAt P w K mg base 1 "figure" ["n", "index", "place"] (spP K m_figure)) (F_flipped : FnAt P w K mg base 1 "flipped" ["n", "index", "place"] (spP K m_flipped)) : FnOk P w K mg base CX0 2 f fd ["n", "index", "name", "places"] (spL K m_double_goals) :=
  fn_L F sc_double_goals rfl rfl fun A hr => have hu := u64 hr
  (sss_cons (O1 := []) (ss_set (W := []) (i := 4) (O' := []) rfl rfl (tr_call F_figure (hr.mono (by decide)) rfl (ta_cons (tr_var (i := 0) rfl rfl (by decide) (by decide)) (ta_cons (tr_var (i := 1) rfl rfl (by decide) (by decide)) (ta_cons (tr_ix (tr_var (i := 3) rfl rfl (by decide) (by decide)) tr_int (by decide) (by decide)) ta_nil (by decide)) (by decide)) (by decide)) (by decide)) (by decide) (by decide) (by decide) (by decide))
  (sss_cons (O1 := []) (ss_set (W := []) (i := 5) (O' := []) rfl rfl (tr_call F_figure (hr.mono (by decide)) rfl (ta_cons (tr_var (i := 0) rfl rfl (by decide) (by decide)) (ta_cons (tr_var (i := 1) rfl rfl (by decide) (by decide)) (ta_cons (tr_ix (tr_var (i := 3) rfl rfl (by decide) (by decide)) tr_int (by decide) (by decide)) ta_nil (by decide)) (by decide)) (by decide)) (by decide)) (by decide) (by decide) (by decide) (by decide))
  (sss_cons (O1 := []) (ss_if (W := []) (tt_cmp (L0 := []) (ho_eq hu) rs_eq (tr_var (i := 2) rfl rfl (by decide) (by decide)) tr_str (by decide) rfl) (sss_one (ss_retF (W := []) (tf_disp (ta_cons (tr_tup (ta_cons (tr_var (i := 1) rfl rfl (by decide) (by decide)) (ta_cons (tr_opS (L0 := []) ho_mul rs_mul (tr_opS (L0 := []) ho_mul rs_mul tr_int (tr_var (i := 4) rfl rfl (by decide) (by decide)) (by decide)) (tr_var (i := 5) rfl rfl (by decide) (by decide)) (by decide)) ta_nil (by decide)) (by decide)) (by decide)) ta_nil (by decide)) (by decide)) (by decide)))
  sss_nil (by decide))
  (sss_cons (O1 := []) (ss_if (W := []) (tt_cmp (L0 := []) (ho_eq hu) rs_eq (tr_var (i := 2) rfl rfl (by decide) (by decide)) tr_str (by decide) rfl) (sss_one (ss_retF (W := []) (tf_disp (ta_cons (tr_tup (ta_cons (tr_ifExp (tt_tru (L := []) (tr_var (i := 4) rfl rfl (by decide) (by decide))) (tr_call F_flipped (hr.mono (by decide)) rfl (ta_cons (tr_var (i := 0) rfl rfl (by decide) (by decide)) (ta_cons (tr_var (i := 1) rfl rfl (by decide) (by decide)) (ta_cons (tr_ix (tr_var (i := 3) rfl rfl (by decide) (by decide)) tr_int (by decide) (by decide)) ta_nil (by decide)) (by decide)) (by decide)) (by decide)) (tr_var (i := 1) rfl rfl (by decide) (by decide))) (ta_cons tr_int ta_nil (by decide)) (by decide)) (by decide)) ta_nil (by decide)) (by decide)) (by decide)))
  sss_nil (by decide))
  (sss_cons (O1 := []) (ss_if (W := []) (tt_cmp (L0 := []) (ho_ne hu) rs_ne (tr_var (i := 4) rfl rfl (by decide) (by decide)) (tr_var (i := 5) rfl rfl (by decide) (by decide)) (by decide) rfl) (sss_one (ss_retF (W := []) (tf_disp (ta_cons (tr_tup (ta_cons (tr_call F_flipped (hr.mono (by decide)) rfl (ta_cons (tr_var (i := 0) rfl rfl (by decide) (by decide)) (ta_cons (tr_call F_flipped (hr.mono (by decide)) rfl (ta_cons (tr_var (i := 0) rfl rfl (by decide) (by decide)) (ta_cons (tr_var (i := 1) rfl rfl (by decide) (by decide)) (ta_cons (tr_ix (tr_var (i := 3) rfl rfl (by decide) (by decide)) tr_int (by decide) (by decide)) ta_nil (by decide)) (by decide)) (by decide)) (by decide)) (ta_cons (tr_ix (tr_var (i := 3) rfl rfl (by decide) (by decide)) tr_int (by decide) (by decide)) ta_nil (by decide)) (by decide)) (by decide)) (by decide)) (ta_cons tr_int ta_nil (by decide)) (by decide)) (by decide)) ta_nil (by decide)) (by decide)) (by decide)))
  sss_nil (by decide))
  (sss_one (ss_retF (W := []) (tf_disp (ta_cons (tr_tup (ta_cons (tr_var (i := 1) rfl rfl (by decide) (by decide)) (ta_cons tr_int ta_nil (by decide)) (by decide)) (by decide)) ta_nil (by decide)) (by decide)) (by decide))))))))
/-! ### turn_vector -/
abbrev s_turn_vector : Stmt := top 38
abbrev N_turn_vector : List Str := ["n", "vector", "name", "places", "found", "index", "number", "goals", "goal", "power"]
theorem sc_turn_vector : FnScope N_turn_vector ["n", "vector", "name", "places"] (defScope s_turn_vector) := ⟨rfl, rfl, rfl, by decide +kernel, rfl, by decide +kernel, by decide +kernel⟩
def mb_turn_vector : MM := (mSeq (mSetF 4 (xRep (xDisp (xaCons (xC c_NOTHING) xaNil)) (xFn dLen (xaCons (xVar 1) xaNil))))
  (mSeq (mFor (xEnum (xItemsLS (xVar 1))) (bTup 2 (bCons (bName 5) (bCons (bName 6) bNil))) (mForget [5, 6, 7, 8, 9] (mSeq (mIf (xT (xOp dEq (xFn dLen (xaCons (xVar 3) xaNil)) (xC (.int 1)))) (mSet 7 (xLst (xfMap m_single_goals (xaCons (xVar 0) (xaCons (xVar 5) (xaCons (xVar 2) (xaCons (xOp dIx (xVar 3) (xC (.int 0))) xaNil)))))))
  (mSet 7 (xLst (xfMap m_double_goals (xaCons (xVar 0) (xaCons (xVar 5) (xaCons (xVar 2) (xaCons (xVar 3) xaNil))))))))
  (mFor (xSeq (xVar 7)) (bTup 2 (bCons (bName 8) (bCons (bName 9) bNil))) (mForget [8, 9] (mSetIx 4 (xFn m_sum_of (xaCons (xIxOwn 4 (xVar 8)) (xaCons (xFn m_times_i (xaCons (xVar 6) (xaCons (xVar 9) xaNil))) xaNil))) (xVar 8)))))))
  (mRet (xLst (xOwn 4)))))
def m_turn_vector : List D → Option (List D) := fnL 4 10 mb_turn_vector
theorem ok_turn_vector {f : Addr} {fd : FuncData} (F : FnP K "turn_vector" "turn_vector" s_turn_vector f fd) (b_len : mg "len" = none) (b_enumerate : mg "enumerate" = none) {u_NOTHING : Value} {v_NOTHING : V} (g_NOTHING : mg "NOTHING" = some u_NOTHING ∧ RelV v_NOTHING u_NOTHING ∧ ∀ M, Rp K M v_NOTHING c_NOTHING) (F_single_goals : FnAt P w K mg base 2 "single_goals" ["n", "index", "name", "place"] (spL K m_single_goals)) (F_double_goals : FnAt P w K mg base 2 "double_goals" ["n", "index", "name", "places"] (spL K m_double_goals)) (F_sum_of : FnAt P w K mg base 1 "sum_of" ["one", "other"] (spP K m_sum_of)) (F_times_i : FnAt P w K mg base 1 "times_i" ["pair", "k"] (spP K m_times_i)) : FnOk P w K mg base CX0 3 f fd ["n", "vector", "name", "places"] (spL K m_turn_vector) :=
  fn_L F sc_turn_vector rfl rfl fun A hr => have hu := u64 hr
  (sss_cons (O1 := [4]) (ss_setF (W := []) (i := 4) (O' := [4]) rfl rfl (tf_rep (L0 := []) (tf_disp (ta_cons (tr_glob rfl g_NOTHING.1 g_NOTHING.2.1 g_NOTHING.2.2) ta_nil (by decide)) (by decide)) (tr_len (L0 := []) rfl b_len (ta_cons (tr_var (i := 1) rfl rfl (by decide) (by decide)) ta_nil (by decide))) (by decide) (by decide)) (by decide) (by decide) (by decide) (by decide))
  (sss_cons (O1 := [4]) (ss_for (W := []) (vs := [5, 6]) (ti_enumG rfl b_enumerate (tr_var (i := 1) rfl rfl (by decide) (by decide))) (tg_tup (tgs_cons (tg_name (i := 5) rfl rfl (by decide) (by decide)) (tgs_cons (tg_name (i := 6) rfl rfl (by decide) (by decide)) tgs_nil (by decide)) (by decide))) (sss_forget [5, 6, 7, 8, 9] (sss_cons (O1 := [4]) (ss_if (W := []) (tt_cmp (L0 := []) (ho_eq hu) rs_eq (tr_len (L0 := []) rfl b_len (ta_cons (tr_var (i := 3) rfl rfl (by decide) (by decide)) ta_nil (by decide))) tr_int (by decide) rfl) (sss_one (ss_setFu (W := []) (i := 7) (O' := [4]) rfl rfl (tf_call F_single_goals (hr.mono (by decide)) rfl (ta_cons (tr_var (i := 0) rfl rfl (by decide) (by decide)) (ta_cons (tr_var (i := 5) rfl rfl (by decide) (by decide)) (ta_cons (tr_var (i := 2) rfl rfl (by decide) (by decide)) (ta_cons (tr_ix (tr_var (i := 3) rfl rfl (by decide) (by decide)) tr_int (by decide) (by decide)) ta_nil (by decide)) (by decide)) (by decide)) (by decide)) (by decide) (by decide)) (by decide) (by decide) (by decide) (by decide)))
  (sss_one (ss_setFu (W := []) (i := 7) (O' := [4]) rfl rfl (tf_call F_double_goals (hr.mono (by decide)) rfl (ta_cons (tr_var (i := 0) rfl rfl (by decide) (by decide)) (ta_cons (tr_var (i := 5) rfl rfl (by decide) (by decide)) (ta_cons (tr_var (i := 2) rfl rfl (by decide) (by decide)) (ta_cons (tr_var (i := 3) rfl rfl (by decide) (by decide)) ta_nil (by decide)) (by decide)) (by decide)) (by decide)) (by decide) (by decide)) (by decide) (by decide) (by decide) (by decide))) (by decide))
  (sss_one (ss_for (W := []) (vs := [8, 9]) (ti_E (by decide) (tr_var (i := 7) rfl rfl (by decide) (by decide))) (tg_tup (tgs_cons (tg_name (i := 8) rfl rfl (by decide) (by decide)) (tgs_cons (tg_name (i := 9) rfl rfl (by decide) (by decide)) tgs_nil (by decide)) (by decide))) (sss_forget [8, 9] (sss_one (ss_setIx (W := []) (L0 := []) (i := 4) rfl rfl (by decide) (tr_call F_sum_of (hr.mono (by decide)) rfl (ta_cons (tr_ixOwn (L0 := []) (i := 4) rfl rfl (by decide) (by decide) (tr_var (i := 8) rfl rfl (by decide) (by decide))) (ta_cons (tr_call F_times_i (hr.mono (by decide)) rfl (ta_cons (tr_var (i := 6) rfl rfl (by decide) (by decide)) (ta_cons (tr_var (i := 9) rfl rfl (by decide) (by decide)) ta_nil (by decide)) (by decide)) (by decide)) ta_nil (by decide)) (by decide)) (by decide)) (tr_var (i := 8) rfl rfl (by decide) (by decide)) (by decide))) (by decide)) (by decide) (by decide)))) (by decide)) (by decide) (by decide))
  (sss_one (ss_retO (i := 4) rfl rfl (by decide) (by decide)))))
/-! ### size_of -/
abbrev s_size_of : Stmt := top 39
abbrev N_size_of : List Str := ["vector", "a", "b"]
theorem sc_size_of : FnScope N_size_of ["vector"] (defScope s_size_of) := ⟨rfl, rfl, rfl, by decide +kernel, rfl, by decide +kernel, by decide +kernel⟩
def mb_size_of : MM := (mRet (xFn dSum (xaCons (xLst (xLc (xSeq (xVar 0)) [1, 2] (bTup 2 (bCons (bName 1) (bCons (bName 2) bNil))) xYes (xOp dAdd (xOp dMul (xVar 1) (xVar 1)) (xOp dMul (xVar 2) (xVar 2))))) xaNil)))
def m_size_of : List D → Option D := fnP 1 3 mb_size_of
theorem ok_size_of {f : Addr} {fd : FuncData} (F : FnP K "size_of" "size_of" s_size_of f fd) (b_sum : mg "sum" = none) : FnOk P w K mg base CX0 1 f fd ["vector"] (spP K m_size_of) :=
  fn_P F sc_size_of rfl rfl fun A hr => have hu := u64 hr
  (sss_one (ss_ret (W := []) (tr_sum (L0 := []) rfl b_sum (ta_cons (tr_F (by decide) (tf_lc [("a", 1), ("b", 2)] (ti_E (by decide) (tr_var (i := 0) rfl rfl (by decide) (by decide))) rfl (tg_tup (tgs_cons (tg_name (i := 1) rfl rfl (by decide) (by decide)) (tgs_cons (tg_name (i := 2) rfl rfl (by decide) (by decide)) tgs_nil (by decide)) (by decide))) tts_nil (tr_opS (L0 := []) ho_add rs_add (tr_opS (L0 := []) ho_mul rs_mul (tr_var (i := 1) rfl rfl (by decide) (by decide)) (tr_var (i := 1) rfl rfl (by decide) (by decide)) (by decide)) (tr_opS (L0 := []) ho_mul rs_mul (tr_var (i := 2) rfl rfl (by decide) (by decide)) (tr_var (i := 2) rfl rfl (by decide) (by decide)) (by decide)) (by decide)) (by decide) (by decide) (by decide))) ta_nil (by decide))) (by decide)))
/-! ### lowest -/
abbrev s_lowest : Stmt := top 40
abbrev N_lowest : List Str := ["a", "b", "common"]
theorem sc_lowest : FnScope N_lowest ["a", "b"] (defScope s_lowest) := ⟨rfl, rfl, rfl, by decide +kernel, rfl, by decide +kernel, by decide +kernel⟩
def mb_lowest : MM := (mSeq (mSet 2 (xFn dGcd (xaCons (xVar 0) (xaCons (xVar 1) xaNil))))
  (mRet (xTup (xaCons (xOp dDiv (xVar 0) (xVar 2)) (xaCons (xOp dDiv (xVar 1) (xVar 2)) xaNil)))))
def m_lowest : List D → Option D := fnP 2 3 mb_lowest
theorem ok_lowest {f : Addr} {fd : FuncData} (F : FnP K "lowest" "lowest" s_lowest f fd) (X0 : mg "gcd" = some (.builtin "math.gcd")) : FnOk P w K mg base CX0 1 f fd ["a", "b"] (spP K m_lowest) :=
  fn_P F sc_lowest rfl rfl fun A hr => have hu := u64 hr
  (sss_cons (O1 := []) (ss_set (W := []) (i := 2) (O' := []) rfl rfl (tr_gcd (L0 := []) rfl X0 (ta_cons (tr_var (i := 0) rfl rfl (by decide) (by decide)) (ta_cons (tr_var (i := 1) rfl rfl (by decide) (by decide)) ta_nil (by decide)) (by decide))) (by decide) (by decide) (by decide) (by decide))
  (sss_one (ss_ret (W := []) (tr_tup (ta_cons (tr_opS (L0 := []) ho_div rs_div (tr_var (i := 0) rfl rfl (by decide) (by decide)) (tr_var (i := 2) rfl rfl (by decide) (by decide)) (by decide)) (ta_cons (tr_opS (L0 := []) ho_div rs_div (tr_var (i := 1) rfl rfl (by decide) (by decide)) (tr_var (i := 2) rfl rfl (by decide) (by decide)) (by decide)) ta_nil (by decide)) (by decide)) (by decide)) (by decide))))
/-! ### mean_of -/
abbrev s_mean_of : Stmt := top 41
abbrev N_mean_of : List Str := ["n", "vector", "letters", "led", "place", "letter", "total", "one", "other"]
theorem sc_mean_of : FnScope N_mean_of ["n", "vector", "letters"] (defScope s_mean_of) := ⟨rfl, rfl, rfl, by decide +kernel, rfl, by decide +kernel, by decide +kernel⟩
def mb_mean_of : MM := (mSeq (mSet 3 (xLst (xSeq (xVar 1))))
  (mSeq (mFor (xEnum (xItemsLS (xVar 2))) (bTup 2 (bCons (bName 4) (bCons (bName 5) bNil))) (mForget [4, 5] (mIf (xT (xUn (dInK d_LETTER_TURNS false) (xVar 5))) (mSet 3 (xLst (xfMap m_turn_vector (xaCons (xVar 0) (xaCons (xVar 3) (xaCons (xUn (dKey d_LETTER_TURNS) (xVar 5)) (xaCons (xLst (xDisp (xaCons (xVar 4) xaNil))) xaNil)))))))
  mSkip)))
  (mSeq (mSet 6 (xFn dSum (xaCons (xLst (xLc (xZip (xItems (xVar 1)) (xItems (xVar 3))) [7, 8] (bTup 2 (bCons (bName 7) (bCons (bName 8) bNil))) xYes (xOp dAdd (xOp dMul (xOp dIx (xVar 7) (xC (.int 0))) (xOp dIx (xVar 8) (xC (.int 0)))) (xOp dMul (xOp dIx (xVar 7) (xC (.int 1))) (xOp dIx (xVar 8) (xC (.int 1))))))) xaNil)))
  (mRet (xFn m_lowest (xaCons (xVar 6) (xaCons (xFn m_size_of (xaCons (xVar 1) xaNil)) xaNil)))))))
def m_mean_of : List D → Option D := fnP 3 9 mb_mean_of
theorem ok_mean_of {f : Addr} {fd : FuncData} (F : FnP K "mean_of" "mean_of" s_mean_of f fd) (b_list : mg "list" = none) (b_enumerate : mg "enumerate" = none) (b_sum : mg "sum" = none) (b_zip : mg "zip" = none) {q_LETTER_TURNS : Addr} (g_LETTER_TURNS : mg "LETTER_TURNS" = some (.ref q_LETTER_TURNS) ∧ KDg K w q_LETTER_TURNS d_LETTER_TURNS) (F_turn_vector : FnAt P w K mg base 3 "turn_vector" ["n", "vector", "name", "places"] (spL K m_turn_vector)) (F_lowest : FnAt P w K mg base 1 "lowest" ["a", "b"] (spP K m_lowest)) (F_size_of : FnAt P w K mg base 1 "size_of" ["vector"] (spP K m_size_of)) : FnOk P w K mg base CX0 4 f fd ["n", "vector", "letters"] (spP K m_mean_of) :=
  fn_P F sc_mean_of rfl rfl fun A hr => have hu := u64 hr
  (sss_cons (O1 := []) (ss_setFu (W := []) (i := 3) (O' := []) rfl rfl (tf_list rfl b_list (tq_E (by decide) (tr_var (i := 1) rfl rfl (by decide) (by decide))) (by decide)) (by decide) (by decide) (by decide) (by decide))
  (sss_cons (O1 := []) (ss_for (W := []) (vs := [4, 5]) (ti_enumG rfl b_enumerate (tr_var (i := 2) rfl rfl (by decide) (by decide))) (tg_tup (tgs_cons (tg_name (i := 4) rfl rfl (by decide) (by decide)) (tgs_cons (tg_name (i := 5) rfl rfl (by decide) (by decide)) tgs_nil (by decide)) (by decide))) (sss_forget [4, 5] (sss_one (ss_if (W := []) (tt_inK (L0 := []) rfl g_LETTER_TURNS.1 g_LETTER_TURNS.2 (tr_var (i := 5) rfl rfl (by decide) (by decide))) (sss_one (ss_setFu (W := []) (i := 3) (O' := []) rfl rfl (tf_call F_turn_vector (hr.mono (by decide)) rfl (ta_cons (tr_var (i := 0) rfl rfl (by decide) (by decide)) (ta_cons (tr_var (i := 3) rfl rfl (by decide) (by decide)) (ta_cons (tr_gdict (L0 := []) rfl g_LETTER_TURNS.1 g_LETTER_TURNS.2.m (tr_var (i := 5) rfl rfl (by decide) (by decide))) (ta_cons (tr_F (by decide) (tf_disp (ta_cons (tr_var (i := 4) rfl rfl (by decide) (by decide)) ta_nil (by decide)) (by decide))) ta_nil (by decide)) (by decide)) (by decide)) (by decide)) (by decide) (by decide)) (by decide) (by decide) (by decide) (by decide)))
  sss_nil (by decide))) (by decide)) (by decide) (by decide))
  (sss_cons (O1 := []) (ss_set (W := []) (i := 6) (O' := []) rfl rfl (tr_sum (L0 := []) rfl b_sum (ta_cons (tr_F (by decide) (tf_lc [("one", 7), ("other", 8)] (ti_zipG rfl b_zip (tr_var (i := 1) rfl rfl (by decide) (by decide)) (tr_var (i := 3) rfl rfl (by decide) (by decide)) (by decide)) rfl (tg_tup (tgs_cons (tg_name (i := 7) rfl rfl (by decide) (by decide)) (tgs_cons (tg_name (i := 8) rfl rfl (by decide) (by decide)) tgs_nil (by decide)) (by decide))) tts_nil (tr_opS (L0 := []) ho_add rs_add (tr_opS (L0 := []) ho_mul rs_mul (tr_ix (tr_var (i := 7) rfl rfl (by decide) (by decide)) tr_int (by decide) (by decide)) (tr_ix (tr_var (i := 8) rfl rfl (by decide) (by decide)) tr_int (by decide) (by decide)) (by decide)) (tr_opS (L0 := []) ho_mul rs_mul (tr_ix (tr_var (i := 7) rfl rfl (by decide) (by decide)) tr_int (by decide) (by decide)) (tr_ix (tr_var (i := 8) rfl rfl (by decide) (by decide)) tr_int (by decide) (by decide)) (by decide)) (by decide)) (by decide) (by decide) (by decide))) ta_nil (by decide))) (by decide) (by decide) (by decide) (by decide))
  (sss_one (ss_ret (W := []) (tr_call F_lowest (hr.mono (by decide)) rfl (ta_cons (tr_var (i := 6) rfl rfl (by decide) (by decide)) (ta_cons (tr_call F_size_of (hr.mono (by decide)) rfl (ta_cons (tr_var (i := 1) rfl rfl (by decide) (by decide)) ta_nil (by decide)) (by decide)) ta_nil (by decide)) (by decide)) (by decide)) (by decide))))))
/-! ### _law_feed -/
abbrev s__law_feed : Stmt := top 43
abbrev N__law_feed : List Str := ["script"]
theorem sc__law_feed : FnScope N__law_feed ["script"] (defScope s__law_feed) := ⟨rfl, rfl, rfl, by decide +kernel, rfl, by decide +kernel, by decide +kernel⟩
def mb__law_feed : MM := (mRetF (xDisp (xaCons (xLst (xSeq (xVar 0))) (xaCons (xC (.int 0)) (xaCons (xC (.int 0)) (xaCons (xC (.int 1)) xaNil))))))
def m__law_feed : List D → Option (List D) := fnL 1 1 mb__law_feed
theorem ok__law_feed {f : Addr} {fd : FuncData} (F : FnP K "_law_feed" "_law_feed" s__law_feed f fd) (b_list : mg "list" = none) : FnOk P w K mg base CX0 1 f fd ["script"] (spL K m__law_feed) :=
  fn_L F sc__law_feed rfl rfl fun A hr => have hu := u64 hr
  (sss_one (ss_retF (W := []) (tf_disp (ta_cons (tr_F (by decide) (tf_list rfl b_list (tq_E (by decide) (tr_var (i := 0) rfl rfl (by decide) (by decide))) (by decide))) (ta_cons tr_int (ta_cons tr_int (ta_cons tr_int ta_nil (by decide)) (by decide)) (by decide)) (by decide)) (by decide)) (by decide)))
/-! ### _law_draw -/
abbrev s__law_draw : Stmt := top 44
abbrev N__law_draw : List Str := ["feed", "many", "cell", "told", "mixed"]
theorem sc__law_draw : FnScope N__law_draw ["feed", "many"] (defScope s__law_draw) := ⟨rfl, rfl, rfl, by decide +kernel, rfl, by decide +kernel, by decide +kernel⟩
def mb__law_draw : MM := (mSeq (mIf (xAnd (xT (xOp dEq (xIxOwn 0 (xC (.int 2))) (xC (.int 0)))) (xT (xOp dLt (xIxOwn 0 (xC (.int 1))) (xFn dLen (xaCons (xIxOwn 0 (xC (.int 0))) xaNil))))) (mSeq (mSet 2 (xFn dAbs (xaCons (xFn dInt (xaCons (xOp dIx (xIxOwn 0 (xC (.int 0))) (xIxOwn 0 (xC (.int 1)))) xaNil)) xaNil)))
  (mSeq (mAugIx dAddI 0 (xC (.int 1)) (xC (.int 1)))
  (mIf (xT (xOp dGe (xVar 2) (xOp dPow (xC (.int 10)) (xC (.int 18))))) (mSetIx 0 (xVar 2) (xC (.int 2)))
  (mSetIx 0 (xOp dMod (xFn dInt (xaCons (xOp dAdd (xOp dAdd (xOp dMul (xIxOwn 0 (xC (.int 3))) (xC (.int 48271))) (xOp dMul (xVar 2) (xC (.int 69621)))) (xIxOwn 0 (xC (.int 1)))) xaNil)) (xC (.int 2147483647))) (xC (.int 3))))))
  mSkip)
  (mSeq (mIf (xT (xOp dGt (xIxOwn 0 (xC (.int 2))) (xC (.int 0)))) (mSeq (mSet 3 (xOp dMod (xFn dInt (xaCons (xIxOwn 0 (xC (.int 2))) xaNil)) (xVar 1)))
  (mSeq (mSetIx 0 (xOp dDiv (xIxOwn 0 (xC (.int 2))) (xVar 1)) (xC (.int 2)))
  (mRet (xVar 3))))
  mSkip)
  (mSeq (mSetIx 0 (xOp dMod (xFn dInt (xaCons (xOp dAdd (xOp dMul (xIxOwn 0 (xC (.int 3))) (xC (.int 16807))) (xC (.int 12345))) xaNil)) (xC (.int 2147483647))) (xC (.int 3)))
  (mSeq (mSet 4 (xOp dMod (xFn dInt (xaCons (xOp dAdd (xOp dMul (xIxOwn 0 (xC (.int 3))) (xIxOwn 0 (xC (.int 3)))) (xIxOwn 0 (xC (.int 3)))) xaNil)) (xC (.int 2147483629))))
  (mRet (xOp dMod (xOp dDiv (xVar 4) (xC (.int 11))) (xVar 1)))))))
def m__law_draw : List D → List D → Option (D × List D) := fnT 2 5 mb__law_draw
theorem ok__law_draw {f : Addr} {fd : FuncData} (F : FnP K "_law_draw" "_law_draw" s__law_draw f fd) (b_len : mg "len" = none) (b_abs : mg "abs" = none) (b_int : mg "int" = none) : FnOk P w K mg base CX0 1 f fd ["feed", "many"] (spT K m__law_draw) :=
  fn_T F sc__law_draw rfl rfl fun A hr => have hu := u64 hr
  (sss_cons (O1 := [0]) (ss_if (W := []) (tt_W (tw_and (tt_cmp (L0 := []) (ho_eq hu) rs_eq (tr_ixOwn (L0 := []) (i := 0) rfl rfl (by decide) (by decide) tr_int) tr_int (by decide) rfl) (tw_and1 (tt_cmp (L0 := []) ho_lt rs_lt (tr_ixOwn (L0 := []) (i := 0) rfl rfl (by decide) (by decide) tr_int) (tr_len (L0 := []) rfl b_len (ta_cons (tr_ixOwn (L0 := []) (i := 0) rfl rfl (by decide) (by decide) tr_int) ta_nil (by decide))) (by decide) rfl)))) (sss_cons (O1 := [0]) (ss_set (W := []) (i := 2) (O' := [0]) rfl rfl (tr_abs (L0 := []) rfl b_abs (ta_cons (tr_intC (L0 := []) rfl b_int (ta_cons (tr_ix (tr_ixOwn (L0 := []) (i := 0) rfl rfl (by decide) (by decide) tr_int) (tr_ixOwn (L0 := []) (i := 0) rfl rfl (by decide) (by decide) tr_int) (by decide) (by decide)) ta_nil (by decide))) ta_nil (by decide))) (by decide) (by decide) (by decide) (by decide))
  (sss_cons (O1 := [0]) (ss_augIx (L0 := []) (L := []) (i := 0) ho_iadd rs_addI rfl rfl (by decide) tr_int tr_int)
  (sss_one (ss_if (W := []) (tt_cmp (L0 := []) ho_ge rs_ge (tr_var (i := 2) rfl rfl (by decide) (by decide)) (tr_opS (L0 := []) ho_pow rs_pow tr_int tr_int (by decide)) (by decide) rfl) (sss_one (ss_setIx (W := []) (L0 := []) (i := 0) rfl rfl (by decide) (tr_var (i := 2) rfl rfl (by decide) (by decide)) tr_int (by decide)))
  (sss_one (ss_setIx (W := []) (L0 := []) (i := 0) rfl rfl (by decide) (tr_opS (L0 := []) ho_mod rs_mod (tr_intC (L0 := []) rfl b_int (ta_cons (tr_opS (L0 := []) ho_add rs_add (tr_opS (L0 := []) ho_add rs_add (tr_opS (L0 := []) ho_mul rs_mul (tr_ixOwn (L0 := []) (i := 0) rfl rfl (by decide) (by decide) tr_int) tr_int (by decide)) (tr_opS (L0 := []) ho_mul rs_mul (tr_var (i := 2) rfl rfl (by decide) (by decide)) tr_int (by decide)) (by decide)) (tr_ixOwn (L0 := []) (i := 0) rfl rfl (by decide) (by decide) tr_int) (by decide)) ta_nil (by decide))) tr_int (by decide)) tr_int (by decide))) (by decide)))))
  sss_nil (by decide))
  (sss_cons (O1 := [0]) (ss_if (W := []) (tt_cmp (L0 := []) ho_gt rs_gt (tr_ixOwn (L0 := []) (i := 0) rfl rfl (by decide) (by decide) tr_int) tr_int (by decide) rfl) (sss_cons (O1 := [0]) (ss_set (W := []) (i := 3) (O' := [0]) rfl rfl (tr_opS (L0 := []) ho_mod rs_mod (tr_intC (L0 := []) rfl b_int (ta_cons (tr_ixOwn (L0 := []) (i := 0) rfl rfl (by decide) (by decide) tr_int) ta_nil (by decide))) (tr_var (i := 1) rfl rfl (by decide) (by decide)) (by decide)) (by decide) (by decide) (by decide) (by decide))
  (sss_cons (O1 := [0]) (ss_setIx (W := []) (L0 := []) (i := 0) rfl rfl (by decide) (tr_opS (L0 := []) ho_div rs_div (tr_ixOwn (L0 := []) (i := 0) rfl rfl (by decide) (by decide) tr_int) (tr_var (i := 1) rfl rfl (by decide) (by decide)) (by decide)) tr_int (by decide))
  (sss_one (ss_ret (W := []) (tr_var (i := 3) rfl rfl (by decide) (by decide)) (by decide)))))
  sss_nil (by decide))
  (sss_cons (O1 := [0]) (ss_setIx (W := []) (L0 := []) (i := 0) rfl rfl (by decide) (tr_opS (L0 := []) ho_mod rs_mod (tr_intC (L0 := []) rfl b_int (ta_cons (tr_opS (L0 := []) ho_add rs_add (tr_opS (L0 := []) ho_mul rs_mul (tr_ixOwn (L0 := []) (i := 0) rfl rfl (by decide) (by decide) tr_int) tr_int (by decide)) tr_int (by decide)) ta_nil (by decide))) tr_int (by decide)) tr_int (by decide))
  (sss_cons (O1 := [0]) (ss_set (W := []) (i := 4) (O' := [0]) rfl rfl (tr_opS (L0 := []) ho_mod rs_mod (tr_intC (L0 := []) rfl b_int (ta_cons (tr_opS (L0 := []) ho_add rs_add (tr_opS (L0 := []) ho_mul rs_mul (tr_ixOwn (L0 := []) (i := 0) rfl rfl (by decide) (by decide) tr_int) (tr_ixOwn (L0 := []) (i := 0) rfl rfl (by decide) (by decide) tr_int) (by decide)) (tr_ixOwn (L0 := []) (i := 0) rfl rfl (by decide) (by decide) tr_int) (by decide)) ta_nil (by decide))) tr_int (by decide)) (by decide) (by decide) (by decide) (by decide))
  (sss_one (ss_ret (W := []) (tr_opS (L0 := []) ho_mod rs_mod (tr_opS (L0 := []) ho_div rs_div (tr_var (i := 4) rfl rfl (by decide) (by decide)) tr_int (by decide)) (tr_var (i := 1) rfl rfl (by decide) (by decide)) (by decide)) (by decide)))))))
/-! ### _law_letters -/
abbrev s__law_letters : Stmt := top 45
abbrev N__law_letters : List Str := ["feed", "m", "k"]
theorem sc__law_letters : FnScope N__law_letters ["feed", "m"] (defScope s__law_letters) := ⟨rfl, rfl, rfl, by decide +kernel, rfl, by decide +kernel, by decide +kernel⟩
def mb__law_letters : MM := (mRet (xMt dJoin (xC (.str "")) (xaCons (xLst (xLc (xRg1 (xVar 1)) [2] (bName 2) xYes (xOp dIx (xC (.str "IXYZ")) (xCallT 0 m__law_draw (xaCons (xC (.int 4)) xaNil))))) xaNil)))
def m__law_letters : List D → List D → Option (D × List D) := fnT 2 3 mb__law_letters
theorem ok__law_letters {f : Addr} {fd : FuncData} (F : FnP K "_law_letters" "_law_letters" s__law_letters f fd) (b_range : mg "range" = none) (F__law_draw : FnAt P w K mg base 1 "_law_draw" ["feed", "many"] (spT K m__law_draw)) : FnOk P w K mg base CX0 2 f fd ["feed", "m"] (spT K m__law_letters) :=
  fn_T F sc__law_letters rfl rfl fun A hr => have hu := u64 hr
  (sss_one (ss_ret (W := [0]) (tr_join (L0 := [0]) (tr_wk tr_str) (ta_cons (tr_F (by decide) (tf_lc [("k", 2)] (ti_rng1 (L0 := [0]) rfl b_range (tr_wk (tr_var (i := 1) rfl rfl (by decide) (by decide)))) rfl (tg_name (i := 2) rfl rfl (by decide) (by decide)) tts_nil (tr_ix (tr_wk tr_str) (tr_callT (i := 0) F__law_draw (hr.mono (by decide)) rfl rfl rfl (by decide) (ta_wk (ta_cons tr_int ta_nil (by decide))) (by decide) (by decide)) (by decide) (by decide)) (by decide) (by decide) (by decide))) ta_nil (by decide)) (by decide)) (by decide)))
/-! ### _law_product -/
abbrev s__law_product : Stmt := top 46
abbrev N__law_product : List Str := ["one", "other", "power", "found", "k", "pair", "x"]
theorem sc__law_product : FnScope N__law_product ["one", "other"] (defScope s__law_product) := ⟨rfl, rfl, rfl, by decide +kernel, rfl, by decide +kernel, by decide +kernel⟩
def mb__law_product : MM := (mSeq (mSet 2 (xC (.int 0)))
  (mSeq (mSet 3 (xC (.str "")))
  (mSeq (mFor (xRg1 (xFn dLen (xaCons (xVar 0) xaNil))) (bName 4) (mForget [4, 5] (mSeq (mSet 5 (xOp dAdd (xOp dIx (xVar 0) (xVar 4)) (xOp dIx (xVar 1) (xVar 4))))
  (mSeq (mIf (xT (xOp (dIn false) (xVar 5) (xLst (xDisp (xaCons (xC (.str "XY")) (xaCons (xC (.str "YZ")) (xaCons (xC (.str "ZX")) xaNil))))))) (mAug dAddI 2 (xC (.int 1)))
  mSkip)
  (mSeq (mIf (xT (xOp (dIn false) (xVar 5) (xLst (xDisp (xaCons (xC (.str "YX")) (xaCons (xC (.str "ZY")) (xaCons (xC (.str "XZ")) xaNil))))))) (mAug dAddI 2 (xC (.int 3)))
  mSkip)
  (mIf (xT (xOp dEq (xOp dIx (xVar 0) (xVar 4)) (xOp dIx (xVar 1) (xVar 4)))) (mSet 3 (xOp dAdd (xVar 3) (xC (.str "I"))))
  (mIf (xT (xOp (dInS false) (xC (.str "I")) (xVar 5))) (mSet 3 (xOp dAdd (xVar 3) (xUn (dRpl "I" "") (xVar 5))))
  (mSet 3 (xOp dAdd (xVar 3) (xOp dIx (xLst (xLc (xSigns (xC (.str "XYZ"))) [6] (bName 6) (xT (xOp (dInS true) (xVar 6) (xVar 5))) (xVar 6))) (xC (.int 0))))))))))))
  (mRet (xTup (xaCons (xOp dMod (xFn dInt (xaCons (xVar 2) xaNil)) (xC (.int 4))) (xaCons (xVar 3) xaNil)))))))
def m__law_product : List D → Option D := fnP 2 7 mb__law_product
theorem ok__law_product {f : Addr} {fd : FuncData} (F : FnP K "_law_product" "_law_product" s__law_product f fd) (b_range : mg "range" = none) (b_len : mg "len" = none) (b_int : mg "int" = none) : FnOk P w K mg base CX0 1 f fd ["one", "other"] (spP K m__law_product) :=
  fn_P F sc__law_product rfl rfl fun A hr => have hu := u64 hr
  (sss_cons (O1 := []) (ss_set (W := []) (i := 2) (O' := []) rfl rfl tr_int (by decide) (by decide) (by decide) (by decide))
  (sss_cons (O1 := []) (ss_set (W := []) (i := 3) (O' := []) rfl rfl tr_str (by decide) (by decide) (by decide) (by decide))
  (sss_cons (O1 := []) (ss_for (W := []) (vs := [4]) (ti_rng1 (L0 := []) rfl b_range (tr_len (L0 := []) rfl b_len (ta_cons (tr_var (i := 0) rfl rfl (by decide) (by decide)) ta_nil (by decide)))) (tg_name (i := 4) rfl rfl (by decide) (by decide)) (sss_forget [4, 5] (sss_cons (O1 := []) (ss_set (W := []) (i := 5) (O' := []) rfl rfl (tr_opS (L0 := []) ho_add rs_add (tr_ix (tr_var (i := 0) rfl rfl (by decide) (by decide)) (tr_var (i := 4) rfl rfl (by decide) (by decide)) (by decide) (by decide)) (tr_ix (tr_var (i := 1) rfl rfl (by decide) (by decide)) (tr_var (i := 4) rfl rfl (by decide) (by decide)) (by decide) (by decide)) (by decide)) (by decide) (by decide) (by decide) (by decide))
  (sss_cons (O1 := []) (ss_if (W := []) (tt_cmp (L0 := []) ho_in (rs_in false) (tr_var (i := 5) rfl rfl (by decide) (by decide)) (tr_F (by decide) (tf_disp (ta_cons tr_str (ta_cons tr_str (ta_cons tr_str ta_nil (by decide)) (by decide)) (by decide)) (by decide))) (by decide) rfl) (sss_one (ss_aug (W := []) (i := 2) ho_iadd rs_addI rfl rfl (by decide) (by decide) (by decide) tr_int (by decide)))
  sss_nil (by decide))
  (sss_cons (O1 := []) (ss_if (W := []) (tt_cmp (L0 := []) ho_in (rs_in false) (tr_var (i := 5) rfl rfl (by decide) (by decide)) (tr_F (by decide) (tf_disp (ta_cons tr_str (ta_cons tr_str (ta_cons tr_str ta_nil (by decide)) (by decide)) (by decide)) (by decide))) (by decide) rfl) (sss_one (ss_aug (W := []) (i := 2) ho_iadd rs_addI rfl rfl (by decide) (by decide) (by decide) tr_int (by decide)))
  sss_nil (by decide))
  (sss_one (ss_if (W := []) (tt_cmp (L0 := []) (ho_eq hu) rs_eq (tr_ix (tr_var (i := 0) rfl rfl (by decide) (by decide)) (tr_var (i := 4) rfl rfl (by decide) (by decide)) (by decide) (by decide)) (tr_ix (tr_var (i := 1) rfl rfl (by decide) (by decide)) (tr_var (i := 4) rfl rfl (by decide) (by decide)) (by decide) (by decide)) (by decide) rfl) (sss_one (ss_set (W := []) (i := 3) (O' := []) rfl rfl (tr_opS (L0 := []) ho_add rs_add (tr_var (i := 3) rfl rfl (by decide) (by decide)) tr_str (by decide)) (by decide) (by decide) (by decide) (by decide)))
  (sss_one (ss_ifRep (i := 3) ho_inS rs_inS (tr_var (i := 5) rfl rfl (by decide) (by decide)) rfl ho_add rs_add (tr_var (i := 3) rfl rfl (by decide) (by decide)) (tr_var (i := 5) rfl rfl (by decide) (by decide)) rfl rfl (by decide) (by decide) (by decide)
  (sss_one (ss_set (W := []) (i := 3) (O' := []) rfl rfl (tr_opS (L0 := []) ho_add rs_add (tr_var (i := 3) rfl rfl (by decide) (by decide)) (tr_ix (tr_F (by decide) (tf_lc [("x", 6)] (ti_str (L := []) tr_str) rfl (tg_name (i := 6) rfl rfl (by decide) (by decide)) (tts_one (tt_cmp (L0 := []) ho_ninS rs_ninS (tr_var (i := 6) rfl rfl (by decide) (by decide)) (tr_var (i := 5) rfl rfl (by decide) (by decide)) (by decide) rfl)) (tr_var (i := 6) rfl rfl (by decide) (by decide)) (by decide) (by decide) (by decide))) tr_int (by decide) (by decide)) (by decide)) (by decide) (by decide) (by decide) (by decide))))) (by decide)))))) (by decide)) (by decide) (by decide))
  (sss_one (ss_ret (W := []) (tr_tup (ta_cons (tr_opS (L0 := []) ho_mod rs_mod (tr_intC (L0 := []) rfl b_int (ta_cons (tr_var (i := 2) rfl rfl (by decide) (by decide)) ta_nil (by decide))) tr_int (by decide)) (ta_cons (tr_var (i := 3) rfl rfl (by decide) (by decide)) ta_nil (by decide)) (by decide)) (by decide)) (by decide))))))
/-! ### _law_agree -/
abbrev s__law_agree : Stmt := top 47
abbrev N__law_agree : List Str := ["one", "other", "k"]
theorem sc__law_agree : FnScope N__law_agree ["one", "other"] (defScope s__law_agree) := ⟨rfl, rfl, rfl, by decide +kernel, rfl, by decide +kernel, by decide +kernel⟩
def mb__law_agree : MM := (mRet (xOp dEq (xOp dMod (xFn dLen (xaCons (xLst (xLc (xRg1 (xFn dLen (xaCons (xVar 0) xaNil))) [2] (bName 2) (xAnd (xT (xOp dNe (xOp dIx (xVar 0) (xVar 2)) (xOp dIx (xVar 1) (xVar 2)))) (xAnd (xT (xOp dNe (xOp dIx (xVar 0) (xVar 2)) (xC (.str "I")))) (xT (xOp dNe (xOp dIx (xVar 1) (xVar 2)) (xC (.str "I")))))) (xVar 2))) xaNil)) (xC (.int 2))) (xC (.int 0))))
def m__law_agree : List D → Option D := fnP 2 3 mb__law_agree
theorem ok__law_agree {f : Addr} {fd : FuncData} (F : FnP K "_law_agree" "_law_agree" s__law_agree f fd) (b_len : mg "len" = none) (b_range : mg "range" = none) : FnOk P w K mg base CX0 1 f fd ["one", "other"] (spP K m__law_agree) :=
  fn_P F sc__law_agree rfl rfl fun A hr => have hu := u64 hr
  (sss_one (ss_ret (W := []) (tr_cmp (L0 := []) (ho_eq hu) rs_eq (tr_opS (L0 := []) ho_mod rs_mod (tr_len (L0 := []) rfl b_len (ta_cons (tr_F (by decide) (tf_lc [("k", 2)] (ti_rng1 (L0 := []) rfl b_range (tr_len (L0 := []) rfl b_len (ta_cons (tr_var (i := 0) rfl rfl (by decide) (by decide)) ta_nil (by decide)))) rfl (tg_name (i := 2) rfl rfl (by decide) (by decide)) (tts_one (tt_W (tw_and (tt_cmp (L0 := []) (ho_ne hu) rs_ne (tr_ix (tr_var (i := 0) rfl rfl (by decide) (by decide)) (tr_var (i := 2) rfl rfl (by decide) (by decide)) (by decide) (by decide)) (tr_ix (tr_var (i := 1) rfl rfl (by decide) (by decide)) (tr_var (i := 2) rfl rfl (by decide) (by decide)) (by decide) (by decide)) (by decide) rfl) (tw_and (tt_cmp (L0 := []) (ho_ne hu) rs_ne (tr_ix (tr_var (i := 0) rfl rfl (by decide) (by decide)) (tr_var (i := 2) rfl rfl (by decide) (by decide)) (by decide) (by decide)) tr_str (by decide) rfl) (tw_and1 (tt_cmp (L0 := []) (ho_ne hu) rs_ne (tr_ix (tr_var (i := 1) rfl rfl (by decide) (by decide)) (tr_var (i := 2) rfl rfl (by decide) (by decide)) (by decide) (by decide)) tr_str (by decide) rfl)))))) (tr_var (i := 2) rfl rfl (by decide) (by decide)) (by decide) (by decide) (by decide))) ta_nil (by decide))) tr_int (by decide)) tr_int (by decide) rfl) (by decide)))
/-! ### _law_signed -/
abbrev s__law_signed : Stmt := top 48
abbrev N__law_signed : List Str := ["one", "other", "power", "letters"]
theorem sc__law_signed : FnScope N__law_signed ["one", "other"] (defScope s__law_signed) := ⟨rfl, rfl, rfl, by decide +kernel, rfl, by decide +kernel, by decide +kernel⟩
def mb__law_signed : MM := (mSeq (mAsg (xFn m__law_product (xaCons (xOp dIx (xVar 0) (xC (.int 0))) (xaCons (xOp dIx (xVar 1) (xC (.int 0))) xaNil))) (bTup 2 (bCons (bName 2) (bCons (bName 3) bNil))))
  (mRet (xTup (xaCons (xVar 3) (xaCons (xOp dMod (xFn dInt (xaCons (xOp dAdd (xOp dAdd (xOp dIx (xVar 0) (xC (.int 1))) (xOp dIx (xVar 1) (xC (.int 1)))) (xOp dDiv (xVar 2) (xC (.int 2)))) xaNil)) (xC (.int 2))) xaNil)))))
def m__law_signed : List D → Option D := fnP 2 4 mb__law_signed
theorem ok__law_signed {f : Addr} {fd : FuncData} (F : FnP K "_law_signed" "_law_signed" s__law_signed f fd) (b_int : mg "int" = none) (F__law_product : FnAt P w K mg base 1 "_law_product" ["one", "other"] (spP K m__law_product)) : FnOk P w K mg base CX0 2 f fd ["one", "other"] (spP K m__law_signed) :=
  fn_P F sc__law_signed rfl rfl fun A hr => have hu := u64 hr
  (sss_cons (O1 := []) (ss_asg (W := []) (vs := [2, 3]) (tr_call F__law_product (hr.mono (by decide)) rfl (ta_cons (tr_ix (tr_var (i := 0) rfl rfl (by decide) (by decide)) tr_int (by decide) (by decide)) (ta_cons (tr_ix (tr_var (i := 1) rfl rfl (by decide) (by decide)) tr_int (by decide) (by decide)) ta_nil (by decide)) (by decide)) (by decide)) (tg_tup (tgs_cons (tg_name (i := 2) rfl rfl (by decide) (by decide)) (tgs_cons (tg_name (i := 3) rfl rfl (by decide) (by decide)) tgs_nil (by decide)) (by decide))) (by decide) (by decide))
  (sss_one (ss_ret (W := []) (tr_tup (ta_cons (tr_var (i := 3) rfl rfl (by decide) (by decide)) (ta_cons (tr_opS (L0 := []) ho_mod rs_mod (tr_intC (L0 := []) rfl b_int (ta_cons (tr_opS (L0 := []) ho_add rs_add (tr_opS (L0 := []) ho_add rs_add (tr_ix (tr_var (i := 0) rfl rfl (by decide) (by decide)) tr_int (by decide) (by decide)) (tr_ix (tr_var (i := 1) rfl rfl (by decide) (by decide)) tr_int (by decide) (by decide)) (by decide)) (tr_opS (L0 := []) ho_div rs_div (tr_var (i := 2) rfl rfl (by decide) (by decide)) tr_int (by decide)) (by decide)) ta_nil (by decide))) tr_int (by decide)) ta_nil (by decide)) (by decide)) (by decide)) (by decide))))
/-! ### _law_times_i -/
abbrev s__law_times_i : Stmt := top 49
abbrev N__law_times_i : List Str := ["z", "k", "step"]
theorem sc__law_times_i : FnScope N__law_times_i ["z", "k"] (defScope s__law_times_i) := ⟨rfl, rfl, rfl, by decide +kernel, rfl, by decide +kernel, by decide +kernel⟩
def mb__law_times_i : MM := (mSeq (mFor (xRg1 (xVar 1)) (bName 2) (mForget [2] (mSet 0 (xTup (xaCons (xOp dSub (xC (.int 0)) (xOp dIx (xVar 0) (xC (.int 1)))) (xaCons (xOp dIx (xVar 0) (xC (.int 0))) xaNil))))))
  (mRet (xVar 0)))
def m__law_times_i : List D → Option D := fnP 2 3 mb__law_times_i
theorem ok__law_times_i {f : Addr} {fd : FuncData} (F : FnP K "_law_times_i" "_law_times_i" s__law_times_i f fd) (b_range : mg "range" = none) : FnOk P w K mg base CX0 1 f fd ["z", "k"] (spP K m__law_times_i) :=
  fn_P F sc__law_times_i rfl rfl fun A hr => have hu := u64 hr
  (sss_cons (O1 := []) (ss_for (W := []) (vs := [2]) (ti_rng1 (L0 := []) rfl b_range (tr_var (i := 1) rfl rfl (by decide) (by decide))) (tg_name (i := 2) rfl rfl (by decide) (by decide)) (sss_forget [2] (sss_one (ss_set (W := []) (i := 0) (O' := []) rfl rfl (tr_tup (ta_cons (tr_opS (L0 := []) ho_sub rs_sub tr_int (tr_ix (tr_var (i := 0) rfl rfl (by decide) (by decide)) tr_int (by decide) (by decide)) (by decide)) (ta_cons (tr_ix (tr_var (i := 0) rfl rfl (by decide) (by decide)) tr_int (by decide) (by decide)) ta_nil (by decide)) (by decide)) (by decide)) (by decide) (by decide) (by decide) (by decide))) (by decide)) (by decide) (by decide))
  (sss_one (ss_ret (W := []) (tr_var (i := 0) rfl rfl (by decide) (by decide)) (by decide))))
/-! ### _law_turn -/
abbrev s__law_turn : Stmt := top 50
abbrev N__law_turn : List Str := ["n", "vector", "name", "places", "found", "at", "z", "masks", "first", "goals", "second", "goal", "value", "p"]
theorem sc__law_turn : FnScope N__law_turn ["n", "vector", "name", "places"] (defScope s__law_turn) := ⟨rfl, rfl, rfl, by decide +kernel, rfl, by decide +kernel, by decide +kernel⟩
def mb__law_turn : MM := (mSeq (mSetF 4 (xLc (xSeq (xVar 1)) [6] (bName 6) xYes (xTup (xaCons (xC (.int 0)) (xaCons (xC (.int 0)) xaNil)))))
  (mSeq (mFor (xRg1 (xFn dLen (xaCons (xVar 1) xaNil))) (bName 5) (mForget [5, 6, 7, 8, 9, 10, 11, 12] (mSeq (mSet 6 (xOp dIx (xVar 1) (xVar 5)))
  (mSeq (mSet 7 (xLst (xLc (xSeq (xVar 3)) [13] (bName 13) xYes (xOp dIx (xLst (xDisp (xaCons (xC (.int 1)) (xaCons (xC (.int 2)) (xaCons (xC (.int 4)) (xaCons (xC (.int 8)) (xaCons (xC (.int 16)) (xaCons (xC (.int 32)) (xaCons (xC (.int 64)) xaNil))))))))) (xOp dSub (xOp dSub (xVar 0) (xC (.int 1))) (xVar 13))))))
  (mSeq (mSet 8 (xOp dMod (xFn dInt (xaCons (xOp dDiv (xVar 5) (xOp dIx (xVar 7) (xC (.int 0)))) xaNil)) (xC (.int 2))))
  (mSeq (mIf (xT (xOp dEq (xVar 2) (xC (.str "h")))) (mSet 9 (xLst (xDisp (xaCons (xTup (xaCons (xOp dSub (xVar 5) (xOp dMul (xVar 8) (xOp dIx (xVar 7) (xC (.int 0))))) (xaCons (xVar 6) xaNil))) (xaCons (xTup (xaCons (xOp dAdd (xOp dSub (xVar 5) (xOp dMul (xVar 8) (xOp dIx (xVar 7) (xC (.int 0))))) (xOp dIx (xVar 7) (xC (.int 0)))) (xaCons (xFn m__law_times_i (xaCons (xVar 6) (xaCons (xOp dMul (xC (.int 2)) (xVar 8)) xaNil))) xaNil))) xaNil)))))
  (mIf (xT (xOp dEq (xVar 2) (xC (.str "x")))) (mSet 9 (xLst (xDisp (xaCons (xTup (xaCons (xOp dSub (xOp dAdd (xVar 5) (xOp dIx (xVar 7) (xC (.int 0)))) (xOp dMul (xOp dMul (xC (.int 2)) (xVar 8)) (xOp dIx (xVar 7) (xC (.int 0))))) (xaCons (xVar 6) xaNil))) xaNil))))
  (mIf (xT (xOp dEq (xVar 2) (xC (.str "y")))) (mSet 9 (xLst (xDisp (xaCons (xTup (xaCons (xOp dSub (xOp dAdd (xVar 5) (xOp dIx (xVar 7) (xC (.int 0)))) (xOp dMul (xOp dMul (xC (.int 2)) (xVar 8)) (xOp dIx (xVar 7) (xC (.int 0))))) (xaCons (xFn m__law_times_i (xaCons (xVar 6) (xaCons (xOp dIx (xLst (xDisp (xaCons (xC (.int 1)) (xaCons (xC (.int 3)) xaNil)))) (xVar 8)) xaNil))) xaNil))) xaNil))))
  (mIf (xT (xOp dEq (xVar 2) (xC (.str "z")))) (mSet 9 (xLst (xDisp (xaCons (xTup (xaCons (xVar 5) (xaCons (xFn m__law_times_i (xaCons (xVar 6) (xaCons (xOp dMul (xC (.int 2)) (xVar 8)) xaNil))) xaNil))) xaNil))))
  (mIf (xT (xOp dEq (xVar 2) (xC (.str "s")))) (mSet 9 (xLst (xDisp (xaCons (xTup (xaCons (xVar 5) (xaCons (xFn m__law_times_i (xaCons (xVar 6) (xaCons (xVar 8) xaNil))) xaNil))) xaNil))))
  (mIf (xT (xOp dEq (xVar 2) (xC (.str "r")))) (mSet 9 (xLst (xDisp (xaCons (xTup (xaCons (xVar 5) (xaCons (xFn m__law_times_i (xaCons (xVar 6) (xaCons (xOp dMul (xC (.int 3)) (xVar 8)) xaNil))) xaNil))) xaNil))))
  (mSeq (mSet 10 (xOp dMod (xFn dInt (xaCons (xOp dDiv (xVar 5) (xOp dIx (xVar 7) (xC (.int 1)))) xaNil)) (xC (.int 2))))
  (mIf (xT (xOp dEq (xVar 2) (xC (.str "cx")))) (mSet 9 (xLst (xDisp (xaCons (xTup (xaCons (xOp dAdd (xVar 5) (xOp dMul (xVar 8) (xOp dSub (xOp dIx (xVar 7) (xC (.int 1))) (xOp dMul (xOp dMul (xC (.int 2)) (xVar 10)) (xOp dIx (xVar 7) (xC (.int 1))))))) (xaCons (xVar 6) xaNil))) xaNil))))
  (mIf (xT (xOp dEq (xVar 2) (xC (.str "cz")))) (mSet 9 (xLst (xDisp (xaCons (xTup (xaCons (xVar 5) (xaCons (xFn m__law_times_i (xaCons (xVar 6) (xaCons (xOp dMul (xOp dMul (xC (.int 2)) (xVar 8)) (xVar 10)) xaNil))) xaNil))) xaNil))))
  (mSet 9 (xLst (xDisp (xaCons (xTup (xaCons (xOp dAdd (xOp dAdd (xVar 5) (xOp dMul (xOp dSub (xVar 10) (xVar 8)) (xOp dIx (xVar 7) (xC (.int 0))))) (xOp dMul (xOp dSub (xVar 8) (xVar 10)) (xOp dIx (xVar 7) (xC (.int 1))))) (xaCons (xVar 6) xaNil))) xaNil)))))))))))))
  (mFor (xSeq (xVar 9)) (bTup 2 (bCons (bName 11) (bCons (bName 12) bNil))) (mForget [11, 12] (mSetIx 4 (xTup (xaCons (xOp dAdd (xOp dIx (xIxOwn 4 (xVar 11)) (xC (.int 0))) (xOp dIx (xVar 12) (xC (.int 0)))) (xaCons (xOp dAdd (xOp dIx (xIxOwn 4 (xVar 11)) (xC (.int 1))) (xOp dIx (xVar 12) (xC (.int 1)))) xaNil))) (xVar 11))))))))))
  (mRet (xLst (xOwn 4)))))
def m__law_turn : List D → Option (List D) := fnL 4 14 mb__law_turn
theorem ok__law_turn {f : Addr} {fd : FuncData} (F : FnP K "_law_turn" "_law_turn" s__law_turn f fd) (b_range : mg "range" = none) (b_len : mg "len" = none) (b_int : mg "int" = none) (F__law_times_i : FnAt P w K mg base 1 "_law_times_i" ["z", "k"] (spP K m__law_times_i)) : FnOk P w K mg base CX0 2 f fd ["n", "vector", "name", "places"] (spL K m__law_turn) :=
  fn_L F sc__law_turn rfl rfl fun A hr => have hu := u64 hr
  (sss_cons (O1 := [4]) (ss_lc (W := []) (O' := [4]) (setLc_t (W := []) (i := 4) [("z", 6)] rfl rfl rfl (ti_E (by decide) (tr_var (i := 1) rfl rfl (by decide) (by decide))) rfl (tg_name (i := 6) rfl rfl (by decide) (by decide)) tts_nil (tr_tup (ta_cons tr_int (ta_cons tr_int ta_nil (by decide)) (by decide)) (by decide)) (by decide) (by decide)) (by decide) (by decide) (by decide) (by decide))
  (sss_cons (O1 := [4]) (ss_for (W := []) (vs := [5]) (ti_rng1 (L0 := []) rfl b_range (tr_len (L0 := []) rfl b_len (ta_cons (tr_var (i := 1) rfl rfl (by decide) (by decide)) ta_nil (by decide)))) (tg_name (i := 5) rfl rfl (by decide) (by decide)) (sss_forget [5, 6, 7, 8, 9, 10, 11, 12] (sss_cons (O1 := [4]) (ss_set (W := []) (i := 6) (O' := [4]) rfl rfl (tr_ix (tr_var (i := 1) rfl rfl (by decide) (by decide)) (tr_var (i := 5) rfl rfl (by decide) (by decide)) (by decide) (by decide)) (by decide) (by decide) (by decide) (by decide))
  (sss_cons (O1 := [4]) (ss_lcu (W := []) (O' := [4]) (setLc_t (W := []) (i := 7) [("p", 13)] rfl rfl rfl (ti_E (by decide) (tr_var (i := 3) rfl rfl (by decide) (by decide))) rfl (tg_name (i := 13) rfl rfl (by decide) (by decide)) tts_nil (tr_ix (tr_F (by decide) (tf_disp (ta_cons tr_int (ta_cons tr_int (ta_cons tr_int (ta_cons tr_int (ta_cons tr_int (ta_cons tr_int (ta_cons tr_int ta_nil (by decide)) (by decide)) (by decide)) (by decide)) (by decide)) (by decide)) (by decide)) (by decide))) (tr_opS (L0 := []) ho_sub rs_sub (tr_opS (L0 := []) ho_sub rs_sub (tr_var (i := 0) rfl rfl (by decide) (by decide)) tr_int (by decide)) (tr_var (i := 13) rfl rfl (by decide) (by decide)) (by decide)) (by decide) (by decide)) (by decide) (by decide)) (by decide) (by decide) (by decide) (by decide))
  (sss_cons (O1 := [4]) (ss_set (W := []) (i := 8) (O' := [4]) rfl rfl (tr_opS (L0 := []) ho_mod rs_mod (tr_intC (L0 := []) rfl b_int (ta_cons (tr_opS (L0 := []) ho_div rs_div (tr_var (i := 5) rfl rfl (by decide) (by decide)) (tr_ix (tr_var (i := 7) rfl rfl (by decide) (by decide)) tr_int (by decide) (by decide)) (by decide)) ta_nil (by decide))) tr_int (by decide)) (by decide) (by decide) (by decide) (by decide))
  (sss_cons (O1 := [4]) (ss_if (W := []) (tt_cmp (L0 := []) (ho_eq hu) rs_eq (tr_var (i := 2) rfl rfl (by decide) (by decide)) tr_str (by decide) rfl) (sss_one (ss_setFu (W := []) (i := 9) (O' := [4]) rfl rfl (tf_disp (ta_cons (tr_tup (ta_cons (tr_opS (L0 := []) ho_sub rs_sub (tr_var (i := 5) rfl rfl (by decide) (by decide)) (tr_opS (L0 := []) ho_mul rs_mul (tr_var (i := 8) rfl rfl (by decide) (by decide)) (tr_ix (tr_var (i := 7) rfl rfl (by decide) (by decide)) tr_int (by decide) (by decide)) (by decide)) (by decide)) (ta_cons (tr_var (i := 6) rfl rfl (by decide) (by decide)) ta_nil (by decide)) (by decide)) (by decide)) (ta_cons (tr_tup (ta_cons (tr_opS (L0 := []) ho_add rs_add (tr_opS (L0 := []) ho_sub rs_sub (tr_var (i := 5) rfl rfl (by decide) (by decide)) (tr_opS (L0 := []) ho_mul rs_mul (tr_var (i := 8) rfl rfl (by decide) (by decide)) (tr_ix (tr_var (i := 7) rfl rfl (by decide) (by decide)) tr_int (by decide) (by decide)) (by decide)) (by decide)) (tr_ix (tr_var (i := 7) rfl rfl (by decide) (by decide)) tr_int (by decide) (by decide)) (by decide)) (ta_cons (tr_call F__law_times_i (hr.mono (by decide)) rfl (ta_cons (tr_var (i := 6) rfl rfl (by decide) (by decide)) (ta_cons (tr_opS (L0 := []) ho_mul rs_mul tr_int (tr_var (i := 8) rfl rfl (by decide) (by decide)) (by decide)) ta_nil (by decide)) (by decide)) (by decide)) ta_nil (by decide)) (by decide)) (by decide)) ta_nil (by decide)) (by decide)) (by decide)) (by decide) (by decide) (by decide) (by decide)))
  (sss_one (ss_if (W := []) (tt_cmp (L0 := []) (ho_eq hu) rs_eq (tr_var (i := 2) rfl rfl (by decide) (by decide)) tr_str (by decide) rfl) (sss_one (ss_setFu (W := []) (i := 9) (O' := [4]) rfl rfl (tf_disp (ta_cons (tr_tup (ta_cons (tr_opS (L0 := []) ho_sub rs_sub (tr_opS (L0 := []) ho_add rs_add (tr_var (i := 5) rfl rfl (by decide) (by decide)) (tr_ix (tr_var (i := 7) rfl rfl (by decide) (by decide)) tr_int (by decide) (by decide)) (by decide)) (tr_opS (L0 := []) ho_mul rs_mul (tr_opS (L0 := []) ho_mul rs_mul tr_int (tr_var (i := 8) rfl rfl (by decide) (by decide)) (by decide)) (tr_ix (tr_var (i := 7) rfl rfl (by decide) (by decide)) tr_int (by decide) (by decide)) (by decide)) (by decide)) (ta_cons (tr_var (i := 6) rfl rfl (by decide) (by decide)) ta_nil (by decide)) (by decide)) (by decide)) ta_nil (by decide)) (by decide)) (by decide) (by decide) (by decide) (by decide)))
  (sss_one (ss_if (W := []) (tt_cmp (L0 := []) (ho_eq hu) rs_eq (tr_var (i := 2) rfl rfl (by decide) (by decide)) tr_str (by decide) rfl) (sss_one (ss_setFu (W := []) (i := 9) (O' := [4]) rfl rfl (tf_disp (ta_cons (tr_tup (ta_cons (tr_opS (L0 := []) ho_sub rs_sub (tr_opS (L0 := []) ho_add rs_add (tr_var (i := 5) rfl rfl (by decide) (by decide)) (tr_ix (tr_var (i := 7) rfl rfl (by decide) (by decide)) tr_int (by decide) (by decide)) (by decide)) (tr_opS (L0 := []) ho_mul rs_mul (tr_opS (L0 := []) ho_mul rs_mul tr_int (tr_var (i := 8) rfl rfl (by decide) (by decide)) (by decide)) (tr_ix (tr_var (i := 7) rfl rfl (by decide) (by decide)) tr_int (by decide) (by decide)) (by decide)) (by decide)) (ta_cons (tr_call F__law_times_i (hr.mono (by decide)) rfl (ta_cons (tr_var (i := 6) rfl rfl (by decide) (by decide)) (ta_cons (tr_ix (tr_F (by decide) (tf_disp (ta_cons tr_int (ta_cons tr_int ta_nil (by decide)) (by decide)) (by decide))) (tr_var (i := 8) rfl rfl (by decide) (by decide)) (by decide) (by decide)) ta_nil (by decide)) (by decide)) (by decide)) ta_nil (by decide)) (by decide)) (by decide)) ta_nil (by decide)) (by decide)) (by decide) (by decide) (by decide) (by decide)))
  (sss_one (ss_if (W := []) (tt_cmp (L0 := []) (ho_eq hu) rs_eq (tr_var (i := 2) rfl rfl (by decide) (by decide)) tr_str (by decide) rfl) (sss_one (ss_setFu (W := []) (i := 9) (O' := [4]) rfl rfl (tf_disp (ta_cons (tr_tup (ta_cons (tr_var (i := 5) rfl rfl (by decide) (by decide)) (ta_cons (tr_call F__law_times_i (hr.mono (by decide)) rfl (ta_cons (tr_var (i := 6) rfl rfl (by decide) (by decide)) (ta_cons (tr_opS (L0 := []) ho_mul rs_mul tr_int (tr_var (i := 8) rfl rfl (by decide) (by decide)) (by decide)) ta_nil (by decide)) (by decide)) (by decide)) ta_nil (by decide)) (by decide)) (by decide)) ta_nil (by decide)) (by decide)) (by decide) (by decide) (by decide) (by decide)))
  (sss_one (ss_if (W := []) (tt_cmp (L0 := []) (ho_eq hu) rs_eq (tr_var (i := 2) rfl rfl (by decide) (by decide)) tr_str (by decide) rfl) (sss_one (ss_setFu (W := []) (i := 9) (O' := [4]) rfl rfl (tf_disp (ta_cons (tr_tup (ta_cons (tr_var (i := 5) rfl rfl (by decide) (by decide)) (ta_cons (tr_call F__law_times_i (hr.mono (by decide)) rfl (ta_cons (tr_var (i := 6) rfl rfl (by decide) (by decide)) (ta_cons (tr_var (i := 8) rfl rfl (by decide) (by decide)) ta_nil (by decide)) (by decide)) (by decide)) ta_nil (by decide)) (by decide)) (by decide)) ta_nil (by decide)) (by decide)) (by decide) (by decide) (by decide) (by decide)))
  (sss_one (ss_if (W := []) (tt_cmp (L0 := []) (ho_eq hu) rs_eq (tr_var (i := 2) rfl rfl (by decide) (by decide)) tr_str (by decide) rfl) (sss_one (ss_setFu (W := []) (i := 9) (O' := [4]) rfl rfl (tf_disp (ta_cons (tr_tup (ta_cons (tr_var (i := 5) rfl rfl (by decide) (by decide)) (ta_cons (tr_call F__law_times_i (hr.mono (by decide)) rfl (ta_cons (tr_var (i := 6) rfl rfl (by decide) (by decide)) (ta_cons (tr_opS (L0 := []) ho_mul rs_mul tr_int (tr_var (i := 8) rfl rfl (by decide) (by decide)) (by decide)) ta_nil (by decide)) (by decide)) (by decide)) ta_nil (by decide)) (by decide)) (by decide)) ta_nil (by decide)) (by decide)) (by decide) (by decide) (by decide) (by decide)))
  (sss_cons (O1 := [4]) (ss_set (W := []) (i := 10) (O' := [4]) rfl rfl (tr_opS (L0 := []) ho_mod rs_mod (tr_intC (L0 := []) rfl b_int (ta_cons (tr_opS (L0 := []) ho_div rs_div (tr_var (i := 5) rfl rfl (by decide) (by decide)) (tr_ix (tr_var (i := 7) rfl rfl (by decide) (by decide)) tr_int (by decide) (by decide)) (by decide)) ta_nil (by decide))) tr_int (by decide)) (by decide) (by decide) (by decide) (by decide))
  (sss_one (ss_if (W := []) (tt_cmp (L0 := []) (ho_eq hu) rs_eq (tr_var (i := 2) rfl rfl (by decide) (by decide)) tr_str (by decide) rfl) (sss_one (ss_setFu (W := []) (i := 9) (O' := [4]) rfl rfl (tf_disp (ta_cons (tr_tup (ta_cons (tr_opS (L0 := []) ho_add rs_add (tr_var (i := 5) rfl rfl (by decide) (by decide)) (tr_opS (L0 := []) ho_mul rs_mul (tr_var (i := 8) rfl rfl (by decide) (by decide)) (tr_opS (L0 := []) ho_sub rs_sub (tr_ix (tr_var (i := 7) rfl rfl (by decide) (by decide)) tr_int (by decide) (by decide)) (tr_opS (L0 := []) ho_mul rs_mul (tr_opS (L0 := []) ho_mul rs_mul tr_int (tr_var (i := 10) rfl rfl (by decide) (by decide)) (by decide)) (tr_ix (tr_var (i := 7) rfl rfl (by decide) (by decide)) tr_int (by decide) (by decide)) (by decide)) (by decide)) (by decide)) (by decide)) (ta_cons (tr_var (i := 6) rfl rfl (by decide) (by decide)) ta_nil (by decide)) (by decide)) (by decide)) ta_nil (by decide)) (by decide)) (by decide) (by decide) (by decide) (by decide)))
  (sss_one (ss_if (W := []) (tt_cmp (L0 := []) (ho_eq hu) rs_eq (tr_var (i := 2) rfl rfl (by decide) (by decide)) tr_str (by decide) rfl) (sss_one (ss_setFu (W := []) (i := 9) (O' := [4]) rfl rfl (tf_disp (ta_cons (tr_tup (ta_cons (tr_var (i := 5) rfl rfl (by decide) (by decide)) (ta_cons (tr_call F__law_times_i (hr.mono (by decide)) rfl (ta_cons (tr_var (i := 6) rfl rfl (by decide) (by decide)) (ta_cons (tr_opS (L0 := []) ho_mul rs_mul (tr_opS (L0 := []) ho_mul rs_mul tr_int (tr_var (i := 8) rfl rfl (by decide) (by decide)) (by decide)) (tr_var (i := 10) rfl rfl (by decide) (by decide)) (by decide)) ta_nil (by decide)) (by decide)) (by decide)) ta_nil (by decide)) (by decide)) (by decide)) ta_nil (by decide)) (by decide)) (by decide) (by decide) (by decide) (by decide)))
  (sss_one (ss_setFu (W := []) (i := 9) (O' := [4]) rfl rfl (tf_disp (ta_cons (tr_tup (ta_cons (tr_opS (L0 := []) ho_add rs_add (tr_opS (L0 := []) ho_add rs_add (tr_var (i := 5) rfl rfl (by decide) (by decide)) (tr_opS (L0 := []) ho_mul rs_mul (tr_opS (L0 := []) ho_sub rs_sub (tr_var (i := 10) rfl rfl (by decide) (by decide)) (tr_var (i := 8) rfl rfl (by decide) (by decide)) (by decide)) (tr_ix (tr_var (i := 7) rfl rfl (by decide) (by decide)) tr_int (by decide) (by decide)) (by decide)) (by decide)) (tr_opS (L0 := []) ho_mul rs_mul (tr_opS (L0 := []) ho_sub rs_sub (tr_var (i := 8) rfl rfl (by decide) (by decide)) (tr_var (i := 10) rfl rfl (by decide) (by decide)) (by decide)) (tr_ix (tr_var (i := 7) rfl rfl (by decide) (by decide)) tr_int (by decide) (by decide)) (by decide)) (by decide)) (ta_cons (tr_var (i := 6) rfl rfl (by decide) (by decide)) ta_nil (by decide)) (by decide)) (by decide)) ta_nil (by decide)) (by decide)) (by decide) (by decide) (by decide) (by decide))) (by decide))) (by decide)))) (by decide))) (by decide))) (by decide))) (by decide))) (by decide))) (by decide))
  (sss_one (ss_for (W := []) (vs := [11, 12]) (ti_E (by decide) (tr_var (i := 9) rfl rfl (by decide) (by decide))) (tg_tup (tgs_cons (tg_name (i := 11) rfl rfl (by decide) (by decide)) (tgs_cons (tg_name (i := 12) rfl rfl (by decide) (by decide)) tgs_nil (by decide)) (by decide))) (sss_forget [11, 12] (sss_one (ss_setIx (W := []) (L0 := []) (i := 4) rfl rfl (by decide) (tr_tup (ta_cons (tr_opS (L0 := []) ho_add rs_add (tr_ix (tr_ixOwn (L0 := []) (i := 4) rfl rfl (by decide) (by decide) (tr_var (i := 11) rfl rfl (by decide) (by decide))) tr_int (by decide) (by decide)) (tr_ix (tr_var (i := 12) rfl rfl (by decide) (by decide)) tr_int (by decide) (by decide)) (by decide)) (ta_cons (tr_opS (L0 := []) ho_add rs_add (tr_ix (tr_ixOwn (L0 := []) (i := 4) rfl rfl (by decide) (by decide) (tr_var (i := 11) rfl rfl (by decide) (by decide))) tr_int (by decide) (by decide)) (tr_ix (tr_var (i := 12) rfl rfl (by decide) (by decide)) tr_int (by decide) (by decide)) (by decide)) ta_nil (by decide)) (by decide)) (by decide)) (tr_var (i := 11) rfl rfl (by decide) (by decide)) (by decide))) (by decide)) (by decide) (by decide))))))) (by decide)) (by decide) (by decide))
  (sss_one (ss_retO (i := 4) rfl rfl (by decide) (by decide)))))
/-! ### _law_size -/
abbrev s__law_size : Stmt := top 51
abbrev N__law_size : List Str := ["vector", "z"]
theorem sc__law_size : FnScope N__law_size ["vector"] (defScope s__law_size) := ⟨rfl, rfl, rfl, by decide +kernel, rfl, by decide +kernel, by decide +kernel⟩
def mb__law_size : MM := (mRet (xFn dSum (xaCons (xLst (xLc (xSeq (xVar 0)) [1] (bName 1) xYes (xOp dAdd (xOp dMul (xOp dIx (xVar 1) (xC (.int 0))) (xOp dIx (xVar 1) (xC (.int 0)))) (xOp dMul (xOp dIx (xVar 1) (xC (.int 1))) (xOp dIx (xVar 1) (xC (.int 1))))))) xaNil)))
def m__law_size : List D → Option D := fnP 1 2 mb__law_size
theorem ok__law_size {f : Addr} {fd : FuncData} (F : FnP K "_law_size" "_law_size" s__law_size f fd) (b_sum : mg "sum" = none) : FnOk P w K mg base CX0 1 f fd ["vector"] (spP K m__law_size) :=
  fn_P F sc__law_size rfl rfl fun A hr => have hu := u64 hr
  (sss_one (ss_ret (W := []) (tr_sum (L0 := []) rfl b_sum (ta_cons (tr_F (by decide) (tf_lc [("z", 1)] (ti_E (by decide) (tr_var (i := 0) rfl rfl (by decide) (by decide))) rfl (tg_name (i := 1) rfl rfl (by decide) (by decide)) tts_nil (tr_opS (L0 := []) ho_add rs_add (tr_opS (L0 := []) ho_mul rs_mul (tr_ix (tr_var (i := 1) rfl rfl (by decide) (by decide)) tr_int (by decide) (by decide)) (tr_ix (tr_var (i := 1) rfl rfl (by decide) (by decide)) tr_int (by decide) (by decide)) (by decide)) (tr_opS (L0 := []) ho_mul rs_mul (tr_ix (tr_var (i := 1) rfl rfl (by decide) (by decide)) tr_int (by decide) (by decide)) (tr_ix (tr_var (i := 1) rfl rfl (by decide) (by decide)) tr_int (by decide) (by decide)) (by decide)) (by decide)) (by decide) (by decide) (by decide))) ta_nil (by decide))) (by decide)))
/-! ### _law_mean -/
abbrev s__law_mean : Stmt := top 52
abbrev N__law_mean : List Str := ["n", "vector", "letters", "led", "k", "total"]
theorem sc__law_mean : FnScope N__law_mean ["n", "vector", "letters"] (defScope s__law_mean) := ⟨rfl, rfl, rfl, by decide +kernel, rfl, by decide +kernel, by decide +kernel⟩
def mb__law_mean : MM := (mSeq (mSet 3 (xVar 1))
  (mSeq (mFor (xRg1 (xVar 0)) (bName 4) (mForget [4] (mIf (xT (xOp dNe (xOp dIx (xVar 2) (xVar 4)) (xC (.str "I")))) (mSet 3 (xLst (xfMap m__law_turn (xaCons (xVar 0) (xaCons (xVar 3) (xaCons (xDGet ["X", "Y", "Z"] (xaCons (xC (.str "x")) (xaCons (xC (.str "y")) (xaCons (xC (.str "z")) xaNil))) (xOp dIx (xVar 2) (xVar 4))) (xaCons (xLst (xDisp (xaCons (xVar 4) xaNil))) xaNil)))))))
  mSkip)))
  (mSeq (mSet 5 (xC (.int 0)))
  (mSeq (mFor (xRg1 (xFn dLen (xaCons (xVar 1) xaNil))) (bName 4) (mForget [4] (mAug dAddI 5 (xOp dAdd (xOp dMul (xOp dIx (xOp dIx (xVar 1) (xVar 4)) (xC (.int 0))) (xOp dIx (xOp dIx (xVar 3) (xVar 4)) (xC (.int 0)))) (xOp dMul (xOp dIx (xOp dIx (xVar 1) (xVar 4)) (xC (.int 1))) (xOp dIx (xOp dIx (xVar 3) (xVar 4)) (xC (.int 1))))))))
  (mRet (xVar 5))))))
def m__law_mean : List D → Option D := fnP 3 6 mb__law_mean
theorem ok__law_mean {f : Addr} {fd : FuncData} (F : FnP K "_law_mean" "_law_mean" s__law_mean f fd) (b_range : mg "range" = none) (b_len : mg "len" = none) (F__law_turn : FnAt P w K mg base 2 "_law_turn" ["n", "vector", "name", "places"] (spL K m__law_turn)) : FnOk P w K mg base CX0 3 f fd ["n", "vector", "letters"] (spP K m__law_mean) :=
  fn_P F sc__law_mean rfl rfl fun A hr => have hu := u64 hr
  (sss_cons (O1 := []) (ss_set (W := []) (i := 3) (O' := []) rfl rfl (tr_var (i := 1) rfl rfl (by decide) (by decide)) (by decide) (by decide) (by decide) (by decide))
  (sss_cons (O1 := []) (ss_for (W := []) (vs := [4]) (ti_rng1 (L0 := []) rfl b_range (tr_var (i := 0) rfl rfl (by decide) (by decide))) (tg_name (i := 4) rfl rfl (by decide) (by decide)) (sss_forget [4] (sss_one (ss_if (W := []) (tt_cmp (L0 := []) (ho_ne hu) rs_ne (tr_ix (tr_var (i := 2) rfl rfl (by decide) (by decide)) (tr_var (i := 4) rfl rfl (by decide) (by decide)) (by decide) (by decide)) tr_str (by decide) rfl) (sss_one (ss_setFu (W := []) (i := 3) (O' := []) rfl rfl (tf_call F__law_turn (hr.mono (by decide)) rfl (ta_cons (tr_var (i := 0) rfl rfl (by decide) (by decide)) (ta_cons (tr_var (i := 3) rfl rfl (by decide) (by decide)) (ta_cons (tr_dget (L0 := []) hu (tp_cons tr_str (tp_cons tr_str (tp_cons tr_str tp_nil (by decide)) (by decide)) (by decide)) (tr_ix (tr_var (i := 2) rfl rfl (by decide) (by decide)) (tr_var (i := 4) rfl rfl (by decide) (by decide)) (by decide) (by decide)) (by decide) (by decide)) (ta_cons (tr_F (by decide) (tf_disp (ta_cons (tr_var (i := 4) rfl rfl (by decide) (by decide)) ta_nil (by decide)) (by decide))) ta_nil (by decide)) (by decide)) (by decide)) (by decide)) (by decide) (by decide)) (by decide) (by decide) (by decide) (by decide)))
  sss_nil (by decide))) (by decide)) (by decide) (by decide))
  (sss_cons (O1 := []) (ss_set (W := []) (i := 5) (O' := []) rfl rfl tr_int (by decide) (by decide) (by decide) (by decide))
  (sss_cons (O1 := []) (ss_for (W := []) (vs := [4]) (ti_rng1 (L0 := []) rfl b_range (tr_len (L0 := []) rfl b_len (ta_cons (tr_var (i := 1) rfl rfl (by decide) (by decide)) ta_nil (by decide)))) (tg_name (i := 4) rfl rfl (by decide) (by decide)) (sss_forget [4] (sss_one (ss_aug (W := []) (i := 5) ho_iadd rs_addI rfl rfl (by decide) (by decide) (by decide) (tr_opS (L0 := []) ho_add rs_add (tr_opS (L0 := []) ho_mul rs_mul (tr_ix (tr_ix (tr_var (i := 1) rfl rfl (by decide) (by decide)) (tr_var (i := 4) rfl rfl (by decide) (by decide)) (by decide) (by decide)) tr_int (by decide) (by decide)) (tr_ix (tr_ix (tr_var (i := 3) rfl rfl (by decide) (by decide)) (tr_var (i := 4) rfl rfl (by decide) (by decide)) (by decide) (by decide)) tr_int (by decide) (by decide)) (by decide)) (tr_opS (L0 := []) ho_mul rs_mul (tr_ix (tr_ix (tr_var (i := 1) rfl rfl (by decide) (by decide)) (tr_var (i := 4) rfl rfl (by decide) (by decide)) (by decide) (by decide)) tr_int (by decide) (by decide)) (tr_ix (tr_ix (tr_var (i := 3) rfl rfl (by decide) (by decide)) (tr_var (i := 4) rfl rfl (by decide) (by decide)) (by decide) (by decide)) tr_int (by decide) (by decide)) (by decide)) (by decide)) (by decide))) (by decide)) (by decide) (by decide))
  (sss_one (ss_ret (W := []) (tr_var (i := 5) rfl rfl (by decide) (by decide)) (by decide)))))))
/-! ### _law_refused -/
abbrev s__law_refused : Stmt := top 53
abbrev N__law_refused : List Str := ["name", "e"]
theorem sc__law_refused : FnScope N__law_refused ["name"] (defScope s__law_refused) := ⟨rfl, rfl, rfl, by decide +kernel, rfl, by decide +kernel, by decide +kernel⟩
def mb__law_refused : MM := (mSeq (mTry [("NoTurn", true)] (mDropC (xCall m_turn_size (xaCons (xVar 0) xaNil))) (mSui 1 (fun x => mRet ((fun x => xAndV (xT ((fun x => xOp dEq ((dAttr ["NoTurn"] "name") x) ((fun _ => (xVar 0)) x)) x)) ((fun x => xAndV (xT ((dIsX [("NoTurn", true)]) x)) ((fun x => xB (xNot (xT ((dIsX [("NoTurn", false)]) x)))) x)) x)) x))))
  (mRet (xC (.bool false))))
def m__law_refused : List D → Option D := fnP 1 2 mb__law_refused
theorem ok__law_refused {f : Addr} {fd : FuncData} (F : FnP K "_law_refused" "_law_refused" s__law_refused f fd) (b_isinstance : mg "isinstance" = none) (F_turn_size : FnAtX P w K mg base 3 "turn_size" ["name"] (spX K m_turn_size)) (X0 : SubOk K "NoTurn" [("NoTurn", true)] ∧ mg "NoTurn" = some (.ref (He.ga K "NoTurn"))) (X1 : AtOk K ["NoTurn"] "name") (X2 : IsOk K "WireError" [("NoTurn", true)] ∧ mg "WireError" = some (.ref (He.ga K "WireError"))) (X3 : IsOk K "BadGroup" [("NoTurn", false)] ∧ mg "BadGroup" = some (.ref (He.ga K "BadGroup"))) : FnOk P w K mg base CX0 4 f fd ["name"] (spP K m__law_refused) :=
  fn_P F sc__law_refused rfl rfl fun A hr => have hu := u64 hr
  (sss_cons (O1 := []) (sx_tryAs (Os := []) [] (i := 1) rfl rfl rfl X0.2 X0.1 (sss_one (sx_drop [] (W := []) (L := []) (tc_call F_turn_size (hr.mono (by decide)) rfl (ta_cons (tr_var (i := 0) rfl rfl (by decide) (by decide)) ta_nil (by decide)) (by decide)) (by decide) (by decide) (by decide) (by decide))) (tu_ret (W := []) (te_and (L0 := []) (te_cmp (L0 := []) (fun a => (ho_eq hu)) rs_eq (te_attr ["NoTurn"] rfl rfl X1 (by decide)) (te_lift fun a => (tr_var (i := 0) rfl rfl (by decide) (by decide))) (by decide) (by decide) rfl) (te_and (L0 := []) (te_isi [("NoTurn", true)] rfl rfl rfl b_isinstance rfl X2.2 X2.1) (te_one (te_not (L0 := []) (te_isi [("NoTurn", false)] rfl rfl rfl b_isinstance rfl X3.2 X3.1))) (by decide)) (by decide)) (by decide)) (by decide) (by decide) (by decide) (by decide) (by decide) (by decide))
  (sss_one (ss_ret (W := []) tr_bl (by decide))))
/-! ### _law_products -/
abbrev s__law_products : Stmt := top 54
abbrev N__law_products : List Str := ["feed", "m", "one", "other", "agree", "said", "wires", "some", "put", "x", "k"]
theorem sc__law_products : FnScope N__law_products ["feed"] (defScope s__law_products) := ⟨rfl, rfl, rfl, by decide +kernel, rfl, by decide +kernel, by decide +kernel⟩
def mb__law_products : MM := (mSeq (mSet 1 (xCallT 0 m__law_draw (xaCons (xC (.int 7)) xaNil)))
  (mSeq (mSet 2 (xCallT 0 m__law_letters (xaCons (xVar 1) xaNil)))
  (mSeq (mSet 3 (xCallT 0 m__law_letters (xaCons (xVar 1) xaNil)))
  (mSeq (mIf (xOr (xT (xOp dNe (xFn m_letter_product (xaCons (xVar 2) (xaCons (xVar 3) xaNil))) (xFn m__law_product (xaCons (xVar 2) (xaCons (xVar 3) xaNil))))) (xT (xOp dNe (xFn m_weight_of (xaCons (xVar 2) xaNil)) (xFn dLen (xaCons (xLst (xLc (xSigns (xVar 2)) [9] (bName 9) (xT (xOp dNe (xVar 9) (xC (.str "I")))) (xVar 9))) xaNil))))) (mRet (xC (.bool false)))
  mSkip)
  (mSeq (mSet 4 (xOp dEq (xFn m__law_product (xaCons (xVar 2) (xaCons (xVar 3) xaNil))) (xFn m__law_product (xaCons (xVar 3) (xaCons (xVar 2) xaNil)))))
  (mSeq (mSet 5 (xFn m_do_agree (xaCons (xVar 2) (xaCons (xVar 3) xaNil))))
  (mSeq (mIf (xOr (xNot (xTru (xUn (dIsi "bool") (xVar 5)))) (xOr (xT (xOp dNe (xVar 5) (xVar 4))) (xT (xOp dNe (xVar 5) (xFn m__law_agree (xaCons (xVar 2) (xaCons (xVar 3) xaNil))))))) (mRet (xC (.bool false)))
  mSkip)
  (mSeq (mIf (xAnd (xTru (xVar 4)) (xT (xOp dNe (xFn m_signed_product (xaCons (xTup (xaCons (xVar 2) (xaCons (xC (.int 1)) xaNil))) (xaCons (xTup (xaCons (xVar 3) (xaCons (xC (.int 0)) xaNil))) xaNil))) (xFn m__law_signed (xaCons (xTup (xaCons (xVar 2) (xaCons (xC (.int 1)) xaNil))) (xaCons (xTup (xaCons (xVar 3) (xaCons (xC (.int 0)) xaNil))) xaNil)))))) (mRet (xC (.bool false)))
  mSkip)
  (mSeq (mSet 6 (xLst (xLc (xRg1 (xVar 1)) [10] (bName 10) (xT (xOp dEq (xCallT 0 m__law_draw (xaCons (xC (.int 2)) xaNil)) (xC (.int 0)))) (xVar 10))))
  (mSeq (mIf (xT (xOp dGt (xFn dLen (xaCons (xVar 6) xaNil)) (xC (.int 0)))) (mSet 6 (xLst (xfMap (fun ds => some ds.reverse) (xList (xVar 6)))))
  mSkip)
  (mSeq (mSet 7 (xCallT 0 m__law_letters (xaCons (xFn dLen (xaCons (xVar 6) xaNil)) xaNil)))
  (mSeq (mSet 8 (xFn m_with_letters (xaCons (xVar 2) (xaCons (xVar 6) (xaCons (xVar 7) xaNil)))))
  (mRet (xAndV (xT (xOp dEq (xFn m_letters_at (xaCons (xVar 8) (xaCons (xVar 6) xaNil))) (xVar 7))) (xOp dEq (xLst (xLc (xRg1 (xVar 1)) [10] (bName 10) (xT (xOp (dIn true) (xVar 10) (xVar 6))) (xOp dIx (xVar 8) (xVar 10)))) (xLst (xLc (xRg1 (xVar 1)) [10] (bName 10) (xT (xOp (dIn true) (xVar 10) (xVar 6))) (xOp dIx (xVar 2) (xVar 10)))))))))))))))))))
def m__law_products : List D → List D → Option (D × List D) := fnT 1 11 mb__law_products
theorem ok__law_products {f : Addr} {fd : FuncData} (F : FnP K "_law_products" "_law_products" s__law_products f fd) (b_len : mg "len" = none) (b_isinstance : mg "isinstance" = none) (b_bool : mg "bool" = none) (b_range : mg "range" = none) (F__law_draw : FnAt P w K mg base 1 "_law_draw" ["feed", "many"] (spT K m__law_draw)) (F__law_letters : FnAt P w K mg base 2 "_law_letters" ["feed", "m"] (spT K m__law_letters)) (F_letter_product : FnAt P w K mg base 2 "letter_product" ["one", "other"] (spP K m_letter_product)) (F__law_product : FnAt P w K mg base 1 "_law_product" ["one", "other"] (spP K m__law_product)) (F_weight_of : FnAt P w K mg base 1 "weight_of" ["letters"] (spP K m_weight_of)) (F_do_agree : FnAt P w K mg base 1 "do_agree" ["one", "other"] (spP K m_do_agree)) (F__law_agree : FnAt P w K mg base 1 "_law_agree" ["one", "other"] (spP K m__law_agree)) (F_signed_product : FnAt P w K mg base 3 "signed_product" ["one", "other"] (spP K m_signed_product)) (F__law_signed : FnAt P w K mg base 2 "_law_signed" ["one", "other"] (spP K m__law_signed)) (F_with_letters : FnAt P w K mg base 1 "with_letters" ["letters", "wires", "others"] (spP K m_with_letters)) (F_letters_at : FnAt P w K mg base 1 "letters_at" ["letters", "wires"] (spP K m_letters_at)) : FnOk P w K mg base CX0 4 f fd ["feed"] (spT K m__law_products) :=
  fn_T F sc__law_products rfl rfl fun A hr => have hu := u64 hr
  (sss_cons (O1 := [0]) (ss_set (W := [0]) (i := 1) (O' := [0]) rfl rfl (tr_callT (i := 0) F__law_draw (hr.mono (by decide)) rfl rfl rfl (by decide) (ta_wk (ta_cons tr_int ta_nil (by decide))) (by decide) (by decide)) (by decide) (by decide) (by decide) (by decide))
  (sss_cons (O1 := [0]) (ss_set (W := [0]) (i := 2) (O' := [0]) rfl rfl (tr_callT (i := 0) F__law_letters (hr.mono (by decide)) rfl rfl rfl (by decide) (ta_wk (ta_cons (tr_var (i := 1) rfl rfl (by decide) (by decide)) ta_nil (by decide))) (by decide) (by decide)) (by decide) (by decide) (by decide) (by decide))
  (sss_cons (O1 := [0]) (ss_set (W := [0]) (i := 3) (O' := [0]) rfl rfl (tr_callT (i := 0) F__law_letters (hr.mono (by decide)) rfl rfl rfl (by decide) (ta_wk (ta_cons (tr_var (i := 1) rfl rfl (by decide) (by decide)) ta_nil (by decide))) (by decide) (by decide)) (by decide) (by decide) (by decide) (by decide))
  (sss_cons (O1 := [0]) (ss_if (W := []) (tt_W (tw_or (tt_cmp (L0 := []) (ho_ne hu) rs_ne (tr_call F_letter_product (hr.mono (by decide)) rfl (ta_cons (tr_var (i := 2) rfl rfl (by decide) (by decide)) (ta_cons (tr_var (i := 3) rfl rfl (by decide) (by decide)) ta_nil (by decide)) (by decide)) (by decide)) (tr_call F__law_product (hr.mono (by decide)) rfl (ta_cons (tr_var (i := 2) rfl rfl (by decide) (by decide)) (ta_cons (tr_var (i := 3) rfl rfl (by decide) (by decide)) ta_nil (by decide)) (by decide)) (by decide)) (by decide) rfl) (tw_or1 (tt_cmp (L0 := []) (ho_ne hu) rs_ne (tr_call F_weight_of (hr.mono (by decide)) rfl (ta_cons (tr_var (i := 2) rfl rfl (by decide) (by decide)) ta_nil (by decide)) (by decide)) (tr_len (L0 := []) rfl b_len (ta_cons (tr_F (by decide) (tf_lc [("x", 9)] (ti_str (L := []) (tr_var (i := 2) rfl rfl (by decide) (by decide))) rfl (tg_name (i := 9) rfl rfl (by decide) (by decide)) (tts_one (tt_cmp (L0 := []) (ho_ne hu) rs_ne (tr_var (i := 9) rfl rfl (by decide) (by decide)) tr_str (by decide) rfl)) (tr_var (i := 9) rfl rfl (by decide) (by decide)) (by decide) (by decide) (by decide))) ta_nil (by decide))) (by decide) rfl)))) (sss_one (ss_ret (W := []) tr_bl (by decide)))
  sss_nil (by decide))
  (sss_cons (O1 := [0]) (ss_set (W := []) (i := 4) (O' := [0]) rfl rfl (tr_cmp (L0 := []) (ho_eq hu) rs_eq (tr_call F__law_product (hr.mono (by decide)) rfl (ta_cons (tr_var (i := 2) rfl rfl (by decide) (by decide)) (ta_cons (tr_var (i := 3) rfl rfl (by decide) (by decide)) ta_nil (by decide)) (by decide)) (by decide)) (tr_call F__law_product (hr.mono (by decide)) rfl (ta_cons (tr_var (i := 3) rfl rfl (by decide) (by decide)) (ta_cons (tr_var (i := 2) rfl rfl (by decide) (by decide)) ta_nil (by decide)) (by decide)) (by decide)) (by decide) rfl) (by decide) (by decide) (by decide) (by decide))
  (sss_cons (O1 := [0]) (ss_set (W := []) (i := 5) (O' := [0]) rfl rfl (tr_call F_do_agree (hr.mono (by decide)) rfl (ta_cons (tr_var (i := 2) rfl rfl (by decide) (by decide)) (ta_cons (tr_var (i := 3) rfl rfl (by decide) (by decide)) ta_nil (by decide)) (by decide)) (by decide)) (by decide) (by decide) (by decide) (by decide))
  (sss_cons (O1 := [0]) (ss_if (W := []) (tt_W (tw_or (tt_not (tt_tru (L := []) (tr_isi (L0 := []) (T := "bool") rfl b_isinstance rfl b_bool (by decide +kernel) (tr_var (i := 5) rfl rfl (by decide) (by decide))))) (tw_or (tt_cmp (L0 := []) (ho_ne hu) rs_ne (tr_var (i := 5) rfl rfl (by decide) (by decide)) (tr_var (i := 4) rfl rfl (by decide) (by decide)) (by decide) rfl) (tw_or1 (tt_cmp (L0 := []) (ho_ne hu) rs_ne (tr_var (i := 5) rfl rfl (by decide) (by decide)) (tr_call F__law_agree (hr.mono (by decide)) rfl (ta_cons (tr_var (i := 2) rfl rfl (by decide) (by decide)) (ta_cons (tr_var (i := 3) rfl rfl (by decide) (by decide)) ta_nil (by decide)) (by decide)) (by decide)) (by decide) rfl))))) (sss_one (ss_ret (W := []) tr_bl (by decide)))
  sss_nil (by decide))
  (sss_cons (O1 := [0]) (ss_if (W := []) (tt_W (tw_and (tt_tru (L := []) (tr_var (i := 4) rfl rfl (by decide) (by decide))) (tw_and1 (tt_cmp (L0 := []) (ho_ne hu) rs_ne (tr_call F_signed_product (hr.mono (by decide)) rfl (ta_cons (tr_tup (ta_cons (tr_var (i := 2) rfl rfl (by decide) (by decide)) (ta_cons tr_int ta_nil (by decide)) (by decide)) (by decide)) (ta_cons (tr_tup (ta_cons (tr_var (i := 3) rfl rfl (by decide) (by decide)) (ta_cons tr_int ta_nil (by decide)) (by decide)) (by decide)) ta_nil (by decide)) (by decide)) (by decide)) (tr_call F__law_signed (hr.mono (by decide)) rfl (ta_cons (tr_tup (ta_cons (tr_var (i := 2) rfl rfl (by decide) (by decide)) (ta_cons tr_int ta_nil (by decide)) (by decide)) (by decide)) (ta_cons (tr_tup (ta_cons (tr_var (i := 3) rfl rfl (by decide) (by decide)) (ta_cons tr_int ta_nil (by decide)) (by decide)) (by decide)) ta_nil (by decide)) (by decide)) (by decide)) (by decide) rfl)))) (sss_one (ss_ret (W := []) tr_bl (by decide)))
  sss_nil (by decide))
  (sss_cons (O1 := [0]) (ss_setFu (W := [0]) (i := 6) (O' := [0]) rfl rfl (tf_lc [("k", 10)] (ti_rng1 (L0 := [0]) rfl b_range (tr_wk (tr_var (i := 1) rfl rfl (by decide) (by decide)))) rfl (tg_name (i := 10) rfl rfl (by decide) (by decide)) (tts_one (tt_cmp (L0 := [0]) (ho_eq hu) rs_eq (tr_callT (i := 0) F__law_draw (hr.mono (by decide)) rfl rfl rfl (by decide) (ta_wk (ta_cons tr_int ta_nil (by decide))) (by decide) (by decide)) (tr_wk tr_int) (by decide) rfl)) (tr_wk (tr_var (i := 10) rfl rfl (by decide) (by decide))) (by decide) (by decide) (by decide)) (by decide) (by decide) (by decide) (by decide))
  (sss_cons (O1 := [0]) (ss_if (W := []) (tt_cmp (L0 := []) ho_gt rs_gt (tr_len (L0 := []) rfl b_len (ta_cons (tr_var (i := 6) rfl rfl (by decide) (by decide)) ta_nil (by decide))) tr_int (by decide) rfl) (sss_one (ss_setFu (W := []) (i := 6) (O' := [0]) rfl rfl (tf_rev (tb_E (by decide) (tr_var (i := 6) rfl rfl (by decide) (by decide))) (by decide)) (by decide) (by decide) (by decide) (by decide)))
  sss_nil (by decide))
  (sss_cons (O1 := [0]) (ss_set (W := [0]) (i := 7) (O' := [0]) rfl rfl (tr_callT (i := 0) F__law_letters (hr.mono (by decide)) rfl rfl rfl (by decide) (ta_wk (ta_cons (tr_len (L0 := []) rfl b_len (ta_cons (tr_var (i := 6) rfl rfl (by decide) (by decide)) ta_nil (by decide))) ta_nil (by decide))) (by decide) (by decide)) (by decide) (by decide) (by decide) (by decide))
  (sss_cons (O1 := [0]) (ss_set (W := []) (i := 8) (O' := [0]) rfl rfl (tr_call F_with_letters (hr.mono (by decide)) rfl (ta_cons (tr_var (i := 2) rfl rfl (by decide) (by decide)) (ta_cons (tr_var (i := 6) rfl rfl (by decide) (by decide)) (ta_cons (tr_var (i := 7) rfl rfl (by decide) (by decide)) ta_nil (by decide)) (by decide)) (by decide)) (by decide)) (by decide) (by decide) (by decide) (by decide))
  (sss_one (ss_ret (W := []) (tr_and (L0 := []) (tr_cmp (L0 := []) (ho_eq hu) rs_eq (tr_call F_letters_at (hr.mono (by decide)) rfl (ta_cons (tr_var (i := 8) rfl rfl (by decide) (by decide)) (ta_cons (tr_var (i := 6) rfl rfl (by decide) (by decide)) ta_nil (by decide)) (by decide)) (by decide)) (tr_var (i := 7) rfl rfl (by decide) (by decide)) (by decide) rfl) (tr_one (tr_cmp (L0 := []) (ho_eq hu) rs_eq (tr_F (by decide) (tf_lc [("k", 10)] (ti_rng1 (L0 := []) rfl b_range (tr_var (i := 1) rfl rfl (by decide) (by decide))) rfl (tg_name (i := 10) rfl rfl (by decide) (by decide)) (tts_one (tt_cmp (L0 := []) ho_nin (rs_in true) (tr_var (i := 10) rfl rfl (by decide) (by decide)) (tr_var (i := 6) rfl rfl (by decide) (by decide)) (by decide) rfl)) (tr_ix (tr_var (i := 8) rfl rfl (by decide) (by decide)) (tr_var (i := 10) rfl rfl (by decide) (by decide)) (by decide) (by decide)) (by decide) (by decide) (by decide))) (tr_F (by decide) (tf_lc [("k", 10)] (ti_rng1 (L0 := []) rfl b_range (tr_var (i := 1) rfl rfl (by decide) (by decide))) rfl (tg_name (i := 10) rfl rfl (by decide) (by decide)) (tts_one (tt_cmp (L0 := []) ho_nin (rs_in true) (tr_var (i := 10) rfl rfl (by decide) (by decide)) (tr_var (i := 6) rfl rfl (by decide) (by decide)) (by decide) rfl)) (tr_ix (tr_var (i := 2) rfl rfl (by decide) (by decide)) (tr_var (i := 10) rfl rfl (by decide) (by decide)) (by decide) (by decide)) (by decide) (by decide) (by decide))) (by decide) rfl))) (by decide)))))))))))))))
/-! ### _law_led -/
abbrev s__law_led : Stmt := top 55
abbrev N__law_led : List Str := ["feed", "name", "n", "wires", "vector", "letters", "sign", "after", "more", "led", "scale", "ahead", "p", "q", "other", "both", "k"]
theorem sc__law_led : FnScope N__law_led ["feed", "name", "n", "wires"] (defScope s__law_led) := ⟨rfl, rfl, rfl, by decide +kernel, rfl, by decide +kernel, by decide +kernel⟩
def mb__law_led : MM := (mSeq (mSetF 4 (xLc (xRg1 (xOp dIx (xLst (xDisp (xaCons (xC (.int 1)) (xaCons (xC (.int 2)) (xaCons (xC (.int 4)) (xaCons (xC (.int 8)) xaNil)))))) (xVar 2))) [16] (bName 16) xYes (xTup (xaCons (xOp dSub (xCallT 0 m__law_draw (xaCons (xC (.int 5)) xaNil)) (xC (.int 2))) (xaCons (xOp dSub (xCallT 0 m__law_draw (xaCons (xC (.int 5)) xaNil)) (xC (.int 2))) xaNil)))))
  (mSeq (mIf (xT (xOp dEq (xFn m__law_size (xaCons (xVar 4) xaNil)) (xC (.int 0)))) (mSetIx 4 (xTup (xaCons (xC (.int 1)) (xaCons (xC (.int 0)) xaNil))) (xC (.int 0)))
  mSkip)
  (mSeq (mSet 5 (xCallT 0 m__law_letters (xaCons (xVar 2) xaNil)))
  (mSeq (mSet 6 (xCallT 0 m__law_draw (xaCons (xC (.int 2)) xaNil)))
  (mSeq (mAsg (xFn m_turned (xaCons (xVar 1) (xaCons (xLst (xSeq (xVar 3))) (xaCons (xTup (xaCons (xVar 5) (xaCons (xVar 6) xaNil))) xaNil)))) (bTup 2 (bCons (bName 7) (bCons (bName 8) bNil))))
  (mSeq (mSet 9 (xLst (xfMap m__law_turn (xaCons (xVar 2) (xaCons (xVar 4) (xaCons (xVar 1) (xaCons (xVar 3) xaNil)))))))
  (mSeq (mIf (xT (xOp dNe (xLst (xfMap m_turn_vector (xaCons (xVar 2) (xaCons (xLst (xSeq (xVar 4))) (xaCons (xVar 1) (xaCons (xLst (xSeq (xVar 3))) xaNil)))))) (xVar 9))) (mRet (xC (.bool false)))
  mSkip)
  (mSeq (mSet 10 (xOp dAdd (xC (.int 1)) (xFn dInt (xaCons (xOp dEq (xVar 1) (xC (.str "h"))) xaNil))))
  (mSeq (mSet 11 (xOp dMul (xOp dMul (xFn m__law_mean (xaCons (xVar 2) (xaCons (xVar 4) (xaCons (xVar 5) xaNil)))) (xOp dIx (xLst (xDisp (xaCons (xC (.int 1)) (xaCons (xUn dNeg (xC (.int 1))) xaNil)))) (xVar 6))) (xVar 10)))
  (mSeq (mIf (xT (xOp dNe (xVar 11) (xOp dMul (xFn m__law_mean (xaCons (xVar 2) (xaCons (xVar 9) (xaCons (xVar 7) xaNil)))) (xOp dIx (xLst (xDisp (xaCons (xC (.int 1)) (xaCons (xUn dNeg (xC (.int 1))) xaNil)))) (xVar 8))))) (mRet (xC (.bool false)))
  mSkip)
  (mSeq (mAsg (xFn m_mean_of (xaCons (xVar 2) (xaCons (xLst (xSeq (xVar 9))) (xaCons (xVar 7) xaNil)))) (bTup 2 (bCons (bName 12) (bCons (bName 13) bNil))))
  (mSeq (mIf (xOr (xT (xOp dLt (xVar 13) (xC (.int 1)))) (xT (xOp dNe (xOp dMul (xVar 12) (xFn m__law_size (xaCons (xVar 9) xaNil))) (xOp dMul (xVar 13) (xFn m__law_mean (xaCons (xVar 2) (xaCons (xVar 9) (xaCons (xVar 7) xaNil)))))))) (mRet (xC (.bool false)))
  mSkip)
  (mSeq (mSet 14 (xCallT 0 m__law_letters (xaCons (xVar 2) xaNil)))
  (mSeq (mIf (xTru (xFn m__law_agree (xaCons (xVar 5) (xaCons (xVar 14) xaNil)))) (mSeq (mSet 15 (xFn m__law_signed (xaCons (xTup (xaCons (xVar 5) (xaCons (xVar 6) xaNil))) (xaCons (xTup (xaCons (xVar 14) (xaCons (xC (.int 1)) xaNil))) xaNil))))
  (mIf (xT (xOp dNe (xFn m_turned (xaCons (xVar 1) (xaCons (xLst (xSeq (xVar 3))) (xaCons (xVar 15) xaNil)))) (xFn m__law_signed (xaCons (xTup (xaCons (xVar 7) (xaCons (xVar 8) xaNil))) (xaCons (xFn m_turned (xaCons (xVar 1) (xaCons (xLst (xSeq (xVar 3))) (xaCons (xTup (xaCons (xVar 14) (xaCons (xC (.int 1)) xaNil))) xaNil)))) xaNil))))) (mRet (xC (.bool false)))
  mSkip))
  mSkip)
  (mRet (xOp dEq (xFn m_turned (xaCons (xFn m_back_turn (xaCons (xVar 1) xaNil)) (xaCons (xLst (xSeq (xVar 3))) (xaCons (xTup (xaCons (xVar 7) (xaCons (xVar 8) xaNil))) xaNil)))) (xTup (xaCons (xVar 5) (xaCons (xVar 6) xaNil)))))))))))))))))))
def m__law_led : List D → List D → Option (D × List D) := fnT 4 17 mb__law_led
theorem ok__law_led {f : Addr} {fd : FuncData} (F : FnP K "_law_led" "_law_led" s__law_led f fd) (b_range : mg "range" = none) (b_list : mg "list" = none) (b_int : mg "int" = none) (F__law_draw : FnAt P w K mg base 1 "_law_draw" ["feed", "many"] (spT K m__law_draw)) (F__law_size : FnAt P w K mg base 1 "_law_size" ["vector"] (spP K m__law_size)) (F__law_letters : FnAt P w K mg base 2 "_law_letters" ["feed", "m"] (spT K m__law_letters)) (F_turned : FnAt P w K mg base 4 "turned" ["name", "wires", "signed"] (spP K m_turned)) (F__law_turn : FnAt P w K mg base 2 "_law_turn" ["n", "vector", "name", "places"] (spL K m__law_turn)) (F_turn_vector : FnAt P w K mg base 3 "turn_vector" ["n", "vector", "name", "places"] (spL K m_turn_vector)) (F__law_mean : FnAt P w K mg base 3 "_law_mean" ["n", "vector", "letters"] (spP K m__law_mean)) (F_mean_of : FnAt P w K mg base 4 "mean_of" ["n", "vector", "letters"] (spP K m_mean_of)) (F__law_agree : FnAt P w K mg base 1 "_law_agree" ["one", "other"] (spP K m__law_agree)) (F__law_signed : FnAt P w K mg base 2 "_law_signed" ["one", "other"] (spP K m__law_signed)) (F_back_turn : FnAt P w K mg base 1 "back_turn" ["name"] (spP K m_back_turn)) : FnOk P w K mg base CX0 5 f fd ["feed", "name", "n", "wires"] (spT K m__law_led) :=
  fn_T F sc__law_led rfl rfl fun A hr => have hu := u64 hr
  (sss_cons (O1 := [0, 4]) (ss_lc (W := [0]) (O' := [0, 4]) (setLc_t (W := [0]) (i := 4) [("k", 16)] rfl rfl rfl (ti_rng1 (L0 := [0]) rfl b_range (tr_wk (tr_ix (tr_F (by decide) (tf_disp (ta_cons tr_int (ta_cons tr_int (ta_cons tr_int (ta_cons tr_int ta_nil (by decide)) (by decide)) (by decide)) (by decide)) (by decide))) (tr_var (i := 2) rfl rfl (by decide) (by decide)) (by decide) (by decide)))) rfl (tg_name (i := 16) rfl rfl (by decide) (by decide)) tts_nil (tr_tup (ta_cons (tr_opS (L0 := [0]) ho_sub rs_sub (tr_callT (i := 0) F__law_draw (hr.mono (by decide)) rfl rfl rfl (by decide) (ta_wk (ta_cons tr_int ta_nil (by decide))) (by decide) (by decide)) (tr_wk tr_int) (by decide)) (ta_cons (tr_opS (L0 := [0]) ho_sub rs_sub (tr_callT (i := 0) F__law_draw (hr.mono (by decide)) rfl rfl rfl (by decide) (ta_wk (ta_cons tr_int ta_nil (by decide))) (by decide) (by decide)) (tr_wk tr_int) (by decide)) ta_nil (by decide)) (by decide)) (by decide)) (by decide) (by decide)) (by decide) (by decide) (by decide) (by decide))
  (sss_cons (O1 := [0]) (ss_if (W := []) (tt_cmp (L0 := []) (ho_eq hu) rs_eq (tr_call F__law_size (hr.mono (by decide)) rfl (ta_cons (tr_var (i := 4) rfl rfl (by decide) (by decide)) ta_nil (by decide)) (by decide)) tr_int (by decide) rfl) (sss_out (O1 := [0, 4]) (sss_one (ss_setIx (W := []) (L0 := []) (i := 4) rfl rfl (by decide) (tr_tup (ta_cons tr_int (ta_cons tr_int ta_nil (by decide)) (by decide)) (by decide)) tr_int (by decide))) (by decide) (by decide))
  (sss_out (O1 := [0, 4]) sss_nil (by decide) (by decide)) (by decide))
  (sss_cons (O1 := [0]) (ss_set (W := [0]) (i := 5) (O' := [0]) rfl rfl (tr_callT (i := 0) F__law_letters (hr.mono (by decide)) rfl rfl rfl (by decide) (ta_wk (ta_cons (tr_var (i := 2) rfl rfl (by decide) (by decide)) ta_nil (by decide))) (by decide) (by decide)) (by decide) (by decide) (by decide) (by decide))
  (sss_cons (O1 := [0]) (ss_set (W := [0]) (i := 6) (O' := [0]) rfl rfl (tr_callT (i := 0) F__law_draw (hr.mono (by decide)) rfl rfl rfl (by decide) (ta_wk (ta_cons tr_int ta_nil (by decide))) (by decide) (by decide)) (by decide) (by decide) (by decide) (by decide))
  (sss_cons (O1 := [0]) (ss_asg (W := []) (vs := [7, 8]) (tr_call F_turned (hr.mono (by decide)) rfl (ta_cons (tr_var (i := 1) rfl rfl (by decide) (by decide)) (ta_cons (tr_F (by decide) (tf_list rfl b_list (tq_E (by decide) (tr_var (i := 3) rfl rfl (by decide) (by decide))) (by decide))) (ta_cons (tr_tup (ta_cons (tr_var (i := 5) rfl rfl (by decide) (by decide)) (ta_cons (tr_var (i := 6) rfl rfl (by decide) (by decide)) ta_nil (by decide)) (by decide)) (by decide)) ta_nil (by decide)) (by decide)) (by decide)) (by decide)) (tg_tup (tgs_cons (tg_name (i := 7) rfl rfl (by decide) (by decide)) (tgs_cons (tg_name (i := 8) rfl rfl (by decide) (by decide)) tgs_nil (by decide)) (by decide))) (by decide) (by decide))
  (sss_cons (O1 := [0]) (ss_setFu (W := []) (i := 9) (O' := [0]) rfl rfl (tf_call F__law_turn (hr.mono (by decide)) rfl (ta_cons (tr_var (i := 2) rfl rfl (by decide) (by decide)) (ta_cons (tr_var (i := 4) rfl rfl (by decide) (by decide)) (ta_cons (tr_var (i := 1) rfl rfl (by decide) (by decide)) (ta_cons (tr_var (i := 3) rfl rfl (by decide) (by decide)) ta_nil (by decide)) (by decide)) (by decide)) (by decide)) (by decide) (by decide)) (by decide) (by decide) (by decide) (by decide))
  (sss_cons (O1 := [0]) (ss_if (W := []) (tt_cmp (L0 := []) (ho_ne hu) rs_ne (tr_F (by decide) (tf_call F_turn_vector (hr.mono (by decide)) rfl (ta_cons (tr_var (i := 2) rfl rfl (by decide) (by decide)) (ta_cons (tr_F (by decide) (tf_list rfl b_list (tq_E (by decide) (tr_var (i := 4) rfl rfl (by decide) (by decide))) (by decide))) (ta_cons (tr_var (i := 1) rfl rfl (by decide) (by decide)) (ta_cons (tr_F (by decide) (tf_list rfl b_list (tq_E (by decide) (tr_var (i := 3) rfl rfl (by decide) (by decide))) (by decide))) ta_nil (by decide)) (by decide)) (by decide)) (by decide)) (by decide) (by decide))) (tr_var (i := 9) rfl rfl (by decide) (by decide)) (by decide) rfl) (sss_one (ss_ret (W := []) tr_bl (by decide)))
  sss_nil (by decide))
  (sss_cons (O1 := [0]) (ss_set (W := []) (i := 10) (O' := [0]) rfl rfl (tr_opS (L0 := []) ho_add rs_add tr_int (tr_intC (L0 := []) rfl b_int (ta_cons (tr_cmp (L0 := []) (ho_eq hu) rs_eq (tr_var (i := 1) rfl rfl (by decide) (by decide)) tr_str (by decide) rfl) ta_nil (by decide))) (by decide)) (by decide) (by decide) (by decide) (by decide))
  (sss_cons (O1 := [0]) (ss_set (W := []) (i := 11) (O' := [0]) rfl rfl (tr_opS (L0 := []) ho_mul rs_mul (tr_opS (L0 := []) ho_mul rs_mul (tr_call F__law_mean (hr.mono (by decide)) rfl (ta_cons (tr_var (i := 2) rfl rfl (by decide) (by decide)) (ta_cons (tr_var (i := 4) rfl rfl (by decide) (by decide)) (ta_cons (tr_var (i := 5) rfl rfl (by decide) (by decide)) ta_nil (by decide)) (by decide)) (by decide)) (by decide)) (tr_ix (tr_F (by decide) (tf_disp (ta_cons tr_int (ta_cons (tr_neg (L0 := []) tr_int) ta_nil (by decide)) (by decide)) (by decide))) (tr_var (i := 6) rfl rfl (by decide) (by decide)) (by decide) (by decide)) (by decide)) (tr_var (i := 10) rfl rfl (by decide) (by decide)) (by decide)) (by decide) (by decide) (by decide) (by decide))
  (sss_cons (O1 := [0]) (ss_if (W := []) (tt_cmp (L0 := []) (ho_ne hu) rs_ne (tr_var (i := 11) rfl rfl (by decide) (by decide)) (tr_opS (L0 := []) ho_mul rs_mul (tr_call F__law_mean (hr.mono (by decide)) rfl (ta_cons (tr_var (i := 2) rfl rfl (by decide) (by decide)) (ta_cons (tr_var (i := 9) rfl rfl (by decide) (by decide)) (ta_cons (tr_var (i := 7) rfl rfl (by decide) (by decide)) ta_nil (by decide)) (by decide)) (by decide)) (by decide)) (tr_ix (tr_F (by decide) (tf_disp (ta_cons tr_int (ta_cons (tr_neg (L0 := []) tr_int) ta_nil (by decide)) (by decide)) (by decide))) (tr_var (i := 8) rfl rfl (by decide) (by decide)) (by decide) (by decide)) (by decide)) (by decide) rfl) (sss_one (ss_ret (W := []) tr_bl (by decide)))
  sss_nil (by decide))
  (sss_cons (O1 := [0]) (ss_asg (W := []) (vs := [12, 13]) (tr_call F_mean_of (hr.mono (by decide)) rfl (ta_cons (tr_var (i := 2) rfl rfl (by decide) (by decide)) (ta_cons (tr_F (by decide) (tf_list rfl b_list (tq_E (by decide) (tr_var (i := 9) rfl rfl (by decide) (by decide))) (by decide))) (ta_cons (tr_var (i := 7) rfl rfl (by decide) (by decide)) ta_nil (by decide)) (by decide)) (by decide)) (by decide)) (tg_tup (tgs_cons (tg_name (i := 12) rfl rfl (by decide) (by decide)) (tgs_cons (tg_name (i := 13) rfl rfl (by decide) (by decide)) tgs_nil (by decide)) (by decide))) (by decide) (by decide))
  (sss_cons (O1 := [0]) (ss_if (W := []) (tt_W (tw_or (tt_cmp (L0 := []) ho_lt rs_lt (tr_var (i := 13) rfl rfl (by decide) (by decide)) tr_int (by decide) rfl) (tw_or1 (tt_cmp (L0 := []) (ho_ne hu) rs_ne (tr_opS (L0 := []) ho_mul rs_mul (tr_var (i := 12) rfl rfl (by decide) (by decide)) (tr_call F__law_size (hr.mono (by decide)) rfl (ta_cons (tr_var (i := 9) rfl rfl (by decide) (by decide)) ta_nil (by decide)) (by decide)) (by decide)) (tr_opS (L0 := []) ho_mul rs_mul (tr_var (i := 13) rfl rfl (by decide) (by decide)) (tr_call F__law_mean (hr.mono (by decide)) rfl (ta_cons (tr_var (i := 2) rfl rfl (by decide) (by decide)) (ta_cons (tr_var (i := 9) rfl rfl (by decide) (by decide)) (ta_cons (tr_var (i := 7) rfl rfl (by decide) (by decide)) ta_nil (by decide)) (by decide)) (by decide)) (by decide)) (by decide)) (by decide) rfl)))) (sss_one (ss_ret (W := []) tr_bl (by decide)))
  sss_nil (by decide))
  (sss_cons (O1 := [0]) (ss_set (W := [0]) (i := 14) (O' := [0]) rfl rfl (tr_callT (i := 0) F__law_letters (hr.mono (by decide)) rfl rfl rfl (by decide) (ta_wk (ta_cons (tr_var (i := 2) rfl rfl (by decide) (by decide)) ta_nil (by decide))) (by decide) (by decide)) (by decide) (by decide) (by decide) (by decide))
  (sss_cons (O1 := [0]) (ss_if (W := []) (tt_tru (L := []) (tr_call F__law_agree (hr.mono (by decide)) rfl (ta_cons (tr_var (i := 5) rfl rfl (by decide) (by decide)) (ta_cons (tr_var (i := 14) rfl rfl (by decide) (by decide)) ta_nil (by decide)) (by decide)) (by decide))) (sss_cons (O1 := [0]) (ss_set (W := []) (i := 15) (O' := [0]) rfl rfl (tr_call F__law_signed (hr.mono (by decide)) rfl (ta_cons (tr_tup (ta_cons (tr_var (i := 5) rfl rfl (by decide) (by decide)) (ta_cons (tr_var (i := 6) rfl rfl (by decide) (by decide)) ta_nil (by decide)) (by decide)) (by decide)) (ta_cons (tr_tup (ta_cons (tr_var (i := 14) rfl rfl (by decide) (by decide)) (ta_cons tr_int ta_nil (by decide)) (by decide)) (by decide)) ta_nil (by decide)) (by decide)) (by decide)) (by decide) (by decide) (by decide) (by decide))
  (sss_one (ss_if (W := []) (tt_cmp (L0 := []) (ho_ne hu) rs_ne (tr_call F_turned (hr.mono (by decide)) rfl (ta_cons (tr_var (i := 1) rfl rfl (by decide) (by decide)) (ta_cons (tr_F (by decide) (tf_list rfl b_list (tq_E (by decide) (tr_var (i := 3) rfl rfl (by decide) (by decide))) (by decide))) (ta_cons (tr_var (i := 15) rfl rfl (by decide) (by decide)) ta_nil (by decide)) (by decide)) (by decide)) (by decide)) (tr_call F__law_signed (hr.mono (by decide)) rfl (ta_cons (tr_tup (ta_cons (tr_var (i := 7) rfl rfl (by decide) (by decide)) (ta_cons (tr_var (i := 8) rfl rfl (by decide) (by decide)) ta_nil (by decide)) (by decide)) (by decide)) (ta_cons (tr_call F_turned (hr.mono (by decide)) rfl (ta_cons (tr_var (i := 1) rfl rfl (by decide) (by decide)) (ta_cons (tr_F (by decide) (tf_list rfl b_list (tq_E (by decide) (tr_var (i := 3) rfl rfl (by decide) (by decide))) (by decide))) (ta_cons (tr_tup (ta_cons (tr_var (i := 14) rfl rfl (by decide) (by decide)) (ta_cons tr_int ta_nil (by decide)) (by decide)) (by decide)) ta_nil (by decide)) (by decide)) (by decide)) (by decide)) ta_nil (by decide)) (by decide)) (by decide)) (by decide) rfl) (sss_one (ss_ret (W := []) tr_bl (by decide)))
  sss_nil (by decide))))
  sss_nil (by decide))
  (sss_one (ss_ret (W := []) (tr_cmp (L0 := []) (ho_eq hu) rs_eq (tr_call F_turned (hr.mono (by decide)) rfl (ta_cons (tr_call F_back_turn (hr.mono (by decide)) rfl (ta_cons (tr_var (i := 1) rfl rfl (by decide) (by decide)) ta_nil (by decide)) (by decide)) (ta_cons (tr_F (by decide) (tf_list rfl b_list (tq_E (by decide) (tr_var (i := 3) rfl rfl (by decide) (by decide))) (by decide))) (ta_cons (tr_tup (ta_cons (tr_var (i := 7) rfl rfl (by decide) (by decide)) (ta_cons (tr_var (i := 8) rfl rfl (by decide) (by decide)) ta_nil (by decide)) (by decide)) (by decide)) ta_nil (by decide)) (by decide)) (by decide)) (by decide)) (tr_tup (ta_cons (tr_var (i := 5) rfl rfl (by decide) (by decide)) (ta_cons (tr_var (i := 6) rfl rfl (by decide) (by decide)) ta_nil (by decide)) (by decide)) (by decide)) (by decide) rfl) (by decide)))))))))))))))))
/-! ### law -/
abbrev s_law : Stmt := top 56
abbrev N_law : List Str := ["script", "feed", "turn", "name", "size", "n", "rest", "wires", "value", "k", "x"]
theorem sc_law : FnScope N_law ["script"] (defScope s_law) := ⟨rfl, rfl, rfl, by decide +kernel, rfl, by decide +kernel, by decide +kernel⟩
def mb_law : MM := (mSeq (mSetF 1 (xfMap m__law_feed (xaCons (xVar 0) xaNil)))
  (mSeq (mFor (xRg1 (xC (.int 4))) (bName 2) (mForget [2] (mIf (xNot (xTru (xCallT 1 m__law_products xaNil))) (mRet (xC (.bool false)))
  mSkip)))
  (mSeq (mFor (xDisp (xaCons (xC (.str "h")) (xaCons (xC (.str "s")) (xaCons (xC (.str "r")) (xaCons (xC (.str "x")) (xaCons (xC (.str "y")) (xaCons (xC (.str "z")) (xaCons (xC (.str "cx")) (xaCons (xC (.str "cz")) (xaCons (xC (.str "sw")) xaNil)))))))))) (bName 3) (mForget [3, 4, 5, 6, 7] (mSeq (mSet 4 (xOp dAdd (xC (.int 1)) (xFn dInt (xaCons (xOp (dIn false) (xVar 3) (xLst (xDisp (xaCons (xC (.str "cx")) (xaCons (xC (.str "cz")) (xaCons (xC (.str "sw")) xaNil)))))) xaNil))))
  (mSeq (mSet 5 (xOp dAdd (xVar 4) (xCallT 1 m__law_draw (xaCons (xOp dSub (xC (.int 4)) (xVar 4)) xaNil))))
  (mSeq (mSetF 6 (xLc (xRg1 (xVar 5)) [9] (bName 9) xYes (xVar 9)))
  (mSeq (mSet 7 (xLst (xLc (xRg1 (xVar 4)) [9] (bName 9) xYes (xPopAt 6 (xCallT 1 m__law_draw (xaCons (xFn dLen (xaCons (xVar 6) xaNil)) xaNil))))))
  (mIf (xOr (xT (xOp dNe (xFn (okX m_turn_size) (xaCons (xVar 3) xaNil)) (xVar 4))) (xNot (xTru (xCallT 1 m__law_led (xaCons (xVar 3) (xaCons (xVar 5) (xaCons (xVar 7) xaNil))))))) (mRet (xC (.bool false)))
  mSkip)))))))
  (mSeq (mFor (xDisp (xaCons (xC (.str "")) (xaCons (xC (.str "t")) (xaCons (xC (.str "hs")) (xaCons (xC (.str "H")) (xaCons (xC (.str "cy")) (xaCons (xC (.str "swap")) (xaCons (xC (.str "xx")) xaNil)))))))) (bName 3) (mForget [3] (mIf (xNot (xTru (xFn m__law_refused (xaCons (xVar 3) xaNil)))) (mRet (xC (.bool false)))
  mSkip)))
  (mSeq (mFor (xDisp (xaCons (xC (.int 0)) (xaCons (xUn dNeg (xC (.int 3))) (xaCons (xOp dPow (xC (.int 10)) (xC (.int 59))) xaNil)))) (bName 8) (mForget [8] (mIf (xT (xOp dNotB (xFn m_is_whole (xaCons (xVar 8) xaNil)) (xC (.bool true)))) (mRet (xC (.bool false)))
  mSkip)))
  (mSeq (mFor (xDisp (xaCons (xC (.bool true)) (xaCons (xC (.bool false)) (xaCons (xC .none) (xaCons (xC (.str "1")) (xaCons (xLst (xDisp (xaCons (xC (.int 1)) xaNil))) (xaCons (xTup (xaCons (xC (.int 1)) xaNil)) xaNil))))))) (bName 8) (mForget [8] (mIf (xT (xOp dNotB (xFn m_is_whole (xaCons (xVar 8) xaNil)) (xC (.bool false)))) (mRet (xC (.bool false)))
  mSkip)))
  (mRet (xAndV (xT (xOp dEq (xFn m_turned (xaCons (xC (.str "cx")) (xaCons (xLst (xDisp (xaCons (xC (.int 0)) (xaCons (xC (.int 1)) xaNil)))) (xaCons (xTup (xaCons (xC (.str "YY")) (xaCons (xC (.int 0)) xaNil))) xaNil)))) (xTup (xaCons (xC (.str "XZ")) (xaCons (xC (.int 1)) xaNil))))) (xAndV (xT (xOp dEq (xFn m_letter_product (xaCons (xC (.str "XYZ")) (xaCons (xC (.str "YZX")) xaNil))) (xTup (xaCons (xC (.int 3)) (xaCons (xC (.str "ZXY")) xaNil))))) (xOp dEq (xLst (xLc (xDisp (xaCons (xC (.str "s")) (xaCons (xC (.str "r")) (xaCons (xC (.str "h")) (xaCons (xC (.str "cx")) xaNil))))) [10] (bName 10) xYes (xFn m_back_turn (xaCons (xVar 10) xaNil)))) (xLst (xDisp (xaCons (xC (.str "r")) (xaCons (xC (.str "s")) (xaCons (xC (.str "h")) (xaCons (xC (.str "cx")) xaNil))))))))))))))))
def m_law : List D → Option D := fnP 1 11 mb_law
theorem ok_law {f : Addr} {fd : FuncData} (F : FnP K "law" "law" s_law f fd) (b_range : mg "range" = none) (b_int : mg "int" = none) (b_len : mg "len" = none) (F__law_feed : FnAt P w K mg base 1 "_law_feed" ["script"] (spL K m__law_feed)) (F__law_products : FnAt P w K mg base 4 "_law_products" ["feed"] (spT K m__law_products)) (F__law_draw : FnAt P w K mg base 1 "_law_draw" ["feed", "many"] (spT K m__law_draw)) (F_turn_size : FnAtX P w K mg base 3 "turn_size" ["name"] (spX K m_turn_size)) (F__law_led : FnAt P w K mg base 5 "_law_led" ["feed", "name", "n", "wires"] (spT K m__law_led)) (F__law_refused : FnAt P w K mg base 4 "_law_refused" ["name"] (spP K m__law_refused)) (F_is_whole : FnAt P w K mg base 1 "is_whole" ["value"] (spP K m_is_whole)) (F_turned : FnAt P w K mg base 4 "turned" ["name", "wires", "signed"] (spP K m_turned)) (F_letter_product : FnAt P w K mg base 2 "letter_product" ["one", "other"] (spP K m_letter_product)) (F_back_turn : FnAt P w K mg base 1 "back_turn" ["name"] (spP K m_back_turn)) : FnOk P w K mg base CX0 6 f fd ["script"] (spP K m_law) :=
  fn_P F sc_law rfl rfl fun A hr => have hu := u64 hr
  (sss_cons (O1 := [1]) (ss_setF (W := []) (i := 1) (O' := [1]) rfl rfl (tf_call F__law_feed (hr.mono (by decide)) rfl (ta_cons (tr_var (i := 0) rfl rfl (by decide) (by decide)) ta_nil (by decide)) (by decide) (by decide)) (by decide) (by decide) (by decide) (by decide))
  (sss_cons (O1 := [1]) (ss_for (W := []) (vs := [2]) (ti_rng1 (L0 := []) rfl b_range tr_int) (tg_name (i := 2) rfl rfl (by decide) (by decide)) (sss_forget [2] (sss_one (ss_if (W := [1]) (tt_not (tt_tru (L := [1]) (tr_callT (i := 1) F__law_products (hr.mono (by decide)) rfl rfl rfl (by decide) (ta_wk ta_nil) (by decide) (by decide)))) (sss_free (L := []) (sss_one (ss_ret (W := []) tr_bl (by decide))) (by decide) (by decide))
  sss_nil (by decide))) (by decide)) (by decide) (by decide))
  (sss_cons (O1 := [1]) (ss_for (W := []) (vs := [3]) (ti_F (tf_disp (ta_cons tr_str (ta_cons tr_str (ta_cons tr_str (ta_cons tr_str (ta_cons tr_str (ta_cons tr_str (ta_cons tr_str (ta_cons tr_str (ta_cons tr_str ta_nil (by decide)) (by decide)) (by decide)) (by decide)) (by decide)) (by decide)) (by decide)) (by decide)) (by decide)) (by decide))) (tg_name (i := 3) rfl rfl (by decide) (by decide)) (sss_forget [3, 4, 5, 6, 7] (sss_cons (O1 := [1]) (ss_set (W := []) (i := 4) (O' := [1]) rfl rfl (tr_opS (L0 := []) ho_add rs_add tr_int (tr_intC (L0 := []) rfl b_int (ta_cons (tr_cmp (L0 := []) ho_in (rs_in false) (tr_var (i := 3) rfl rfl (by decide) (by decide)) (tr_F (by decide) (tf_disp (ta_cons tr_str (ta_cons tr_str (ta_cons tr_str ta_nil (by decide)) (by decide)) (by decide)) (by decide))) (by decide) rfl) ta_nil (by decide))) (by decide)) (by decide) (by decide) (by decide) (by decide))
  (sss_cons (O1 := [1]) (ss_set (W := [1]) (i := 5) (O' := [1]) rfl rfl (tr_opS (L0 := [1]) ho_add rs_add (tr_wk (tr_var (i := 4) rfl rfl (by decide) (by decide))) (tr_callT (i := 1) F__law_draw (hr.mono (by decide)) rfl rfl rfl (by decide) (ta_wk (ta_cons (tr_opS (L0 := []) ho_sub rs_sub tr_int (tr_var (i := 4) rfl rfl (by decide) (by decide)) (by decide)) ta_nil (by decide))) (by decide) (by decide)) (by decide)) (by decide) (by decide) (by decide) (by decide))
  (sss_cons (O1 := [1, 6]) (ss_setF (W := []) (i := 6) (O' := [1, 6]) rfl rfl (tf_lc [("k", 9)] (ti_rng1 (L0 := []) rfl b_range (tr_var (i := 5) rfl rfl (by decide) (by decide))) rfl (tg_name (i := 9) rfl rfl (by decide) (by decide)) tts_nil (tr_var (i := 9) rfl rfl (by decide) (by decide)) (by decide) (by decide) (by decide)) (by decide) (by decide) (by decide) (by decide))
  (sss_cons (O1 := [1, 6]) (ss_lcu (W := [1, 6]) (O' := [1, 6]) (setLc_t (W := [1, 6]) (i := 7) [("k", 9)] rfl rfl rfl (ti_rng1 (L0 := [1, 6]) rfl b_range (tr_wk (tr_var (i := 4) rfl rfl (by decide) (by decide)))) rfl (tg_name (i := 9) rfl rfl (by decide) (by decide)) tts_nil (tr_popAt (L0 := [1, 6]) (i := 6) rfl rfl (by decide) (by decide) (tr_callT (i := 1) F__law_draw (hr.mono (by decide)) rfl rfl rfl (by decide) (ta_wk (ta_cons (tr_len (L0 := []) rfl b_len (ta_cons (tr_var (i := 6) rfl rfl (by decide) (by decide)) ta_nil (by decide))) ta_nil (by decide))) (by decide) (by decide)) (by decide) (by decide)) (by decide) (by decide)) (by decide) (by decide) (by decide) (by decide))
  (sss_free (L := [1]) (sss_one (ss_if (W := [1]) (tt_W (tw_or (tt_wk (tt_cmp (L0 := []) (ho_ne hu) rs_ne (tr_callX F_turn_size (hr.mono (by decide)) rfl (ta_cons (tr_var (i := 3) rfl rfl (by decide) (by decide)) ta_nil (by decide)) (by decide)) (tr_var (i := 4) rfl rfl (by decide) (by decide)) (by decide) rfl)) (tw_or1 (tt_not (tt_tru (L := [1]) (tr_callT (i := 1) F__law_led (hr.mono (by decide)) rfl rfl rfl (by decide) (ta_wk (ta_cons (tr_var (i := 3) rfl rfl (by decide) (by decide)) (ta_cons (tr_var (i := 5) rfl rfl (by decide) (by decide)) (ta_cons (tr_var (i := 7) rfl rfl (by decide) (by decide)) ta_nil (by decide)) (by decide)) (by decide))) (by decide) (by decide))))))) (sss_free (L := []) (sss_one (ss_ret (W := []) tr_bl (by decide))) (by decide) (by decide))
  sss_nil (by decide))) (by decide) (by decide)))))) (by decide)) (by decide) (by decide))
  (sss_free (L := []) (sss_cons (O1 := []) (ss_for (W := []) (vs := [3]) (ti_F (tf_disp (ta_cons tr_str (ta_cons tr_str (ta_cons tr_str (ta_cons tr_str (ta_cons tr_str (ta_cons tr_str (ta_cons tr_str ta_nil (by decide)) (by decide)) (by decide)) (by decide)) (by decide)) (by decide)) (by decide)) (by decide))) (tg_name (i := 3) rfl rfl (by decide) (by decide)) (sss_forget [3] (sss_one (ss_if (W := []) (tt_not (tt_tru (L := []) (tr_call F__law_refused (hr.mono (by decide)) rfl (ta_cons (tr_var (i := 3) rfl rfl (by decide) (by decide)) ta_nil (by decide)) (by decide)))) (sss_one (ss_ret (W := []) tr_bl (by decide)))
  sss_nil (by decide))) (by decide)) (by decide) (by decide))
  (sss_cons (O1 := []) (ss_for (W := []) (vs := [8]) (ti_F (tf_disp (ta_cons tr_int (ta_cons (tr_neg (L0 := []) tr_int) (ta_cons (tr_opS (L0 := []) ho_pow rs_pow tr_int tr_int (by decide)) ta_nil (by decide)) (by decide)) (by decide)) (by decide))) (tg_name (i := 8) rfl rfl (by decide) (by decide)) (sss_forget [8] (sss_one (ss_if (W := []) (tt_cmp (L0 := []) ho_notB rs_notB (tr_call F_is_whole (hr.mono (by decide)) rfl (ta_cons (tr_var (i := 8) rfl rfl (by decide) (by decide)) ta_nil (by decide)) (by decide)) tr_bl (by decide) rfl) (sss_one (ss_ret (W := []) tr_bl (by decide)))
  sss_nil (by decide))) (by decide)) (by decide) (by decide))
  (sss_cons (O1 := []) (ss_for (W := []) (vs := [8]) (ti_F (tf_disp (ta_cons tr_bl (ta_cons tr_bl (ta_cons tr_non (ta_cons tr_str (ta_cons (tr_F (by decide) (tf_disp (ta_cons tr_int ta_nil (by decide)) (by decide))) (ta_cons (tr_tup (ta_cons tr_int ta_nil (by decide)) (by decide)) ta_nil (by decide)) (by decide)) (by decide)) (by decide)) (by decide)) (by decide)) (by decide))) (tg_name (i := 8) rfl rfl (by decide) (by decide)) (sss_forget [8] (sss_one (ss_if (W := []) (tt_cmp (L0 := []) ho_notB rs_notB (tr_call F_is_whole (hr.mono (by decide)) rfl (ta_cons (tr_var (i := 8) rfl rfl (by decide) (by decide)) ta_nil (by decide)) (by decide)) tr_bl (by decide) rfl) (sss_one (ss_ret (W := []) tr_bl (by decide)))
  sss_nil (by decide))) (by decide)) (by decide) (by decide))
  (sss_one (ss_ret (W := []) (tr_and (L0 := []) (tr_cmp (L0 := []) (ho_eq hu) rs_eq (tr_call F_turned (hr.mono (by decide)) rfl (ta_cons tr_str (ta_cons (tr_F (by decide) (tf_disp (ta_cons tr_int (ta_cons tr_int ta_nil (by decide)) (by decide)) (by decide))) (ta_cons (tr_tup (ta_cons tr_str (ta_cons tr_int ta_nil (by decide)) (by decide)) (by decide)) ta_nil (by decide)) (by decide)) (by decide)) (by decide)) (tr_tup (ta_cons tr_str (ta_cons tr_int ta_nil (by decide)) (by decide)) (by decide)) (by decide) rfl) (tr_and (L0 := []) (tr_cmp (L0 := []) (ho_eq hu) rs_eq (tr_call F_letter_product (hr.mono (by decide)) rfl (ta_cons tr_str (ta_cons tr_str ta_nil (by decide)) (by decide)) (by decide)) (tr_tup (ta_cons tr_int (ta_cons tr_str ta_nil (by decide)) (by decide)) (by decide)) (by decide) rfl) (tr_one (tr_cmp (L0 := []) (ho_eq hu) rs_eq (tr_F (by decide) (tf_lc [("x", 10)] (ti_F (tf_disp (ta_cons tr_str (ta_cons tr_str (ta_cons tr_str (ta_cons tr_str ta_nil (by decide)) (by decide)) (by decide)) (by decide)) (by decide))) rfl (tg_name (i := 10) rfl rfl (by decide) (by decide)) tts_nil (tr_call F_back_turn (hr.mono (by decide)) rfl (ta_cons (tr_var (i := 10) rfl rfl (by decide) (by decide)) ta_nil (by decide)) (by decide)) (by decide) (by decide) (by decide))) (tr_F (by decide) (tf_disp (ta_cons tr_str (ta_cons tr_str (ta_cons tr_str (ta_cons tr_str ta_nil (by decide)) (by decide)) (by decide)) (by decide)) (by decide))) (by decide) rfl)))) (by decide)))))) (by decide) (by decide)))))
end
end
end Tk00
end Z


namespace Z
open PySem PySem.Spec PyProof.Rows L2
namespace Tk00
/-! ## bits of an index -/
def bt (n k j : Nat) : Nat := j / 2 ^ (n - 1 - k) % 2
def fl (n k j : Nat) : Nat := j + 2 ^ (n - 1 - k) - 2 * bt n k j * 2 ^ (n - 1 - k)
abbrev nI (k : Nat) : D := .int (k : Int)
theorem fig_fin : ∀ n : Nat, n < 6 → ∀ k : Nat, k < n → ∀ j : Nat, j < 2 ^ n → Builtin.bitAnd ((j / 2 ^ (n - 1 - k) : Nat) : Int) 1 = (bt n k j : Int) ∧ Builtin.bitXor (j : Int) ((2 ^ (n - 1 - k) : Nat) : Int) = (fl n k j : Int) := by decide +kernel
theorem figure_spec {n k j : Nat} (h : n < 6) (hk : k < n) (hj : j < 2 ^ n) : m_figure [nI n, nI j, nI k] = some (nI (bt n k j)) := by
  have e := (fig_fin n h k hk j hj).1
  have e2 : (n : Int) - 1 - k = ((n - 1 - k : Nat) : Int) := by omega
  simp only [m_figure, fnP, mb_figure, startM, nI]
  simp [outP, e2, -Int.natCast_ediv, -Int.natCast_pow, e]
theorem flipped_spec {n k j : Nat} (h : n < 6) (hk : k < n) (hj : j < 2 ^ n) : m_flipped [nI n, nI j, nI k] = some (nI (fl n k j)) := by
  have e := (fig_fin n h k hk j hj).2
  have e2 : (n : Int) - 1 - k = ((n - 1 - k : Nat) : Int) := by omega
  have l : n - 1 - k ≤ 1000000 := by omega
  simp only [m_flipped, fnP, mb_flipped, startM, nI]
  simp [outP, e2, -Int.natCast_ediv, -Int.natCast_pow, e, l]
def lo (n k j : Nat) : Nat := j - bt n k j * 2 ^ (n - 1 - k)
def hi (n k j : Nat) : Nat := j - bt n k j * 2 ^ (n - 1 - k) + 2 ^ (n - 1 - k)
inductive S1 where | h | s | r | x | y | z
  deriving DecidableEq
inductive S2 where | cx | cz | sw
  deriving DecidableEq
inductive Tu where | one (k : S1) (p : Nat) | two (k : S2) (a b : Nat)
abbrev Row := List (Nat × Nat)
def G (n : Nat) (t : Tu) (i : Nat) : Row := match t with
  | .one .h p => [(lo n p i, 0), (hi n p i, 2 * bt n p i)]
  | .one .x p => [(fl n p i, 0)]
  | .one .y p => [(fl n p i, 1 + 2 * bt n p i)]
  | .one .z p => [(i, 2 * bt n p i)]
  | .one .s p => [(i, bt n p i)]
  | .one .r p => [(i, 3 * bt n p i)]
  | .two .cx a b => [(if bt n a i = 0 then i else fl n b i, 0)]
  | .two .cz a b => [(i, 2 * bt n a i * bt n b i)]
  | .two .sw a b => [(if bt n a i = bt n b i then i else fl n b (fl n a i), 0)]
def Rw (n : Nat) (t : Tu) (j : Nat) : Row := match t with
  | .one .h p => [(lo n p j, 0), (hi n p j, 2 * bt n p j)]
  | .one .x p => [(fl n p j, 0)]
  | .one .y p => [(fl n p j, 3 - 2 * bt n p j)]
  | .one .z p => [(j, 2 * bt n p j)]
  | .one .s p => [(j, bt n p j)]
  | .one .r p => [(j, 3 * bt n p j)]
  | .two .cx a b => [(if bt n a j = 0 then j else fl n b j, 0)]
  | .two .cz a b => [(j, 2 * bt n a j * bt n b j)]
  | .two .sw a b => [(if bt n a j = bt n b j then j else fl n b (fl n a j), 0)]
def okT (n : Nat) : Tu → Prop
  | .one _ p => p < n
  | .two _ a b => a < n ∧ b < n ∧ a ≠ b
abbrev C := Int × Int
def ti (k : Nat) (z : C) : C := match k with
  | 0 => z
  | 1 => (-z.2, z.1)
  | 2 => (-z.1, -z.2)
  | _ => (z.2, -z.1)
def ad (x y : C) : C := (x.1 + y.1, x.2 + y.2)
def ev (f : Nat → C) : Row → C
  | [] => (0, 0)
  | x :: r => ad (ti x.2 (f x.1)) (ev f r)
def T (n : Nat) (t : Tu) (f : Nat → C) : Nat → C := fun j => ev f (Rw n t j)
/-! ## facts on bits -/
theorem f1_fin : ∀ n, n < 6 → ∀ k, k < n → ∀ j, j < 2 ^ n → fl n k j < 2 ^ n ∧ bt n k j < 2 ∧ fl n k (fl n k j) = j ∧ bt n k (fl n k j) = 1 - bt n k j ∧ lo n k j = (if bt n k j = 0 then j else fl n k j) ∧ hi n k j = (if bt n k j = 0 then fl n k j else j) ∧ (if bt n k j = 0 then j < fl n k j else fl n k j < j) := by decide +kernel
theorem f2_fin : ∀ n, n < 6 → ∀ k, k < n → ∀ p, p < n → k = p ∨ ∀ j, j < 2 ^ n → bt n p (fl n k j) = bt n p j ∧ fl n p (fl n k j) = fl n k (fl n p j) := by decide +kernel
theorem f2 {n k p j : Nat} (h : n < 6) (hk : k < n) (hp : p < n) (e : k ≠ p) (hj : j < 2 ^ n) : bt n p (fl n k j) = bt n p j ∧ fl n p (fl n k j) = fl n k (fl n p j) := by
  rcases f2_fin n h k hk p hp with q | q
  · exact absurd q e
  · exact q j hj
/-- what stands at one place: the figure is 0 or 1 -/
theorem f1 {n k j : Nat} (h : n < 6) (hk : k < n) (hj : j < 2 ^ n) : fl n k j < 2 ^ n ∧ fl n k (fl n k j) = j ∧ ((bt n k j = 0 ∧ bt n k (fl n k j) = 1 ∧ lo n k j = j ∧ hi n k j = fl n k j ∧ lo n k (fl n k j) = j ∧ hi n k (fl n k j) = fl n k j ∧ j ≠ fl n k j) ∨ (bt n k j = 1 ∧ bt n k (fl n k j) = 0 ∧ lo n k j = fl n k j ∧ hi n k j = j ∧ lo n k (fl n k j) = fl n k j ∧ hi n k (fl n k j) = j ∧ j ≠ fl n k j)) := by
  obtain ⟨a1, a2, a3, a4, a5, a6, a7⟩ := f1_fin n h k hk j hj
  obtain ⟨b1, b2, b3, b4, b5, b6, b7⟩ := f1_fin n h k hk _ a1
  refine ⟨a1, a3, ?_⟩
  have : bt n k j = 0 ∨ bt n k j = 1 := by omega
  rcases this with e | e
  · rw [e] at a4 a5 a6 a7
    rw [a4, a3] at b5 b6
    exact .inl ⟨e, a4, a5, a6, b5, b6, by simp at a7; omega⟩
  · rw [e] at a4 a5 a6 a7
    rw [a4, a3] at b5 b6
    exact .inr ⟨e, a4, a5, a6, b5, b6, by simp at a7; omega⟩
theorem f1b {n k j : Nat} (h : n < 6) (hk : k < n) (hj : j < 2 ^ n) : bt n k (fl n k j) = 1 - bt n k j ∧ (bt n k j = 0 ∨ bt n k j = 1) := by
  obtain ⟨a1, a2, a3⟩ := f1 h hk hj
  omega
theorem sw_inv {n a b j : Nat} (h : n < 6) (ha : a < n) (hb : b < n) (hab : a ≠ b) (hj : j < 2 ^ n) : (if bt n a (if bt n a j = bt n b j then j else fl n b (fl n a j)) = bt n b (if bt n a j = bt n b j then j else fl n b (fl n a j)) then (if bt n a j = bt n b j then j else fl n b (fl n a j)) else fl n b (fl n a (if bt n a j = bt n b j then j else fl n b (fl n a j)))) = j := by
  obtain ⟨a1, a2, a3⟩ := f1 h ha hj
  obtain ⟨b1, b2, b3⟩ := f1 h hb hj
  by_cases e : bt n a j = bt n b j
  · simp [e]
  · have z1 := (f2 h hb ha (Ne.symm hab) a1).1
    have z2 := (f1b h hb a1).1
    have z3 := (f2 h ha hb hab hj).1
    have z4 := (f2 h ha hb hab b1).2
    have z5 := (f2 h ha hb hab hj).2
    have w1 := (f1b h ha hj)
    have w2 := (f1b h hb hj)
    have z6 : ¬ bt n a (fl n b (fl n a j)) = bt n b (fl n b (fl n a j)) := by omega
    have z7 : fl n a (fl n b (fl n a j)) = fl n b j := by rw [z5, (f1 h ha b1).2.1]
    simp [e, z6, z7, b2]
/-! ## rows and goals -/
theorem one_RG (σ : Nat → Nat) {q q' : Nat → Nat} {i j : Nat} (h1 : σ (σ j) = j) (h2 : σ (σ i) = i) {r g : Row} (e1 : r = [(σ j, q' j)]) (e2 : g = [(σ i, q i)]) (e3 : σ j = i → q' j = q i) : r.filter (fun x => x.1 == i) = (g.filter fun x => x.1 == j).map fun x => (i, x.2) := by
  subst e1 e2
  by_cases e : σ j = i
  · have := e3 e
    subst e
    simp [h1, this]
  · have e' : ¬ σ i = j := fun e4 => e (by rw [← e4, h2])
    simp [e, e']
theorem RG {n : Nat} (h : n < 6) {t : Tu} (ht : okT n t) {i j : Nat} (hi : i < 2 ^ n) (hj : j < 2 ^ n) : (Rw n t j).filter (fun x => x.1 == i) = ((G n t i).filter fun x => x.1 == j).map fun x => (i, x.2) := by
  match t, ht with
  | .one k p, ht =>
    obtain ⟨a1, a2, a3⟩ := f1 h ht hj
    obtain ⟨b1, b2, b3⟩ := f1 h ht hi
    by_cases e : i = j
    · subst e
      rcases a3 with ⟨a3, a4, a5, a6, a7, a8, a9⟩ | ⟨a3, a4, a5, a6, a7, a8, a9⟩ <;> cases k <;> simp [Rw, G, a1, a2, a3, a4, a5, a6, a7, a8, a9, Ne.symm a9]
    · by_cases e2 : i = fl n p j
      · subst e2
        rcases a3 with ⟨a3, a4, a5, a6, a7, a8, a9⟩ | ⟨a3, a4, a5, a6, a7, a8, a9⟩ <;> cases k <;> simp [Rw, G, a1, a2, a3, a4, a5, a6, a7, a8, a9, Ne.symm a9]
      · have e3 : j ≠ fl n p i := fun e4 => e2 (by rw [e4, b2])
        rcases a3 with ⟨a3, a4, a5, a6, a7, a8, a9⟩ | ⟨a3, a4, a5, a6, a7, a8, a9⟩ <;> rcases b3 with ⟨b3, b4, b5, b6, b7, b8, b9⟩ | ⟨b3, b4, b5, b6, b7, b8, b9⟩ <;> cases k <;> simp [Rw, G, a3, a5, a6, b3, b5, b6, e, e2, e3, Ne.symm e, Ne.symm e2, Ne.symm e3]
  | .two k a b, ht =>
    obtain ⟨ha, hb, hab⟩ := ht
    obtain ⟨a1, a2, a3⟩ := f1 h ha hj
    obtain ⟨b1, b2, b3⟩ := f1 h hb hj
    obtain ⟨c1, c2, c3⟩ := f1 h ha hi
    obtain ⟨d1, d2, d3⟩ := f1 h hb hi
    obtain ⟨x1, x2⟩ := f2 h ha hb hab hj
    obtain ⟨x3, x4⟩ := f2 h hb ha (Ne.symm hab) hj
    obtain ⟨y1, y2⟩ := f2 h ha hb hab hi
    obtain ⟨y3, y4⟩ := f2 h hb ha (Ne.symm hab) hi
    cases k with
    | cx =>
      refine one_RG (fun j => if bt n a j = 0 then j else fl n b j) (q := fun _ => 0) (q' := fun _ => 0) ?_ ?_ rfl rfl (fun _ => rfl)
      · show (if bt n a (if bt n a j = 0 then j else fl n b j) = 0 then _ else _) = _
        by_cases e : bt n a j = 0 <;> simp [e, x3, b2]
      · show (if bt n a (if bt n a i = 0 then i else fl n b i) = 0 then _ else _) = _
        by_cases e : bt n a i = 0 <;> simp [e, y3, d2]
    | cz =>
      refine one_RG (fun j => j) (q' := fun j => 2 * bt n a j * bt n b j) (q := fun j => 2 * bt n a j * bt n b j) rfl rfl rfl rfl (fun e => by rw [show j = i from e])
    | sw =>
      exact one_RG (fun j => if bt n a j = bt n b j then j else fl n b (fl n a j)) (q := fun _ => 0) (q' := fun _ => 0) (sw_inv h ha hb hab hj) (sw_inv h ha hb hab hi) rfl rfl fun _ => rfl
theorem Rw_bd {n : Nat} (h : n < 6) {t : Tu} (ht : okT n t) {j : Nat} (hj : j < 2 ^ n) : ∀ x ∈ Rw n t j, x.1 < 2 ^ n ∧ x.2 < 4 := by
  match t, ht with
  | .one k p, ht =>
    obtain ⟨a1, a2, a3⟩ := f1 h ht hj
    rcases a3 with ⟨a3, a4, a5, a6, a7, a8, a9⟩ | ⟨a3, a4, a5, a6, a7, a8, a9⟩ <;> cases k <;> simp [Rw, a1, a3, a5, a6, hj]
  | .two k a b, ht =>
    obtain ⟨ha, hb, hab⟩ := ht
    obtain ⟨a1, a2⟩ := f1b h ha hj
    obtain ⟨b1, b2⟩ := f1b h hb hj
    have c1 := (f1 h ha hj).1
    have c2 := (f1 h hb hj).1
    have c3 := (f1 h hb c1).1
    rcases a2 with a2 | a2 <;> rcases b2 with b2 | b2 <;> cases k <;> simp [Rw, a2, b2, c1, c2, c3, hj]
theorem G_bd {n : Nat} (h : n < 6) {t : Tu} (ht : okT n t) {j : Nat} (hj : j < 2 ^ n) : ∀ x ∈ G n t j, x.1 < 2 ^ n ∧ x.2 < 4 := by
  match t, ht with
  | .one k p, ht =>
    obtain ⟨a1, a2, a3⟩ := f1 h ht hj
    rcases a3 with ⟨a3, a4, a5, a6, a7, a8, a9⟩ | ⟨a3, a4, a5, a6, a7, a8, a9⟩ <;> cases k <;> simp [G, a1, a3, a5, a6, hj]
  | .two k a b, ht =>
    obtain ⟨ha, hb, hab⟩ := ht
    obtain ⟨a1, a2⟩ := f1b h ha hj
    obtain ⟨b1, b2⟩ := f1b h hb hj
    have c1 := (f1 h ha hj).1
    have c2 := (f1 h hb hj).1
    have c3 := (f1 h hb c1).1
    rcases a2 with a2 | a2 <;> rcases b2 with b2 | b2 <;> cases k <;> simp [G, a2, b2, c1, c2, c3, hj]
/-! ## adding up -/
@[simp] theorem ad_0 (x : C) : ad x (0, 0) = x := by simp [ad]
@[simp] theorem ad_0l (x : C) : ad (0, 0) x = x := by simp [ad]
theorem ad_as (x y z : C) : ad (ad x y) z = ad x (ad y z) := by simp [ad, Int.add_assoc]
theorem ad_cm (x y : C) : ad x y = ad y x := by simp [ad, Int.add_comm]
theorem ad_lc (x y z : C) : ad x (ad y z) = ad y (ad x z) := by rw [← ad_as, ad_cm x y, ad_as]
def upd (g : Nat → C) (q : Nat) (v : C) : Nat → C := fun j => if j = q then ad (g j) v else g j
def adds (z : C) (g : Nat → C) (r : Row) : Nat → C := r.foldl (fun g x => upd g x.1 (ti x.2 z)) g
def sv (z : C) : Row → C
  | [] => (0, 0)
  | x :: r => ad (ti x.2 z) (sv z r)
theorem adds_at (z : C) (j : Nat) : ∀ (r : Row) (g : Nat → C), adds z g r j = ad (g j) (sv z (r.filter fun x => x.1 == j))
  | [], g => by simp [adds, sv]
  | x :: r, g => by
    show adds z (upd g x.1 (ti x.2 z)) r j = _
    rw [adds_at z j r, List.filter_cons]
    by_cases e : x.1 = j
    · subst e
      simp [upd, sv, ad_as]
    · have e' : ¬ j = x.1 := fun h => e h.symm
      simp [upd, e, e']
theorem ev_split (f : Nat → C) (m : Nat) : ∀ r : Row, ev f (r.filter fun x => decide (x.1 < m + 1)) = ad (ev f (r.filter fun x => decide (x.1 < m))) (sv (f m) (r.filter fun x => x.1 == m))
  | [] => by simp [ev, sv]
  | x :: r => by
    have ih := ev_split f m r
    simp only [List.filter_cons]
    by_cases e : x.1 = m
    · have e1 : x.1 < m + 1 := by omega
      have e2 : ¬ x.1 < m := by omega
      subst e
      simp only [decide_true, Nat.lt_succ_self, Nat.lt_irrefl, decide_false, beq_self_eq_true, if_true, ev, sv, ih, Bool.false_eq_true, if_false]
      rw [ad_lc]
    · by_cases e2 : x.1 < m
      · have e1 : x.1 < m + 1 := by omega
        simp [e, e2, e1, ev, ih, ad_as]
      · have e1 : ¬ x.1 < m + 1 := by omega
        simp [e, e2, e1, ih]
theorem sv_map (z : C) (i : Nat) : ∀ r : Row, sv z (r.map fun x => (i, x.2)) = sv z r
  | [] => rfl
  | x :: r => by simp [sv, sv_map z i r]
def part (n : Nat) (t : Tu) (f : Nat → C) (m : Nat) : Nat → C := (List.range m).foldl (fun g i => adds (f i) g (G n t i)) fun _ => (0, 0)
theorem part_at {n : Nat} (h : n < 6) {t : Tu} (ht : okT n t) (f : Nat → C) {j : Nat} (hj : j < 2 ^ n) : ∀ m, m ≤ 2 ^ n → part n t f m j = ev f ((Rw n t j).filter fun x => decide (x.1 < m))
  | 0, _ => by
    have : (Rw n t j).filter (fun x => decide (x.1 < 0)) = [] := List.filter_eq_nil_iff.mpr fun x _ => by simp
    rw [this]; rfl
  | m + 1, hm => by
    have ih := part_at h ht f hj m (by omega)
    unfold part at ih ⊢
    rw [List.range_succ, List.foldl_append, List.foldl_cons, List.foldl_nil, adds_at, ih, ev_split, RG h ht (by omega) hj, sv_map]
theorem part_T {n : Nat} (h : n < 6) {t : Tu} (ht : okT n t) (f : Nat → C) {j : Nat} (hj : j < 2 ^ n) : part n t f (2 ^ n) j = T n t f j := by
  rw [part_at h ht f hj _ (Nat.le_refl _), List.filter_eq_self.mpr fun x hx => decide_eq_true (Rw_bd h ht hj x hx).1]
  rfl
/-! ## what the law asks, on functions -/
abbrev Eq2 (n : Nat) (f g : Nat → C) : Prop := ∀ j, j < 2 ^ n → f j = g j
theorem ev_cg {f g : Nat → C} : ∀ {r : Row}, (∀ x ∈ r, f x.1 = g x.1) → ev f r = ev g r
  | [], _ => rfl
  | x :: r, h => by
    rw [ev, ev, h x List.mem_cons_self, ev_cg fun y hy => h y (List.mem_cons_of_mem _ hy)]
theorem T_cg {n : Nat} (h : n < 6) {t : Tu} (ht : okT n t) {f g : Nat → C} (e : Eq2 n f g) : Eq2 n (T n t f) (T n t g) := fun j hj => ev_cg fun x hx => e _ (Rw_bd h ht hj x hx).1
theorem f3 {n a b j : Nat} (h : n < 6) (ha : a < n) (hb : b < n) (hab : a ≠ b) (hj : j < 2 ^ n) : (bt n a j = 0 ∨ bt n a j = 1) ∧ (bt n b j = 0 ∨ bt n b j = 1) ∧ fl n a (fl n a j) = j ∧ fl n b (fl n b j) = j ∧ bt n a (fl n b j) = bt n a j ∧ bt n b (fl n a j) = bt n b j ∧ bt n a (fl n a j) = 1 - bt n a j ∧ bt n b (fl n b j) = 1 - bt n b j ∧ bt n a (fl n b (fl n a j)) = 1 - bt n a j ∧ bt n b (fl n b (fl n a j)) = 1 - bt n b j ∧ fl n a (fl n b (fl n a j)) = fl n b j ∧ fl n a (fl n b j) = fl n b (fl n a j) ∧ fl n a j < 2 ^ n ∧ fl n b j < 2 ^ n := by
  obtain ⟨a1, a2, a3⟩ := f1 h ha hj
  obtain ⟨b1, b2, b3⟩ := f1 h hb hj
  have z1 := (f2 h hb ha (Ne.symm hab) a1).1
  have z2 := (f1b h hb a1).1
  have z3 := (f2 h ha hb hab hj).1
  have z5 := (f2 h ha hb hab hj).2
  have z6 := (f2 h hb ha (Ne.symm hab) hj).1
  have w1 := f1b h ha hj
  have w2 := f1b h hb hj
  have z7 : fl n a (fl n b (fl n a j)) = fl n b j := by rw [z5, (f1 h ha b1).2.1]
  refine ⟨w1.2, w2.2, a2, b2, z6, z3, w1.1, w2.1, by rw [z1, w1.1], by rw [z2, z3], z7, z5.symm, a1, b1⟩
def bk : Tu → Tu
  | .one .s p => .one .r p
  | .one .r p => .one .s p
  | t => t
def tw : Tu → Int
  | .one .h _ => 2
  | _ => 1
def sc (k : Int) (z : C) : C := (k * z.1, k * z.2)
theorem back_T {n : Nat} (h : n < 6) {t : Tu} (ht : okT n t) (f : Nat → C) : Eq2 n (T n (bk t) (T n t f)) fun j => sc (tw t) (f j) := fun j hj => by
  match t, ht with
  | .one k p, ht =>
    obtain ⟨a1, a2, a3⟩ := f1 h ht hj
    rcases a3 with ⟨a3, a4, a5, a6, a7, a8, a9⟩ | ⟨a3, a4, a5, a6, a7, a8, a9⟩ <;> cases k <;> simp [T, Rw, bk, tw, sc, ev, ti, a1, a2, a3, a4, a5, a6, a7, a8] <;> simp [ad] <;> (try constructor) <;> omega
  | .two k a b, ht =>
    obtain ⟨ha, hb, hab⟩ := ht
    obtain ⟨h1, h2, h3, h4, h5, h6, h7, h8, h9, h10, h11, h12, h13, h14⟩ := f3 h ha hb hab hj
    rcases h1 with h1 | h1 <;> rcases h2 with h2 | h2 <;> cases k <;> simp [T, Rw, bk, tw, sc, ev, ti, h1, h2, h3, h4, h5, h6, h7, h8, h9, h10, h11, h12, h13, h14]
/-! ## size -/
def sq (z : C) : Int := z.1 * z.1 + z.2 * z.2
def sz (n : Nat) (f : Nat → C) : Int := ((List.range (2 ^ n)).map fun j => sq (f j)).sum
theorem sq_ti (k : Nat) (z : C) : sq (ti k z) = sq z := by
  unfold ti sq
  split <;> simp only [Int.neg_mul_neg] <;> omega
theorem perm_sum {a b : List Int} (p : a.Perm b) : a.sum = b.sum := by
  induction p with
  | nil => rfl
  | cons x _ ih => simp only [List.sum_cons, ih]
  | swap x y l => simp only [List.sum_cons]; omega
  | trans _ _ h1 h2 => exact h1.trans h2
theorem sum_perm {n : Nat} {σ : Nat → Nat} (h1 : ∀ j, j < 2 ^ n → σ j < 2 ^ n) (h2 : ∀ j, j < 2 ^ n → σ (σ j) = j) (g : Nat → Int) : ((List.range (2 ^ n)).map fun j => g (σ j)).sum = ((List.range (2 ^ n)).map g).sum := by
  have p : ((List.range (2 ^ n)).map σ).Perm (List.range (2 ^ n)) := by
    refine (List.perm_ext_iff_of_nodup ?_ List.nodup_range).mpr fun x => ?_
    · refine List.pairwise_map.mpr (List.Pairwise.imp_of_mem ?_ (List.nodup_range (n := 2 ^ n)))
      intro a b ha hb e q
      refine e ?_
      rw [← h2 a (List.mem_range.mp ha), ← h2 b (List.mem_range.mp hb), q]
    · rw [List.mem_map, List.mem_range]
      constructor
      · rintro ⟨a, ha, rfl⟩
        exact h1 a (List.mem_range.mp ha)
      · intro hx
        exact ⟨σ x, List.mem_range.mpr (h1 x hx), h2 x hx⟩
  have := perm_sum (p.map g)
  rw [List.map_map] at this
  exact this
theorem sum_cg {N : Nat} {g g' : Nat → Int} (h : ∀ j, j < N → g j = g' j) : ((List.range N).map g).sum = ((List.range N).map g').sum := by
  rw [List.map_congr_left fun x hx => h x (List.mem_range.mp hx)]
theorem sum_add (g g' : Nat → Int) : ∀ xs : List Nat, (xs.map fun j => g j + g' j).sum = (xs.map g).sum + (xs.map g').sum
  | [] => rfl
  | x :: r => by
    simp only [List.map_cons, List.sum_cons, sum_add g g' r]; omega
theorem sum_two (g : Nat → Int) : ∀ xs : List Nat, (xs.map fun j => 2 * g j).sum = 2 * (xs.map g).sum
  | [] => rfl
  | x :: r => by
    simp only [List.map_cons, List.sum_cons, sum_two g r]; omega
theorem size_one {n : Nat} {t : Tu} (σ q : Nat → Nat) (e : ∀ j, Rw n t j = [(σ j, q j)]) (h1 : ∀ j, j < 2 ^ n → σ j < 2 ^ n) (h2 : ∀ j, j < 2 ^ n → σ (σ j) = j) (f : Nat → C) : sz n (T n t f) = sz n f := by
  unfold sz
  rw [← sum_perm h1 h2 fun j => sq (f j)]
  refine sum_cg fun j hj => ?_
  unfold T
  rw [e j]
  simp only [ev, ad_0, sq_ti]
theorem size_h {n : Nat} (h : n < 6) {p : Nat} (hp : p < n) (f : Nat → C) : sz n (T n (.one .h p) f) = 2 * sz n f := by
  have k1 : 2 * sz n (T n (.one .h p) f) = ((List.range (2 ^ n)).map fun j => sq (T n (.one .h p) f j) + sq (T n (.one .h p) f (fl n p j))).sum := by
    rw [sum_add, sum_perm (σ := fl n p) (fun j hj => (f1 h hp hj).1) (fun j hj => (f1 h hp hj).2.1) fun j => sq (T n (.one .h p) f j)]
    unfold sz; omega
  have k2 : 2 * (2 * sz n f) = ((List.range (2 ^ n)).map fun j => 2 * sq (f j) + 2 * sq (f (fl n p j))).sum := by
    rw [sum_add, sum_two, sum_two, sum_perm (σ := fl n p) (fun j hj => (f1 h hp hj).1) (fun j hj => (f1 h hp hj).2.1) fun j => sq (f j)]
    unfold sz; omega
  have k3 := sum_cg (N := 2 ^ n) (g := fun j => sq (T n (.one .h p) f j) + sq (T n (.one .h p) f (fl n p j))) (g' := fun j => 2 * sq (f j) + 2 * sq (f (fl n p j))) fun j hj => by
    obtain ⟨a1, a2, a3⟩ := f1 h hp hj
    have par : ∀ x y : C, sq (ad x y) + sq (ad x (ti 2 y)) = 2 * sq x + 2 * sq y := fun x y => by
      simp only [sq, ad, ti]
      simp only [Int.add_mul, Int.mul_add, Int.mul_neg, Int.neg_mul, Int.neg_neg]
      have := Int.mul_comm x.1 y.1
      have := Int.mul_comm x.2 y.2
      omega
    rcases a3 with ⟨a3, a4, a5, a6, a7, a8, a9⟩ | ⟨a3, a4, a5, a6, a7, a8, a9⟩
    · simp only [T, Rw, ev, a1, a2, a3, a4, a5, a6, a7, a8, ad_0]
      exact par (f j) (f (fl n p j))
    · simp only [T, Rw, ev, a1, a2, a3, a4, a5, a6, a7, a8, ad_0]
      have := par (f (fl n p j)) (f j)
      simp only [ti] at this ⊢
      omega
  have := k1.trans (k3.trans k2.symm)
  omega
theorem size_T {n : Nat} (h : n < 6) {t : Tu} (ht : okT n t) (f : Nat → C) : sz n (T n t f) = tw t * sz n f := by
  have e1 : ∀ x : Int, 1 * x = x := Int.one_mul
  match t, ht with
  | .one k p, ht =>
    cases k with
    | h => exact size_h h ht f
    | x => exact (size_one (fl n p) (fun _ => 0) (fun _ => rfl) (fun j hj => (f1 h ht hj).1) (fun j hj => (f1 h ht hj).2.1) f).trans (e1 _).symm
    | y => exact (size_one (fl n p) _ (fun _ => rfl) (fun j hj => (f1 h ht hj).1) (fun j hj => (f1 h ht hj).2.1) f).trans (e1 _).symm
    | z => exact (size_one (fun j => j) _ (fun _ => rfl) (fun j hj => hj) (fun j hj => rfl) f).trans (e1 _).symm
    | s => exact (size_one (fun j => j) _ (fun _ => rfl) (fun j hj => hj) (fun j hj => rfl) f).trans (e1 _).symm
    | r => exact (size_one (fun j => j) _ (fun _ => rfl) (fun j hj => hj) (fun j hj => rfl) f).trans (e1 _).symm
  | .two k a b, ht =>
    obtain ⟨ha, hb, hab⟩ := id ht
    cases k with
    | cx =>
      refine (size_one (fun j => if bt n a j = 0 then j else fl n b j) _ (fun _ => rfl) (fun j hj => (Rw_bd h ht hj _ List.mem_cons_self).1) (fun j hj => ?_) f).trans (e1 _).symm
      obtain ⟨h1, h2, h3, h4, h5, h6, h7, h8, h9, h10, h11, h12, h13, h14⟩ := f3 h ha hb hab hj
      rcases h1 with h1 | h1 <;> simp [h1, h5, h4]
    | cz => exact (size_one (fun j => j) _ (fun _ => rfl) (fun j hj => hj) (fun j hj => rfl) f).trans (e1 _).symm
    | sw => exact (size_one (fun j => if bt n a j = bt n b j then j else fl n b (fl n a j)) _ (fun _ => rfl) (fun j hj => (Rw_bd h ht hj _ List.mem_cons_self).1) (fun j hj => sw_inv h ha hb hab hj) f).trans (e1 _).symm
/-! ## letters -/
inductive L4 where | I | X | Y | Z
  deriving DecidableEq, Inhabited
def lt (n : Nat) (c : L4) (k : Nat) (f : Nat → C) : Nat → C := match c with
  | .I => f
  | .X => T n (.one .x k) f
  | .Y => T n (.one .y k) f
  | .Z => T n (.one .z k) f
def sg (s : Nat) (f : Nat → C) : Nat → C := if s = 0 then f else fun j => (-(f j).1, -(f j).2)
theorem lt_cg {n : Nat} (h : n < 6) (c : L4) {k : Nat} (hk : k < n) {f g : Nat → C} (e : Eq2 n f g) : Eq2 n (lt n c k f) (lt n c k g) := by
  cases c with
  | I => exact e
  | X => exact T_cg h (t := .one .x k) hk e
  | Y => exact T_cg h (t := .one .y k) hk e
  | Z => exact T_cg h (t := .one .z k) hk e
theorem ti_neg (k : Nat) (x y : Int) : ti k (-x, -y) = (-(ti k (x, y)).1, -(ti k (x, y)).2) := by
  unfold ti
  split <;> simp
theorem ad_neg (x y : C) : ad (-x.1, -x.2) (-y.1, -y.2) = (-(ad x y).1, -(ad x y).2) := by
  simp only [ad, Int.neg_add]
theorem ev_neg (f : Nat → C) : ∀ r : Row, ev (fun j => (-(f j).1, -(f j).2)) r = (-(ev f r).1, -(ev f r).2)
  | [] => rfl
  | x :: r => by
    simp only [ev, ti_neg, ev_neg f r, ad_neg]
theorem T_sg (n : Nat) (t : Tu) (s : Nat) (f : Nat → C) : T n t (sg s f) = sg s (T n t f) := by
  unfold sg
  split
  · rfl
  · funext j; exact ev_neg f _
theorem lt_sg (n : Nat) (c : L4) (k : Nat) (s : Nat) (f : Nat → C) : lt n c k (sg s f) = sg s (lt n c k f) := by
  cases c
  · rfl
  all_goals exact T_sg _ _ _ _
theorem sg_cg {n s : Nat} {f g : Nat → C} (e : Eq2 n f g) : Eq2 n (sg s f) (sg s g) := fun j hj => by
  unfold sg
  split
  · exact e j hj
  · show (-(f j).1, _) = (-(g j).1, _)
    rw [e j hj]
def off (t : Tu) (k : Nat) : Prop := match t with
  | .one _ p => k ≠ p
  | .two _ a b => k ≠ a ∧ k ≠ b
/-- a letter at a wire that the turn leaves -/
theorem lt_off {n : Nat} (h : n < 6) {t : Tu} (ht : okT n t) {k : Nat} (hk : k < n) (ho : off t k) (c : L4) (f : Nat → C) : Eq2 n (T n t (lt n c k f)) (lt n c k (T n t f)) := fun j hj => by
  match t, ht, ho with
  | .one d p, ht, ho =>
    obtain ⟨a1, a2, a3⟩ := f1 h ht hj
    obtain ⟨h1, h2, h3, h4, h5, h6, h7, h8, h9, h10, h11, h12, h13, h14⟩ := f3 h ht hk (Ne.symm ho) hj
    obtain ⟨b1, b2, b3⟩ := f1 h ht h14
    rw [h5, h12] at b3
    rcases a3 with ⟨a3, a4, a5, a6, a7, a8, a9⟩ | ⟨a3, a4, a5, a6, a7, a8, a9⟩ <;> rcases b3 with ⟨b3, b4, b5, b6, b7, b8, b9⟩ | ⟨b3, b4, b5, b6, b7, b8, b9⟩ <;> (try omega) <;> rcases h2 with h2 | h2 <;> cases d <;> cases c <;> simp [lt, T, Rw, ev, ti, a3, a5, a6, b5, b6, h2, h3, h4, h5, h6, h8, h12, a3] <;> simp [ad, Int.neg_add]
  | .two d a b, ht, ho =>
    obtain ⟨ha, hb, hab⟩ := ht
    obtain ⟨oa, ob⟩ := ho
    obtain ⟨h1, h2, h3, h4, h5, h6, h7, h8, h9, h10, h11, h12, h13, h14⟩ := f3 h ha hb hab hj
    obtain ⟨k1, k2, k3, k4, k5, k6, k7, k8, k9, k10, k11, k12, k13, k14⟩ := f3 h ha hk (Ne.symm oa) hj
    obtain ⟨l1, l2, l3, l4, l5, l6, l7, l8, l9, l10, l11, l12, l13, l14⟩ := f3 h hb hk (Ne.symm ob) hj
    obtain ⟨m1, m2, m3, m4, m5, m6, m7, m8, m9, m10, m11, m12, m13, m14⟩ := f3 h hb hk (Ne.symm ob) h13
    rcases h1 with h1 | h1 <;> rcases h2 with h2 | h2 <;> rcases k2 with k2 | k2 <;> cases d <;> cases c <;> simp [lt, T, Rw, ev, ti, h1, h2, k2, k5, k6, k12, l5, l6, l12, m5, m6, m12]
/-! ## letters at the turn's own wires -/
def t1 : S1 → L4 → L4 × Nat
  | .h, .I => (.I, 0)
  | .h, .X => (.Z, 0)
  | .h, .Y => (.Y, 1)
  | .h, .Z => (.X, 0)
  | .s, .I => (.I, 0)
  | .s, .X => (.Y, 0)
  | .s, .Y => (.X, 1)
  | .s, .Z => (.Z, 0)
  | .r, .I => (.I, 0)
  | .r, .X => (.Y, 1)
  | .r, .Y => (.X, 0)
  | .r, .Z => (.Z, 0)
  | .x, .I => (.I, 0)
  | .x, .X => (.X, 0)
  | .x, .Y => (.Y, 1)
  | .x, .Z => (.Z, 1)
  | .y, .I => (.I, 0)
  | .y, .X => (.X, 1)
  | .y, .Y => (.Y, 0)
  | .y, .Z => (.Z, 1)
  | .z, .I => (.I, 0)
  | .z, .X => (.X, 1)
  | .z, .Y => (.Y, 1)
  | .z, .Z => (.Z, 0)
def t2 : S2 → L4 → L4 → L4 × L4 × Nat
  | .cx, .I, .I => (.I, .I, 0)
  | .cx, .I, .X => (.I, .X, 0)
  | .cx, .I, .Y => (.Z, .Y, 0)
  | .cx, .I, .Z => (.Z, .Z, 0)
  | .cx, .X, .I => (.X, .X, 0)
  | .cx, .X, .X => (.X, .I, 0)
  | .cx, .X, .Y => (.Y, .Z, 0)
  | .cx, .X, .Z => (.Y, .Y, 1)
  | .cx, .Y, .I => (.Y, .X, 0)
  | .cx, .Y, .X => (.Y, .I, 0)
  | .cx, .Y, .Y => (.X, .Z, 1)
  | .cx, .Y, .Z => (.X, .Y, 0)
  | .cx, .Z, .I => (.Z, .I, 0)
  | .cx, .Z, .X => (.Z, .X, 0)
  | .cx, .Z, .Y => (.I, .Y, 0)
  | .cx, .Z, .Z => (.I, .Z, 0)
  | .cz, .I, .I => (.I, .I, 0)
  | .cz, .I, .X => (.Z, .X, 0)
  | .cz, .I, .Y => (.Z, .Y, 0)
  | .cz, .I, .Z => (.I, .Z, 0)
  | .cz, .X, .I => (.X, .Z, 0)
  | .cz, .X, .X => (.Y, .Y, 0)
  | .cz, .X, .Y => (.Y, .X, 1)
  | .cz, .X, .Z => (.X, .I, 0)
  | .cz, .Y, .I => (.Y, .Z, 0)
  | .cz, .Y, .X => (.X, .Y, 1)
  | .cz, .Y, .Y => (.X, .X, 0)
  | .cz, .Y, .Z => (.Y, .I, 0)
  | .cz, .Z, .I => (.Z, .I, 0)
  | .cz, .Z, .X => (.I, .X, 0)
  | .cz, .Z, .Y => (.I, .Y, 0)
  | .cz, .Z, .Z => (.Z, .Z, 0)
  | .sw, .I, .I => (.I, .I, 0)
  | .sw, .I, .X => (.X, .I, 0)
  | .sw, .I, .Y => (.Y, .I, 0)
  | .sw, .I, .Z => (.Z, .I, 0)
  | .sw, .X, .I => (.I, .X, 0)
  | .sw, .X, .X => (.X, .X, 0)
  | .sw, .X, .Y => (.Y, .X, 0)
  | .sw, .X, .Z => (.Z, .X, 0)
  | .sw, .Y, .I => (.I, .Y, 0)
  | .sw, .Y, .X => (.X, .Y, 0)
  | .sw, .Y, .Y => (.Y, .Y, 0)
  | .sw, .Y, .Z => (.Z, .Y, 0)
  | .sw, .Z, .I => (.I, .Z, 0)
  | .sw, .Z, .X => (.X, .Z, 0)
  | .sw, .Z, .Y => (.Y, .Z, 0)
  | .sw, .Z, .Z => (.Z, .Z, 0)
theorem lt_on1 {n : Nat} (h : n < 6) {p : Nat} (hp : p < n) (k : S1) (c : L4) (f : Nat → C) : Eq2 n (T n (.one k p) (lt n c p f)) (sg (t1 k c).2 (lt n (t1 k c).1 p (T n (.one k p) f))) := fun j hj => by
  obtain ⟨a1, a2, a3⟩ := f1 h hp hj
  rcases a3 with ⟨a3, a4, a5, a6, a7, a8, a9⟩ | ⟨a3, a4, a5, a6, a7, a8, a9⟩ <;> cases k <;> cases c <;> simp [t1, sg, lt, T, Rw, ev, ti, a1, a2, a3, a4, a5, a6, a7, a8] <;> simp [ad, Int.neg_add] <;> omega
theorem lt_on2 {n : Nat} (h : n < 6) {a b : Nat} (ha : a < n) (hb : b < n) (hab : a ≠ b) (k : S2) (c d : L4) (f : Nat → C) : Eq2 n (T n (.two k a b) (lt n c a (lt n d b f))) (sg (t2 k c d).2.2 (lt n (t2 k c d).1 a (lt n (t2 k c d).2.1 b (T n (.two k a b) f)))) := fun j hj => by
  obtain ⟨h1, h2, h3, h4, h5, h6, h7, h8, h9, h10, h11, h12, h13, h14⟩ := f3 h ha hb hab hj
  obtain ⟨-, -, m3, m4, m5, m6, m7, m8, m9, m10, m11, m12, -, m14⟩ := f3 h ha hb hab h14
  obtain ⟨-, -, l3, l4, l5, l6, l7, l8, l9, l10, l11, l12, -, -⟩ := f3 h ha hb hab h13
  rcases h1 with h1 | h1 <;> rcases h2 with h2 | h2 <;> cases k <;> cases c <;> cases d <;> simp [t2, sg, lt, T, Rw, ev, ti, h1, h2, h3, h4, h5, h6, h7, h8, h9, h10, h11, h12, m3, m5, m6, m7, m8, m9, m10, m11, m12, l4, l5, l6, l7, l8, l9, l10, l11, l12]
/-! ## words of letters -/
def lw (n : Nat) (w : Nat → L4) (f : Nat → C) : Nat → Nat → C
  | 0 => f
  | m + 1 => lt n (w m) m (lw n w f m)
def wset (w : Nat → L4) (p : Nat) (c : L4) : Nat → L4 := fun k => if k = p then c else w k
theorem Eq2.tr {n : Nat} {f g h : Nat → C} (a : Eq2 n f g) (b : Eq2 n g h) : Eq2 n f h := fun j hj => (a j hj).trans (b j hj)
theorem Eq2.sy {n : Nat} {f g : Nat → C} (a : Eq2 n f g) : Eq2 n g f := fun j hj => (a j hj).symm
theorem lw_cg {n : Nat} (h : n < 6) (w : Nat → L4) {f g : Nat → C} (e : Eq2 n f g) : ∀ m, m ≤ n → Eq2 n (lw n w f m) (lw n w g m)
  | 0, _ => e
  | m + 1, hm => lt_cg h (w m) (by omega) (lw_cg h w e m (by omega))
theorem word1 {n : Nat} (h : n < 6) {p : Nat} (hp : p < n) (k : S1) (w : Nat → L4) (f : Nat → C) : ∀ m, m ≤ n → Eq2 n (T n (.one k p) (lw n w f m)) (sg (if p < m then (t1 k (w p)).2 else 0) (lw n (wset w p (t1 k (w p)).1) (T n (.one k p) f) m))
  | 0, _ => by
    simp only [Nat.not_lt_zero, if_false]
    exact fun j hj => rfl
  | m + 1, hm => by
    have ih := word1 h hp k w f m (by omega)
    show Eq2 n (T n (.one k p) (lt n (w m) m (lw n w f m))) (sg _ (lt n (wset w p _ m) m (lw n (wset w p (t1 k (w p)).1) (T n (.one k p) f) m)))
    by_cases e : m = p
    · subst e
      have e1 := lt_on1 h hp k (w m) (lw n w f m)
      have e2 := sg_cg (s := (t1 k (w m)).2) (lt_cg h (t1 k (w m)).1 hp ih)
      rw [if_neg (Nat.lt_irrefl m)] at e2
      rw [if_pos (Nat.lt_succ_self m)]
      have e3 : wset w m (t1 k (w m)).1 m = (t1 k (w m)).1 := by simp [wset]
      rw [e3]
      exact e1.tr e2
    · have e1 := lt_off h (t := .one k p) hp (k := m) (by omega) e (w m) (lw n w f m)
      have e2 := lt_cg h (w m) (k := m) (by omega) ih
      rw [lt_sg] at e2
      have e3 : wset w p (t1 k (w p)).1 m = w m := by simp [wset, e]
      have e4 : (p < m + 1) = (p < m) := by simp; omega
      rw [e3]
      simp only [e4]
      exact e1.tr e2
/-- letters at two wires change places -/
theorem lt_cm {n : Nat} (h : n < 6) {a b : Nat} (ha : a < n) (hb : b < n) (hab : a ≠ b) (c d : L4) (f : Nat → C) : Eq2 n (lt n c a (lt n d b f)) (lt n d b (lt n c a f)) := by
  cases c with
  | I => exact fun j hj => rfl
  | X => exact lt_off h (t := .one .x a) ha hb (Ne.symm hab) d f
  | Y => exact lt_off h (t := .one .y a) ha hb (Ne.symm hab) d f
  | Z => exact lt_off h (t := .one .z a) ha hb (Ne.symm hab) d f
def rest (w : Nat → L4) (a b : Nat) : Nat → L4 := fun k => if k = a ∨ k = b then .I else w k
theorem lw_lt {n : Nat} (h : n < 6) (w : Nat → L4) (a b : Nat) (c : L4) {p : Nat} (hp : p < n) (hpo : p = a ∨ p = b) (f : Nat → C) : ∀ m, m ≤ n → Eq2 n (lt n c p (lw n (rest w a b) f m)) (lw n (rest w a b) (lt n c p f) m)
  | 0, _ => fun j hj => rfl
  | m + 1, hm => by
    have ih := lw_lt h w a b c hp hpo f m (by omega)
    show Eq2 n (lt n c p (lt n (rest w a b m) m (lw n (rest w a b) f m))) (lt n (rest w a b m) m (lw n (rest w a b) (lt n c p f) m))
    by_cases e : p = m
    · have e3 : rest w a b m = .I := by unfold rest; rw [if_pos (by omega)]
      rw [e3]
      exact ih
    · exact (lt_cm h hp (by omega) e _ _ _).tr (lt_cg h _ (by omega) ih)
theorem lw_split {n : Nat} (h : n < 6) (w : Nat → L4) {a b : Nat} (ha : a < n) (hb : b < n) (hab : a ≠ b) (f : Nat → C) : ∀ m, m ≤ n → Eq2 n (lw n w f m) (lw n (rest w a b) (lt n (if a < m then w a else .I) a (lt n (if b < m then w b else .I) b f)) m)
  | 0, _ => by
    simp only [Nat.not_lt_zero, if_false]
    exact fun j hj => rfl
  | m + 1, hm => by
    have ih := lw_split h w ha hb hab f m (by omega)
    have e1 := lt_cg h (w m) (k := m) (by omega) ih
    refine Eq2.tr e1 ?_
    show Eq2 n _ (lt n (rest w a b m) m _)
    by_cases ea : m = a
    · subst ea
      have e3 : rest w m b m = .I := by unfold rest; rw [if_pos (by omega)]
      have e4 : (b < m + 1) = (b < m) := by simp; omega
      rw [e3, if_pos (Nat.lt_succ_self m), if_neg (Nat.lt_irrefl m)]
      simp only [e4]
      exact lw_lt h w m b (w m) ha (.inl rfl) _ m (by omega)
    · by_cases eb : m = b
      · subst eb
        have e3 : rest w a m m = .I := by unfold rest; rw [if_pos (by omega)]
        have e4 : (a < m + 1) = (a < m) := by simp; omega
        rw [e3, if_pos (Nat.lt_succ_self m), if_neg (Nat.lt_irrefl m)]
        simp only [e4]
        refine Eq2.tr (lw_lt h w a m (w m) hb (.inr rfl) _ m (by omega)) (lw_cg h _ ?_ m (by omega))
        exact lt_cm h hb ha (Ne.symm hab) _ _ _
      · have e3 : rest w a b m = w m := by unfold rest; rw [if_neg (by omega)]
        have e4 : (a < m + 1) = (a < m) := by simp; omega
        have e5 : (b < m + 1) = (b < m) := by simp; omega
        rw [e3]
        simp only [e4, e5]
        exact fun j hj => rfl
theorem lw_off {n : Nat} (h : n < 6) {t : Tu} (ht : okT n t) (w : Nat → L4) (ho : ∀ k, off t k ∨ w k = .I) (f : Nat → C) : ∀ m, m ≤ n → Eq2 n (T n t (lw n w f m)) (lw n w (T n t f) m)
  | 0, _ => fun j hj => rfl
  | m + 1, hm => by
    have ih := lw_off h ht w ho f m (by omega)
    show Eq2 n (T n t (lt n (w m) m (lw n w f m))) (lt n (w m) m (lw n w (T n t f) m))
    rcases ho m with o | o
    · exact (lt_off h ht (by omega) o _ _).tr (lt_cg h _ (by omega) ih)
    · rw [o]; exact ih
theorem lw_sg {n : Nat} (w : Nat → L4) (s : Nat) (f : Nat → C) : ∀ m, lw n w (sg s f) m = sg s (lw n w f m)
  | 0 => rfl
  | m + 1 => by
    show lt n (w m) m (lw n w (sg s f) m) = sg s (lt n (w m) m (lw n w f m))
    rw [lw_sg w s f m, lt_sg]
theorem word2 {n : Nat} (h : n < 6) {a b : Nat} (ha : a < n) (hb : b < n) (hab : a ≠ b) (k : S2) (w : Nat → L4) (f : Nat → C) : Eq2 n (T n (.two k a b) (lw n w f n)) (sg (t2 k (w a) (w b)).2.2 (lw n (wset (wset w a (t2 k (w a) (w b)).1) b (t2 k (w a) (w b)).2.1) (T n (.two k a b) f) n)) := by
  have ht : okT n (.two k a b) := ⟨ha, hb, hab⟩
  have e1 := lw_split h w ha hb hab f n (Nat.le_refl _)
  have e2 := lw_split h (wset (wset w a (t2 k (w a) (w b)).1) b (t2 k (w a) (w b)).2.1) ha hb hab (T n (.two k a b) f) n (Nat.le_refl _)
  rw [if_pos ha, if_pos hb] at e1 e2
  have e3 : rest (wset (wset w a (t2 k (w a) (w b)).1) b (t2 k (w a) (w b)).2.1) a b = rest w a b := by
    funext q
    unfold rest wset
    by_cases qa : q = a
    · simp [qa]
    · by_cases qb : q = b <;> simp [qa, qb]
  have e4 : wset (wset w a (t2 k (w a) (w b)).1) b (t2 k (w a) (w b)).2.1 a = (t2 k (w a) (w b)).1 := by simp [wset, hab]
  have e5 : wset (wset w a (t2 k (w a) (w b)).1) b (t2 k (w a) (w b)).2.1 b = (t2 k (w a) (w b)).2.1 := by simp [wset]
  rw [e3, e4, e5] at e2
  refine ((T_cg h ht e1).tr ?_).tr (sg_cg e2.sy)
  refine (lw_off h ht (rest w a b) (fun q => ?_) _ n (Nat.le_refl _)).tr ?_
  · by_cases o : q = a ∨ q = b
    · right; unfold rest; rw [if_pos o]
    · left; exact ⟨fun e => o (.inl e), fun e => o (.inr e)⟩
  · rw [← lw_sg]
    exact lw_cg h _ (lt_on2 h ha hb hab k (w a) (w b) f) n (Nat.le_refl _)
end Tk00
end Z


namespace Z
open PySem PySem.Spec PyProof.Rows L2
namespace Tk00
abbrev pD (z : C) : D := .tuple [.int z.1, .int z.2]
abbrev g1 (q : Nat × Nat) : D := .tuple [nI q.1, nI q.2]
def nm1 : S1 → String | .h => "h" | .s => "s" | .r => "r" | .x => "x" | .y => "y" | .z => "z"
def nm2 : S2 → String | .cx => "cx" | .cz => "cz" | .sw => "sw"
theorem times_i_spec (z : C) {k : Nat} (h : k < 4) : m_times_i [pD z, nI k] = some (pD (ti k z)) := by
  obtain ⟨a, b⟩ := z
  have : k = 0 ∨ k = 1 ∨ k = 2 ∨ k = 3 := by omega
  simp only [m_times_i, fnP, mb_times_i, startM, nI, pD]
  rcases this with rfl | rfl | rfl | rfl <;> simp [outP, dRg, ti, mFor_ap, kFor, forL, List.range, List.range.loop]
theorem ltimes_i_spec (z : C) {k : Nat} (h : k < 4) : m__law_times_i [pD z, nI k] = some (pD (ti k z)) := by
  obtain ⟨a, b⟩ := z
  have : k = 0 ∨ k = 1 ∨ k = 2 ∨ k = 3 := by omega
  simp only [m__law_times_i, fnP, mb__law_times_i, startM, nI, pD]
  rcases this with rfl | rfl | rfl | rfl <;> simp [outP, dRg, ti, mFor_ap, kFor, forL, List.range, List.range.loop]
theorem sum_of_spec (x y : C) : m_sum_of [pD x, pD y] = some (pD (ad x y)) := by
  simp [m_sum_of, fnP, mb_sum_of, startM, outP, ad]
/-! ## goals -/
@[simp] theorem dTru_i (i : Int) : dTru (.int i) = some (i != 0) := rfl
theorem findK_c (k : Str) (ks : List Str) (d : D) (ds : List D) (z : Str) : findK (k :: ks) (d :: ds) z = if k = z then some d else findK ks ds z := rfl
theorem lohi {n k j : Nat} (h : n < 6) (hk : k < n) (hj : j < 2 ^ n) : min (j : Int) (fl n k j : Int) = (lo n k j : Int) ∧ max (j : Int) (fl n k j : Int) = (hi n k j : Int) := by
  obtain ⟨a1, a2, a3, a4, a5, a6, a7⟩ := f1_fin n h k hk j hj
  rw [a5, a6]
  by_cases e : bt n k j = 0
  · simp [e] at a7 ⊢; omega
  · simp [e] at a7 ⊢; omega
@[simp] theorem dMin_2 (a b : Int) : dMin [.int a, .int b] = some (.int (min a b)) := by
  simp [dMin]; split <;> omega
@[simp] theorem dMax_2 (a b : Int) : dMax [.int a, .int b] = some (.int (max a b)) := by
  simp [dMax]; split <;> omega
section
variable {n i p : Nat} (h : n < 6) (hp : p < n) (hi' : i < 2 ^ n)
include h hp hi'
theorem goals_h : m_single_goals [nI n, nI i, .str "h", nI p] = some ((G n (.one .h p) i).map g1) := by
  have a1 := figure_spec h hp hi'
  have a2 := flipped_spec h hp hi'
  obtain ⟨a3, a4⟩ := lohi h hp hi'
  simp only [m_single_goals, fnL, mb_single_goals, startM, nI] at *
  simp [a1, a2, a3, a4, G, outL]
theorem goals_x : m_single_goals [nI n, nI i, .str "x", nI p] = some ((G n (.one .x p) i).map g1) := by
  have a1 := figure_spec h hp hi'
  have a2 := flipped_spec h hp hi'
  simp only [m_single_goals, fnL, mb_single_goals, startM, nI] at *
  simp [a1, a2, G, outL]
theorem goals_y : m_single_goals [nI n, nI i, .str "y", nI p] = some ((G n (.one .y p) i).map g1) := by
  have a1 := figure_spec h hp hi'
  have a2 := flipped_spec h hp hi'
  have a3 := (f1b h hp hi').2
  simp only [m_single_goals, fnL, mb_single_goals, startM, nI] at *
  rcases a3 with a3 | a3 <;> simp [a1, a2, a3, G, outL]
theorem goals_z : m_single_goals [nI n, nI i, .str "z", nI p] = some ((G n (.one .z p) i).map g1) := by
  have a1 := figure_spec h hp hi'
  have a2 := flipped_spec h hp hi'
  have a3 := (f1b h hp hi').2
  simp only [m_single_goals, fnL, mb_single_goals, startM, nI] at *
  rcases a3 with a3 | a3 <;> simp [a1, a2, a3, G, outL, findK_c, ofString_inj]
theorem goals_s : m_single_goals [nI n, nI i, .str "s", nI p] = some ((G n (.one .s p) i).map g1) := by
  have a1 := figure_spec h hp hi'
  have a2 := flipped_spec h hp hi'
  have a3 := (f1b h hp hi').2
  simp only [m_single_goals, fnL, mb_single_goals, startM, nI] at *
  rcases a3 with a3 | a3 <;> simp [a1, a2, a3, G, outL, findK_c, ofString_inj]
theorem goals_r : m_single_goals [nI n, nI i, .str "r", nI p] = some ((G n (.one .r p) i).map g1) := by
  have a1 := figure_spec h hp hi'
  have a2 := flipped_spec h hp hi'
  have a3 := (f1b h hp hi').2
  simp only [m_single_goals, fnL, mb_single_goals, startM, nI] at *
  rcases a3 with a3 | a3 <;> simp [a1, a2, a3, G, outL, findK_c, ofString_inj]
end
theorem goals1 {n i p : Nat} (h : n < 6) (hp : p < n) (hi' : i < 2 ^ n) (k : S1) : m_single_goals [nI n, nI i, .str (nm1 k), nI p] = some ((G n (.one k p) i).map g1) := by
  cases k
  · exact goals_h h hp hi'
  · exact goals_s h hp hi'
  · exact goals_r h hp hi'
  · exact goals_x h hp hi'
  · exact goals_y h hp hi'
  · exact goals_z h hp hi'
theorem goals2 {n i a b : Nat} (h : n < 6) (ha : a < n) (hb : b < n) (hi' : i < 2 ^ n) (k : S2) : m_double_goals [nI n, nI i, .str (nm2 k), .list [nI a, nI b]] = some ((G n (.two k a b) i).map g1) := by
  have a1 := figure_spec h ha hi'
  have a2 := flipped_spec h ha hi'
  have a3 := (f1b h ha hi').2
  have b1 := figure_spec h hb hi'
  have b2 := flipped_spec h hb hi'
  have b3 := (f1b h hb hi').2
  have b4 := flipped_spec h hb (f1 h ha hi').1
  simp only [m_double_goals, fnL, mb_double_goals, startM, nI] at *
  cases k <;> simp only [nm2] <;> rcases a3 with a3 | a3 <;> rcases b3 with b3 | b3 <;> simp [a1, a2, a3, b1, b2, b3, b4, G, outL]
end Tk00
end Z


namespace Z
open PySem PySem.Spec PyProof.Rows L2
namespace Tk00
/-! ## vectors -/
def vL (N : Nat) (f : Nat → C) : List D := (List.range N).map fun j => pD (f j)
@[simp] theorem vL_len (N : Nat) (f : Nat → C) : (vL N f).length = N := by simp [vL]
theorem vL_at {N : Nat} (f : Nat → C) {q : Nat} (h : q < N) : atI (vL N f) (q : Int) = some (pD (f q)) := by
  rw [atI_natq]
  simp [vL, h]
theorem vL_set {N : Nat} (f : Nat → C) (q : Nat) (v : C) : (vL N f).set q (pD v) = vL N fun j => if j = q then v else f j := by
  unfold vL
  apply List.ext_getElem?
  intro i
  rw [List.getElem?_set]
  by_cases e : q = i
  · subst e
    by_cases h : q < N <;> simp [h]
  · have e' : ¬ i = q := fun h => e h.symm
    by_cases h : i < N <;> simp [h, e, e']
theorem vL_cg {N : Nat} {f g : Nat → C} (h : ∀ j, j < N → f j = g j) : vL N f = vL N g := by
  unfold vL
  exact List.map_congr_left fun j hj => by rw [h j (List.mem_range.mp hj)]
theorem vL_enum (N : Nat) (f : Nat → C) : (vL N f).mapIdx (fun i d => PyData.tuple [.int (i : Nat), d]) = (List.range N).map fun i => PyData.tuple [nI i, pD (f i)] := by
  unfold vL
  apply List.ext_getElem?
  intro i
  by_cases h : i < N <;> simp [h]
theorem ixN_n {N q : Nat} (h : q < N) : ixN N (q : Int) = some q := by
  unfold ixN
  simp
  omega
theorem N_le {n : Nat} (h : n < 6) : 2 ^ n ≤ 32 := Nat.pow_le_pow_right (by omega) (show n ≤ 5 by omega)
theorem upd_set (g : Nat → C) (q : Nat) (v : C) : (fun j => if j = q then ad (g q) v else g j) = upd g q v := by
  funext j
  unfold upd
  split
  · rename_i e; rw [e]
  · rfl
/-- the inner loop: goals of one index -/
theorem inner {N : Nat} {v nm pl ix gs : D} {z : C} (g : Nat → C) (r : Row) (h : ∀ x ∈ r, x.1 < N ∧ x.2 < 4) {a : D} : forL (bTup 2 (bCons (bName 8) (bCons (bName 9) bNil))) (mForget [8, 9] (mSetIx 4 (xFn m_sum_of (xaCons (xIxOwn 4 (xVar 8)) (xaCons (xFn m_times_i (xaCons (xVar 6) (xaCons (xVar 9) xaNil))) xaNil))) (xVar 8))) (r.map g1) [some a, some v, some nm, some pl, some (.list (vL N g)), some ix, some (pD z), some gs, none, none] = some (.nx [some a, some v, some nm, some pl, some (.list (vL N (adds z g r))), some ix, some (pD z), some gs, none, none]) := by
  refine for_st g1 (fun d => [some a, some v, some nm, some pl, some (.list (vL N (adds z g d))), some ix, some (pD z), some gs, none, none]) r fun d x r' e => ?_
  obtain ⟨b1, b2⟩ := h x (by rw [e]; simp)
  have t1 := times_i_spec z b2
  have t2 := vL_at (adds z g d) b1
  have t3 := sum_of_spec (adds z g d x.1) (ti x.2 z)
  have t4 := vL_set (N := N) (adds z g d) x.1 (ad (adds z g d x.1) (ti x.2 z))
  have t5 := ixN_n b1
  have t6 : adds z g (d ++ [x]) = upd (adds z g d) x.1 (ti x.2 z) := by simp [adds]
  rw [upd_set, ← t6] at t4
  refine ⟨_, rfl, ?_⟩
  simp only [nI] at *
  simp [t1, t2, t3, t4, t5]
def nmT : Tu → String | .one k _ => nm1 k | .two k _ _ => nm2 k
def plT : Tu → List D | .one _ p => [nI p] | .two _ a b => [nI a, nI b]
abbrev eD (f : Nat → C) (i : Nat) : D := .tuple [nI i, pD (f i)]
theorem range_split {N : Nat} {d r : List Nat} {x : Nat} (e : List.range N = d ++ x :: r) : d = List.range x ∧ x < N := by
  have l : x = d.length := by
    have : (List.range N)[d.length]? = some x := by rw [e]; simp
    have h : d.length < N := by
      have := congrArg List.length e
      simp at this
      omega
    rw [List.getElem?_range h] at this
    exact (Option.some.inj this).symm
  have h : x < N := by
    have := congrArg List.length e
    simp at this
    omega
  refine ⟨?_, h⟩
  have := congrArg (List.take x) e
  rw [List.take_range, Nat.min_eq_left (by omega), List.take_append_of_le_length (by omega), l, List.take_length, ← l] at this
  exact this.symm
theorem part_s (n : Nat) (t : Tu) (f : Nat → C) (m : Nat) : part n t f (m + 1) = adds (f m) (part n t f m) (G n t m) := by
  unfold part
  rw [List.range_succ, List.foldl_append]; rfl
theorem rep_vL (N : Nat) : List.replicate N (PyData.tuple [.int 0, .int 0]) = vL N fun _ => (0, 0) := by
  unfold vL
  apply List.ext_getElem?
  intro i
  by_cases h : i < N <;> simp [h]
theorem turn_vector_spec {n : Nat} (h : n < 6) {t : Tu} (ht : okT n t) (f : Nat → C) : m_turn_vector [nI n, .list (vL (2 ^ n) f), .str (nmT t), .list (plT t)] = some (vL (2 ^ n) (T n t f)) := by
  have L := for_st (b := bTup 2 (bCons (bName 5) (bCons (bName 6) bNil))) (m := mForget [5, 6, 7, 8, 9] (mSeq (mIf (xT (xOp dEq (xFn dLen (xaCons (xVar 3) xaNil)) (xC (.int 1)))) (mSet 7 (xLst (xfMap m_single_goals (xaCons (xVar 0) (xaCons (xVar 5) (xaCons (xVar 2) (xaCons (xOp dIx (xVar 3) (xC (.int 0))) xaNil)))))))
  (mSet 7 (xLst (xfMap m_double_goals (xaCons (xVar 0) (xaCons (xVar 5) (xaCons (xVar 2) (xaCons (xVar 3) xaNil))))))))
  (mFor (xSeq (xVar 7)) (bTup 2 (bCons (bName 8) (bCons (bName 9) bNil))) (mForget [8, 9] (mSetIx 4 (xFn m_sum_of (xaCons (xIxOwn 4 (xVar 8)) (xaCons (xFn m_times_i (xaCons (xVar 6) (xaCons (xVar 9) xaNil))) xaNil))) (xVar 8)))))) (eD f) (fun d => [some (nI n), some (.list (vL (2 ^ n) f)), some (.str (nmT t)), some (.list (plT t)), some (.list (vL (2 ^ n) (part n t f d.length))), none, none, none, none, none]) (List.range (2 ^ n)) fun d x r e => by
    obtain ⟨e1, e2⟩ := range_split e
    have e3 : d.length = x := by rw [e1, List.length_range]
    have gb := G_bd h ht e2
    refine ⟨_, rfl, ?_⟩
    rw [List.length_append, List.length_singleton, e3, part_s]
    cases t with
    | one k p =>
      have g := goals1 h ht e2 k
      have I := inner (v := .list (vL (2 ^ n) f)) (nm := .str (nm1 k)) (pl := .list [nI p]) (ix := nI x) (gs := .list ((G n (.one k p) x).map g1)) (z := f x) (a := nI n) (part n (.one k p) f x) (G n (.one k p) x) gb
      simp only [nI, nmT, plT] at *
      simp [e3, g, mFor_ap, kFor_ap, I, -List.map_cons]
    | two k a b =>
      have g := goals2 h ht.1 ht.2.1 e2 k
      have I := inner (v := .list (vL (2 ^ n) f)) (nm := .str (nm2 k)) (pl := .list [nI a, nI b]) (ix := nI x) (gs := .list ((G n (.two k a b) x).map g1)) (z := f x) (a := nI n) (part n (.two k a b) f x) (G n (.two k a b) x) gb
      simp only [nI, nmT, plT] at *
      simp [e3, g, mFor_ap, kFor_ap, I, -List.map_cons]
  have Nn := N_le h
  have rp := fun s => rep1 (x := PyData.tuple [.int 0, .int 0]) (n := 2 ^ n) (s := s) (by omega)
  have c : c_NOTHING = PyData.tuple [.int 0, .int 0] := rfl
  rw [List.length_range, List.length_nil] at L
  have pt : vL (2 ^ n) (part n t f (2 ^ n)) = vL (2 ^ n) (T n t f) := vL_cg fun j hj => part_T h ht f hj
  rw [pt] at L
  have p0 : part n t f 0 = fun _ => (0, 0) := rfl
  rw [p0] at L
  simp only [m_turn_vector, fnL, mb_turn_vector, startM, nI] at *
  simp [-Int.natCast_pow, c, rp, rep_vL, vL_enum, mFor_ap, kFor_ap, L, outL]
end Tk00
end Z


namespace Z
open PySem PySem.Spec PyProof.Rows L2
namespace Tk00
/-! ## the law's own turn -/
def g2 (z : C) (x : Nat × Nat) : D := .tuple [nI x.1, pD (ti x.2 z)]
theorem linner {N : Nat} {v nm pl ix : D} {z : C} (g : Nat → C) (r : Row) (h : ∀ x ∈ r, x.1 < N ∧ x.2 < 4) {a : D} (ms fi gs : D) (o : Option D) : forL (bTup 2 (bCons (bName 11) (bCons (bName 12) bNil))) (mForget [11, 12] (mSetIx 4 (xTup (xaCons (xOp dAdd (xOp dIx (xIxOwn 4 (xVar 11)) (xC (.int 0))) (xOp dIx (xVar 12) (xC (.int 0)))) (xaCons (xOp dAdd (xOp dIx (xIxOwn 4 (xVar 11)) (xC (.int 1))) (xOp dIx (xVar 12) (xC (.int 1)))) xaNil))) (xVar 11))) (r.map (g2 z)) [some a, some v, some nm, some pl, some (.list (vL N g)), some ix, some (pD z), some ms, some fi, some gs, o, none, none, none] = some (.nx [some a, some v, some nm, some pl, some (.list (vL N (adds z g r))), some ix, some (pD z), some ms, some fi, some gs, o, none, none, none]) := by
  refine for_st (g2 z) (fun d => [some a, some v, some nm, some pl, some (.list (vL N (adds z g d))), some ix, some (pD z), some ms, some fi, some gs, o, none, none, none]) r fun d x r' e => ?_
  obtain ⟨b1, b2⟩ := h x (by rw [e]; simp)
  have t2 := vL_at (adds z g d) b1
  have t4 := vL_set (N := N) (adds z g d) x.1 (ad (adds z g d x.1) (ti x.2 z))
  have t5 := ixN_n b1
  have t6 : adds z g (d ++ [x]) = upd (adds z g d) x.1 (ti x.2 z) := by simp [adds]
  rw [upd_set, ← t6] at t4
  unfold ad at t4
  refine ⟨_, rfl, ?_⟩
  simp [g2, nI, t2, t4, t5]
def mk (n p : Nat) : Nat := 2 ^ (n - 1 - p)
theorem masks_at {n : Nat} (h : n < 6) {p : Nat} (hp : p < n) : atI [PyData.int 1, .int 2, .int 4, .int 8, .int 16, .int 32, .int 64] ((n : Int) - 1 - p) = some (nI (mk n p)) := by
  have e : (n : Int) - 1 - p = ((n - 1 - p : Nat) : Int) := by omega
  rw [e, atI_natq]
  have : n - 1 - p = 0 ∨ n - 1 - p = 1 ∨ n - 1 - p = 2 ∨ n - 1 - p = 3 ∨ n - 1 - p = 4 := by omega
  unfold mk
  rcases this with e | e | e | e | e <;> rw [e] <;> rfl
theorem mk_pos (n p : Nat) : 0 < mk n p := Nat.pos_of_ne_zero (by unfold mk; exact Nat.ne_of_gt (Nat.pow_pos (by omega)))
theorem bt_mk (n k j : Nat) : ((j : Int) / (mk n k : Int)) % 2 = (bt n k j : Int) := by
  unfold mk bt
  rw [Int.natCast_emod, Int.natCast_ediv]; rfl
theorem e_fin : ∀ n, n < 6 → ∀ k, k < n → ∀ j, j < 2 ^ n → bt n k j * mk n k ≤ j ∧ bt n k j < 2 := by decide +kernel
theorem lo_i {n k j : Nat} (h : n < 6) (hk : k < n) (hj : j < 2 ^ n) : (j : Int) - (bt n k j : Int) * (mk n k : Int) = (lo n k j : Int) := by
  obtain ⟨a, b⟩ := e_fin n h k hk j hj
  have e : lo n k j = j - bt n k j * mk n k := rfl
  rw [e, Int.ofNat_sub a, Int.natCast_mul]
theorem hi_i {n k j : Nat} (h : n < 6) (hk : k < n) (hj : j < 2 ^ n) : (lo n k j : Int) + (mk n k : Int) = (hi n k j : Int) := by
  have e : hi n k j = lo n k j + mk n k := rfl
  rw [e, Int.natCast_add]
theorem fl_i {n k j : Nat} (h : n < 6) (hk : k < n) (hj : j < 2 ^ n) : (j : Int) + (mk n k : Int) - 2 * (bt n k j : Int) * (mk n k : Int) = (fl n k j : Int) := by
  obtain ⟨a, b⟩ := e_fin n h k hk j hj
  have e : fl n k j = j + mk n k - 2 * bt n k j * mk n k := rfl
  have c : 2 * bt n k j * mk n k ≤ j + mk n k := by
    have : bt n k j = 0 ∨ bt n k j = 1 := by omega
    rcases this with e | e <;> rw [e] at a ⊢ <;> omega
  rw [e, Int.ofNat_sub c]
  simp only [Int.natCast_mul, Int.natCast_add]; rfl
theorem mk_lt {n : Nat} (h : n < 6) (p : Nat) : (mk n p : Int) < 1073741824 := by
  have : mk n p ≤ 2 ^ 5 := Nat.pow_le_pow_right (by omega) (show n - 1 - p ≤ 5 by omega)
  omega
theorem lturn_h {n : Nat} (h : n < 6) {p : Nat} (hp : p < n) (f g : Nat → C) {x : Nat} (hx : x < 2 ^ n) :
    (mForget [5, 6, 7, 8, 9, 10, 11, 12] (mSeq (mSet 6 (xOp dIx (xVar 1) (xVar 5))) (mSeq (mSet 7 (xLst (xLc (xSeq (xVar 3)) [13] (bName 13) xYes (xOp dIx (xLst (xDisp (xaCons (xC (.int 1)) (xaCons (xC (.int 2)) (xaCons (xC (.int 4)) (xaCons (xC (.int 8)) (xaCons (xC (.int 16)) (xaCons (xC (.int 32)) (xaCons (xC (.int 64)) xaNil))))))))) (xOp dSub (xOp dSub (xVar 0) (xC (.int 1))) (xVar 13)))))) (mSeq (mSet 8 (xOp dMod (xFn dInt (xaCons (xOp dDiv (xVar 5) (xOp dIx (xVar 7) (xC (.int 0)))) xaNil)) (xC (.int 2)))) (mSeq (mIf (xT (xOp dEq (xVar 2) (xC (.str "h")))) (mSet 9 (xLst (xDisp (xaCons (xTup (xaCons (xOp dSub (xVar 5) (xOp dMul (xVar 8) (xOp dIx (xVar 7) (xC (.int 0))))) (xaCons (xVar 6) xaNil))) (xaCons (xTup (xaCons (xOp dAdd (xOp dSub (xVar 5) (xOp dMul (xVar 8) (xOp dIx (xVar 7) (xC (.int 0))))) (xOp dIx (xVar 7) (xC (.int 0)))) (xaCons (xFn m__law_times_i (xaCons (xVar 6) (xaCons (xOp dMul (xC (.int 2)) (xVar 8)) xaNil))) xaNil))) xaNil))))) (mIf (xT (xOp dEq (xVar 2) (xC (.str "x")))) (mSet 9 (xLst (xDisp (xaCons (xTup (xaCons (xOp dSub (xOp dAdd (xVar 5) (xOp dIx (xVar 7) (xC (.int 0)))) (xOp dMul (xOp dMul (xC (.int 2)) (xVar 8)) (xOp dIx (xVar 7) (xC (.int 0))))) (xaCons (xVar 6) xaNil))) xaNil)))) (mIf (xT (xOp dEq (xVar 2) (xC (.str "y")))) (mSet 9 (xLst (xDisp (xaCons (xTup (xaCons (xOp dSub (xOp dAdd (xVar 5) (xOp dIx (xVar 7) (xC (.int 0)))) (xOp dMul (xOp dMul (xC (.int 2)) (xVar 8)) (xOp dIx (xVar 7) (xC (.int 0))))) (xaCons (xFn m__law_times_i (xaCons (xVar 6) (xaCons (xOp dIx (xLst (xDisp (xaCons (xC (.int 1)) (xaCons (xC (.int 3)) xaNil)))) (xVar 8)) xaNil))) xaNil))) xaNil)))) (mIf (xT (xOp dEq (xVar 2) (xC (.str "z")))) (mSet 9 (xLst (xDisp (xaCons (xTup (xaCons (xVar 5) (xaCons (xFn m__law_times_i (xaCons (xVar 6) (xaCons (xOp dMul (xC (.int 2)) (xVar 8)) xaNil))) xaNil))) xaNil)))) (mIf (xT (xOp dEq (xVar 2) (xC (.str "s")))) (mSet 9 (xLst (xDisp (xaCons (xTup (xaCons (xVar 5) (xaCons (xFn m__law_times_i (xaCons (xVar 6) (xaCons (xVar 8) xaNil))) xaNil))) xaNil)))) (mIf (xT (xOp dEq (xVar 2) (xC (.str "r")))) (mSet 9 (xLst (xDisp (xaCons (xTup (xaCons (xVar 5) (xaCons (xFn m__law_times_i (xaCons (xVar 6) (xaCons (xOp dMul (xC (.int 3)) (xVar 8)) xaNil))) xaNil))) xaNil)))) (mSeq (mSet 10 (xOp dMod (xFn dInt (xaCons (xOp dDiv (xVar 5) (xOp dIx (xVar 7) (xC (.int 1)))) xaNil)) (xC (.int 2)))) (mIf (xT (xOp dEq (xVar 2) (xC (.str "cx")))) (mSet 9 (xLst (xDisp (xaCons (xTup (xaCons (xOp dAdd (xVar 5) (xOp dMul (xVar 8) (xOp dSub (xOp dIx (xVar 7) (xC (.int 1))) (xOp dMul (xOp dMul (xC (.int 2)) (xVar 10)) (xOp dIx (xVar 7) (xC (.int 1))))))) (xaCons (xVar 6) xaNil))) xaNil)))) (mIf (xT (xOp dEq (xVar 2) (xC (.str "cz")))) (mSet 9 (xLst (xDisp (xaCons (xTup (xaCons (xVar 5) (xaCons (xFn m__law_times_i (xaCons (xVar 6) (xaCons (xOp dMul (xOp dMul (xC (.int 2)) (xVar 8)) (xVar 10)) xaNil))) xaNil))) xaNil)))) (mSet 9 (xLst (xDisp (xaCons (xTup (xaCons (xOp dAdd (xOp dAdd (xVar 5) (xOp dMul (xOp dSub (xVar 10) (xVar 8)) (xOp dIx (xVar 7) (xC (.int 0))))) (xOp dMul (xOp dSub (xVar 8) (xVar 10)) (xOp dIx (xVar 7) (xC (.int 1))))) (xaCons (xVar 6) xaNil))) xaNil))))))))))))) (mFor (xSeq (xVar 9)) (bTup 2 (bCons (bName 11) (bCons (bName 12) bNil))) (mForget [11, 12] (mSetIx 4 (xTup (xaCons (xOp dAdd (xOp dIx (xIxOwn 4 (xVar 11)) (xC (.int 0))) (xOp dIx (xVar 12) (xC (.int 0)))) (xaCons (xOp dAdd (xOp dIx (xIxOwn 4 (xVar 11)) (xC (.int 1))) (xOp dIx (xVar 12) (xC (.int 1)))) xaNil))) (xVar 11))))))))) [some (nI n), some (.list (vL (2 ^ n) f)), some (.str "h"), some (.list [nI p]), some (.list (vL (2 ^ n) g)), some (nI x), none, none, none, none, none, none, none, none] = some (.nx [some (nI n), some (.list (vL (2 ^ n) f)), some (.str "h"), some (.list [nI p]), some (.list (vL (2 ^ n) (adds (f x) g (G n (.one .h p) x)))), none, none, none, none, none, none, none, none, none]) := by
  have gb := G_bd h (t := .one .h p) hp hx
  have t1 := vL_at f hx
  have t2 := masks_at h hp
  have t3 := bt_mk n p x
  have m0 : ¬ (mk n p : Int) = 0 := by have := mk_pos n p; omega
  have m1 := mk_pos n p
  have b1 : (bt n p x : Int) < 18446744073709551616 := by have := (f1b h hp hx).2; omega
  have b2 : -18446744073709551616 < (bt n p x : Int) := by omega
  have b3 : 2 * (bt n p x : Int) < 18446744073709551616 := by have := (f1b h hp hx).2; omega
  have b4 : -18446744073709551616 < 2 * (bt n p x : Int) := by omega
  have m2 := mk_lt h p
  have t4 := lo_i h hp hx
  have t5 := hi_i h hp hx
  have t7 := fl_i h hp hx
  have t6 : m__law_times_i [pD (f x), .int (2 * (bt n p x : Int))] = some (pD (ti (2 * bt n p x) (f x))) := by
    have := ltimes_i_spec (f x) (k := 2 * bt n p x) (by have := (f1b h hp hx).2; omega)
    rw [← this] <;> simp [nI]
  have t8 := (f1b h hp hx).2
  have I := linner (v := .list (vL (2 ^ n) f)) (nm := .str "h") (pl := .list [nI p]) (ix := nI x) (z := f x) (a := nI n) g (G n (.one .h p) x) gb
  rw [show (G n (.one .h p) x).map (g2 (f x)) = [.tuple [nI (lo n p x), pD (f x)], .tuple [nI (hi n p x), pD (ti (2 * bt n p x) (f x))]] from rfl] at I
  simp only [nI, Int.natCast_mul, Int.natCast_add] at *
  simp [t1, t2, xLc_ap, kLc, lcL, m0, m1, m2, b1, b2, b3, b4, t3, t4, t5, t6, t7, mFor_ap, kFor_ap, I]
theorem lturn_x {n : Nat} (h : n < 6) {p : Nat} (hp : p < n) (f g : Nat → C) {x : Nat} (hx : x < 2 ^ n) :
    (mForget [5, 6, 7, 8, 9, 10, 11, 12] (mSeq (mSet 6 (xOp dIx (xVar 1) (xVar 5))) (mSeq (mSet 7 (xLst (xLc (xSeq (xVar 3)) [13] (bName 13) xYes (xOp dIx (xLst (xDisp (xaCons (xC (.int 1)) (xaCons (xC (.int 2)) (xaCons (xC (.int 4)) (xaCons (xC (.int 8)) (xaCons (xC (.int 16)) (xaCons (xC (.int 32)) (xaCons (xC (.int 64)) xaNil))))))))) (xOp dSub (xOp dSub (xVar 0) (xC (.int 1))) (xVar 13)))))) (mSeq (mSet 8 (xOp dMod (xFn dInt (xaCons (xOp dDiv (xVar 5) (xOp dIx (xVar 7) (xC (.int 0)))) xaNil)) (xC (.int 2)))) (mSeq (mIf (xT (xOp dEq (xVar 2) (xC (.str "h")))) (mSet 9 (xLst (xDisp (xaCons (xTup (xaCons (xOp dSub (xVar 5) (xOp dMul (xVar 8) (xOp dIx (xVar 7) (xC (.int 0))))) (xaCons (xVar 6) xaNil))) (xaCons (xTup (xaCons (xOp dAdd (xOp dSub (xVar 5) (xOp dMul (xVar 8) (xOp dIx (xVar 7) (xC (.int 0))))) (xOp dIx (xVar 7) (xC (.int 0)))) (xaCons (xFn m__law_times_i (xaCons (xVar 6) (xaCons (xOp dMul (xC (.int 2)) (xVar 8)) xaNil))) xaNil))) xaNil))))) (mIf (xT (xOp dEq (xVar 2) (xC (.str "x")))) (mSet 9 (xLst (xDisp (xaCons (xTup (xaCons (xOp dSub (xOp dAdd (xVar 5) (xOp dIx (xVar 7) (xC (.int 0)))) (xOp dMul (xOp dMul (xC (.int 2)) (xVar 8)) (xOp dIx (xVar 7) (xC (.int 0))))) (xaCons (xVar 6) xaNil))) xaNil)))) (mIf (xT (xOp dEq (xVar 2) (xC (.str "y")))) (mSet 9 (xLst (xDisp (xaCons (xTup (xaCons (xOp dSub (xOp dAdd (xVar 5) (xOp dIx (xVar 7) (xC (.int 0)))) (xOp dMul (xOp dMul (xC (.int 2)) (xVar 8)) (xOp dIx (xVar 7) (xC (.int 0))))) (xaCons (xFn m__law_times_i (xaCons (xVar 6) (xaCons (xOp dIx (xLst (xDisp (xaCons (xC (.int 1)) (xaCons (xC (.int 3)) xaNil)))) (xVar 8)) xaNil))) xaNil))) xaNil)))) (mIf (xT (xOp dEq (xVar 2) (xC (.str "z")))) (mSet 9 (xLst (xDisp (xaCons (xTup (xaCons (xVar 5) (xaCons (xFn m__law_times_i (xaCons (xVar 6) (xaCons (xOp dMul (xC (.int 2)) (xVar 8)) xaNil))) xaNil))) xaNil)))) (mIf (xT (xOp dEq (xVar 2) (xC (.str "s")))) (mSet 9 (xLst (xDisp (xaCons (xTup (xaCons (xVar 5) (xaCons (xFn m__law_times_i (xaCons (xVar 6) (xaCons (xVar 8) xaNil))) xaNil))) xaNil)))) (mIf (xT (xOp dEq (xVar 2) (xC (.str "r")))) (mSet 9 (xLst (xDisp (xaCons (xTup (xaCons (xVar 5) (xaCons (xFn m__law_times_i (xaCons (xVar 6) (xaCons (xOp dMul (xC (.int 3)) (xVar 8)) xaNil))) xaNil))) xaNil)))) (mSeq (mSet 10 (xOp dMod (xFn dInt (xaCons (xOp dDiv (xVar 5) (xOp dIx (xVar 7) (xC (.int 1)))) xaNil)) (xC (.int 2)))) (mIf (xT (xOp dEq (xVar 2) (xC (.str "cx")))) (mSet 9 (xLst (xDisp (xaCons (xTup (xaCons (xOp dAdd (xVar 5) (xOp dMul (xVar 8) (xOp dSub (xOp dIx (xVar 7) (xC (.int 1))) (xOp dMul (xOp dMul (xC (.int 2)) (xVar 10)) (xOp dIx (xVar 7) (xC (.int 1))))))) (xaCons (xVar 6) xaNil))) xaNil)))) (mIf (xT (xOp dEq (xVar 2) (xC (.str "cz")))) (mSet 9 (xLst (xDisp (xaCons (xTup (xaCons (xVar 5) (xaCons (xFn m__law_times_i (xaCons (xVar 6) (xaCons (xOp dMul (xOp dMul (xC (.int 2)) (xVar 8)) (xVar 10)) xaNil))) xaNil))) xaNil)))) (mSet 9 (xLst (xDisp (xaCons (xTup (xaCons (xOp dAdd (xOp dAdd (xVar 5) (xOp dMul (xOp dSub (xVar 10) (xVar 8)) (xOp dIx (xVar 7) (xC (.int 0))))) (xOp dMul (xOp dSub (xVar 8) (xVar 10)) (xOp dIx (xVar 7) (xC (.int 1))))) (xaCons (xVar 6) xaNil))) xaNil))))))))))))) (mFor (xSeq (xVar 9)) (bTup 2 (bCons (bName 11) (bCons (bName 12) bNil))) (mForget [11, 12] (mSetIx 4 (xTup (xaCons (xOp dAdd (xOp dIx (xIxOwn 4 (xVar 11)) (xC (.int 0))) (xOp dIx (xVar 12) (xC (.int 0)))) (xaCons (xOp dAdd (xOp dIx (xIxOwn 4 (xVar 11)) (xC (.int 1))) (xOp dIx (xVar 12) (xC (.int 1)))) xaNil))) (xVar 11))))))))) [some (nI n), some (.list (vL (2 ^ n) f)), some (.str "x"), some (.list [nI p]), some (.list (vL (2 ^ n) g)), some (nI x), none, none, none, none, none, none, none, none] = some (.nx [some (nI n), some (.list (vL (2 ^ n) f)), some (.str "x"), some (.list [nI p]), some (.list (vL (2 ^ n) (adds (f x) g (G n (.one .x p) x)))), none, none, none, none, none, none, none, none, none]) := by
  have gb := G_bd h (t := .one .x p) hp hx
  have t1 := vL_at f hx
  have t2 := masks_at h hp
  have t3 := bt_mk n p x
  have m0 : ¬ (mk n p : Int) = 0 := by have := mk_pos n p; omega
  have m1 := mk_pos n p
  have b1 : (bt n p x : Int) < 18446744073709551616 := by have := (f1b h hp hx).2; omega
  have b2 : -18446744073709551616 < (bt n p x : Int) := by omega
  have b3 : 2 * (bt n p x : Int) < 18446744073709551616 := by have := (f1b h hp hx).2; omega
  have b4 : -18446744073709551616 < 2 * (bt n p x : Int) := by omega
  have m2 := mk_lt h p
  have t4 := lo_i h hp hx
  have t5 := hi_i h hp hx
  have t7 := fl_i h hp hx
  have t6 : True := trivial
  have t8 := (f1b h hp hx).2
  have I := linner (v := .list (vL (2 ^ n) f)) (nm := .str "x") (pl := .list [nI p]) (ix := nI x) (z := f x) (a := nI n) g (G n (.one .x p) x) gb
  rw [show (G n (.one .x p) x).map (g2 (f x)) = [.tuple [nI (fl n p x), pD (f x)]] from rfl] at I
  simp only [nI, Int.natCast_mul, Int.natCast_add] at *
  simp [t1, t2, xLc_ap, kLc, lcL, m0, m1, m2, b1, b2, b3, b4, t3, t4, t5, t6, t7, mFor_ap, kFor_ap, I]
theorem lturn_y {n : Nat} (h : n < 6) {p : Nat} (hp : p < n) (f g : Nat → C) {x : Nat} (hx : x < 2 ^ n) :
    (mForget [5, 6, 7, 8, 9, 10, 11, 12] (mSeq (mSet 6 (xOp dIx (xVar 1) (xVar 5))) (mSeq (mSet 7 (xLst (xLc (xSeq (xVar 3)) [13] (bName 13) xYes (xOp dIx (xLst (xDisp (xaCons (xC (.int 1)) (xaCons (xC (.int 2)) (xaCons (xC (.int 4)) (xaCons (xC (.int 8)) (xaCons (xC (.int 16)) (xaCons (xC (.int 32)) (xaCons (xC (.int 64)) xaNil))))))))) (xOp dSub (xOp dSub (xVar 0) (xC (.int 1))) (xVar 13)))))) (mSeq (mSet 8 (xOp dMod (xFn dInt (xaCons (xOp dDiv (xVar 5) (xOp dIx (xVar 7) (xC (.int 0)))) xaNil)) (xC (.int 2)))) (mSeq (mIf (xT (xOp dEq (xVar 2) (xC (.str "h")))) (mSet 9 (xLst (xDisp (xaCons (xTup (xaCons (xOp dSub (xVar 5) (xOp dMul (xVar 8) (xOp dIx (xVar 7) (xC (.int 0))))) (xaCons (xVar 6) xaNil))) (xaCons (xTup (xaCons (xOp dAdd (xOp dSub (xVar 5) (xOp dMul (xVar 8) (xOp dIx (xVar 7) (xC (.int 0))))) (xOp dIx (xVar 7) (xC (.int 0)))) (xaCons (xFn m__law_times_i (xaCons (xVar 6) (xaCons (xOp dMul (xC (.int 2)) (xVar 8)) xaNil))) xaNil))) xaNil))))) (mIf (xT (xOp dEq (xVar 2) (xC (.str "x")))) (mSet 9 (xLst (xDisp (xaCons (xTup (xaCons (xOp dSub (xOp dAdd (xVar 5) (xOp dIx (xVar 7) (xC (.int 0)))) (xOp dMul (xOp dMul (xC (.int 2)) (xVar 8)) (xOp dIx (xVar 7) (xC (.int 0))))) (xaCons (xVar 6) xaNil))) xaNil)))) (mIf (xT (xOp dEq (xVar 2) (xC (.str "y")))) (mSet 9 (xLst (xDisp (xaCons (xTup (xaCons (xOp dSub (xOp dAdd (xVar 5) (xOp dIx (xVar 7) (xC (.int 0)))) (xOp dMul (xOp dMul (xC (.int 2)) (xVar 8)) (xOp dIx (xVar 7) (xC (.int 0))))) (xaCons (xFn m__law_times_i (xaCons (xVar 6) (xaCons (xOp dIx (xLst (xDisp (xaCons (xC (.int 1)) (xaCons (xC (.int 3)) xaNil)))) (xVar 8)) xaNil))) xaNil))) xaNil)))) (mIf (xT (xOp dEq (xVar 2) (xC (.str "z")))) (mSet 9 (xLst (xDisp (xaCons (xTup (xaCons (xVar 5) (xaCons (xFn m__law_times_i (xaCons (xVar 6) (xaCons (xOp dMul (xC (.int 2)) (xVar 8)) xaNil))) xaNil))) xaNil)))) (mIf (xT (xOp dEq (xVar 2) (xC (.str "s")))) (mSet 9 (xLst (xDisp (xaCons (xTup (xaCons (xVar 5) (xaCons (xFn m__law_times_i (xaCons (xVar 6) (xaCons (xVar 8) xaNil))) xaNil))) xaNil)))) (mIf (xT (xOp dEq (xVar 2) (xC (.str "r")))) (mSet 9 (xLst (xDisp (xaCons (xTup (xaCons (xVar 5) (xaCons (xFn m__law_times_i (xaCons (xVar 6) (xaCons (xOp dMul (xC (.int 3)) (xVar 8)) xaNil))) xaNil))) xaNil)))) (mSeq (mSet 10 (xOp dMod (xFn dInt (xaCons (xOp dDiv (xVar 5) (xOp dIx (xVar 7) (xC (.int 1)))) xaNil)) (xC (.int 2)))) (mIf (xT (xOp dEq (xVar 2) (xC (.str "cx")))) (mSet 9 (xLst (xDisp (xaCons (xTup (xaCons (xOp dAdd (xVar 5) (xOp dMul (xVar 8) (xOp dSub (xOp dIx (xVar 7) (xC (.int 1))) (xOp dMul (xOp dMul (xC (.int 2)) (xVar 10)) (xOp dIx (xVar 7) (xC (.int 1))))))) (xaCons (xVar 6) xaNil))) xaNil)))) (mIf (xT (xOp dEq (xVar 2) (xC (.str "cz")))) (mSet 9 (xLst (xDisp (xaCons (xTup (xaCons (xVar 5) (xaCons (xFn m__law_times_i (xaCons (xVar 6) (xaCons (xOp dMul (xOp dMul (xC (.int 2)) (xVar 8)) (xVar 10)) xaNil))) xaNil))) xaNil)))) (mSet 9 (xLst (xDisp (xaCons (xTup (xaCons (xOp dAdd (xOp dAdd (xVar 5) (xOp dMul (xOp dSub (xVar 10) (xVar 8)) (xOp dIx (xVar 7) (xC (.int 0))))) (xOp dMul (xOp dSub (xVar 8) (xVar 10)) (xOp dIx (xVar 7) (xC (.int 1))))) (xaCons (xVar 6) xaNil))) xaNil))))))))))))) (mFor (xSeq (xVar 9)) (bTup 2 (bCons (bName 11) (bCons (bName 12) bNil))) (mForget [11, 12] (mSetIx 4 (xTup (xaCons (xOp dAdd (xOp dIx (xIxOwn 4 (xVar 11)) (xC (.int 0))) (xOp dIx (xVar 12) (xC (.int 0)))) (xaCons (xOp dAdd (xOp dIx (xIxOwn 4 (xVar 11)) (xC (.int 1))) (xOp dIx (xVar 12) (xC (.int 1)))) xaNil))) (xVar 11))))))))) [some (nI n), some (.list (vL (2 ^ n) f)), some (.str "y"), some (.list [nI p]), some (.list (vL (2 ^ n) g)), some (nI x), none, none, none, none, none, none, none, none] = some (.nx [some (nI n), some (.list (vL (2 ^ n) f)), some (.str "y"), some (.list [nI p]), some (.list (vL (2 ^ n) (adds (f x) g (G n (.one .y p) x)))), none, none, none, none, none, none, none, none, none]) := by
  have gb := G_bd h (t := .one .y p) hp hx
  have t1 := vL_at f hx
  have t2 := masks_at h hp
  have t3 := bt_mk n p x
  have m0 : ¬ (mk n p : Int) = 0 := by have := mk_pos n p; omega
  have m1 := mk_pos n p
  have b1 : (bt n p x : Int) < 18446744073709551616 := by have := (f1b h hp hx).2; omega
  have b2 : -18446744073709551616 < (bt n p x : Int) := by omega
  have b3 : 2 * (bt n p x : Int) < 18446744073709551616 := by have := (f1b h hp hx).2; omega
  have b4 : -18446744073709551616 < 2 * (bt n p x : Int) := by omega
  have m2 := mk_lt h p
  have t4 := lo_i h hp hx
  have t5 := hi_i h hp hx
  have t7 := fl_i h hp hx
  have t6 : m__law_times_i [pD (f x), .int (1 + 2 * (bt n p x : Int))] = some (pD (ti (1 + 2 * bt n p x) (f x))) := by
    have := ltimes_i_spec (f x) (k := 1 + 2 * bt n p x) (by have := (f1b h hp hx).2; omega)
    rw [← this] <;> simp [nI]
  have t8 := (f1b h hp hx).2
  have I := linner (v := .list (vL (2 ^ n) f)) (nm := .str "y") (pl := .list [nI p]) (ix := nI x) (z := f x) (a := nI n) g (G n (.one .y p) x) gb
  rw [show (G n (.one .y p) x).map (g2 (f x)) = [.tuple [nI (fl n p x), pD (ti (1 + 2 * bt n p x) (f x))]] from rfl] at I
  simp only [nI, Int.natCast_mul, Int.natCast_add] at *
  rcases t8 with t8 | t8 <;> simp only [t8] at * <;> simp [t1, t2, xLc_ap, kLc, lcL, m0, m1, m2, b1, b2, b3, b4, t3, t4, t5, t7, t8, mFor_ap, kFor_ap] <;> simp at t7 t6 I <;> simp [t6, t7, I, mFor_ap, kFor_ap]
theorem lturn_z {n : Nat} (h : n < 6) {p : Nat} (hp : p < n) (f g : Nat → C) {x : Nat} (hx : x < 2 ^ n) :
    (mForget [5, 6, 7, 8, 9, 10, 11, 12] (mSeq (mSet 6 (xOp dIx (xVar 1) (xVar 5))) (mSeq (mSet 7 (xLst (xLc (xSeq (xVar 3)) [13] (bName 13) xYes (xOp dIx (xLst (xDisp (xaCons (xC (.int 1)) (xaCons (xC (.int 2)) (xaCons (xC (.int 4)) (xaCons (xC (.int 8)) (xaCons (xC (.int 16)) (xaCons (xC (.int 32)) (xaCons (xC (.int 64)) xaNil))))))))) (xOp dSub (xOp dSub (xVar 0) (xC (.int 1))) (xVar 13)))))) (mSeq (mSet 8 (xOp dMod (xFn dInt (xaCons (xOp dDiv (xVar 5) (xOp dIx (xVar 7) (xC (.int 0)))) xaNil)) (xC (.int 2)))) (mSeq (mIf (xT (xOp dEq (xVar 2) (xC (.str "h")))) (mSet 9 (xLst (xDisp (xaCons (xTup (xaCons (xOp dSub (xVar 5) (xOp dMul (xVar 8) (xOp dIx (xVar 7) (xC (.int 0))))) (xaCons (xVar 6) xaNil))) (xaCons (xTup (xaCons (xOp dAdd (xOp dSub (xVar 5) (xOp dMul (xVar 8) (xOp dIx (xVar 7) (xC (.int 0))))) (xOp dIx (xVar 7) (xC (.int 0)))) (xaCons (xFn m__law_times_i (xaCons (xVar 6) (xaCons (xOp dMul (xC (.int 2)) (xVar 8)) xaNil))) xaNil))) xaNil))))) (mIf (xT (xOp dEq (xVar 2) (xC (.str "x")))) (mSet 9 (xLst (xDisp (xaCons (xTup (xaCons (xOp dSub (xOp dAdd (xVar 5) (xOp dIx (xVar 7) (xC (.int 0)))) (xOp dMul (xOp dMul (xC (.int 2)) (xVar 8)) (xOp dIx (xVar 7) (xC (.int 0))))) (xaCons (xVar 6) xaNil))) xaNil)))) (mIf (xT (xOp dEq (xVar 2) (xC (.str "y")))) (mSet 9 (xLst (xDisp (xaCons (xTup (xaCons (xOp dSub (xOp dAdd (xVar 5) (xOp dIx (xVar 7) (xC (.int 0)))) (xOp dMul (xOp dMul (xC (.int 2)) (xVar 8)) (xOp dIx (xVar 7) (xC (.int 0))))) (xaCons (xFn m__law_times_i (xaCons (xVar 6) (xaCons (xOp dIx (xLst (xDisp (xaCons (xC (.int 1)) (xaCons (xC (.int 3)) xaNil)))) (xVar 8)) xaNil))) xaNil))) xaNil)))) (mIf (xT (xOp dEq (xVar 2) (xC (.str "z")))) (mSet 9 (xLst (xDisp (xaCons (xTup (xaCons (xVar 5) (xaCons (xFn m__law_times_i (xaCons (xVar 6) (xaCons (xOp dMul (xC (.int 2)) (xVar 8)) xaNil))) xaNil))) xaNil)))) (mIf (xT (xOp dEq (xVar 2) (xC (.str "s")))) (mSet 9 (xLst (xDisp (xaCons (xTup (xaCons (xVar 5) (xaCons (xFn m__law_times_i (xaCons (xVar 6) (xaCons (xVar 8) xaNil))) xaNil))) xaNil)))) (mIf (xT (xOp dEq (xVar 2) (xC (.str "r")))) (mSet 9 (xLst (xDisp (xaCons (xTup (xaCons (xVar 5) (xaCons (xFn m__law_times_i (xaCons (xVar 6) (xaCons (xOp dMul (xC (.int 3)) (xVar 8)) xaNil))) xaNil))) xaNil)))) (mSeq (mSet 10 (xOp dMod (xFn dInt (xaCons (xOp dDiv (xVar 5) (xOp dIx (xVar 7) (xC (.int 1)))) xaNil)) (xC (.int 2)))) (mIf (xT (xOp dEq (xVar 2) (xC (.str "cx")))) (mSet 9 (xLst (xDisp (xaCons (xTup (xaCons (xOp dAdd (xVar 5) (xOp dMul (xVar 8) (xOp dSub (xOp dIx (xVar 7) (xC (.int 1))) (xOp dMul (xOp dMul (xC (.int 2)) (xVar 10)) (xOp dIx (xVar 7) (xC (.int 1))))))) (xaCons (xVar 6) xaNil))) xaNil)))) (mIf (xT (xOp dEq (xVar 2) (xC (.str "cz")))) (mSet 9 (xLst (xDisp (xaCons (xTup (xaCons (xVar 5) (xaCons (xFn m__law_times_i (xaCons (xVar 6) (xaCons (xOp dMul (xOp dMul (xC (.int 2)) (xVar 8)) (xVar 10)) xaNil))) xaNil))) xaNil)))) (mSet 9 (xLst (xDisp (xaCons (xTup (xaCons (xOp dAdd (xOp dAdd (xVar 5) (xOp dMul (xOp dSub (xVar 10) (xVar 8)) (xOp dIx (xVar 7) (xC (.int 0))))) (xOp dMul (xOp dSub (xVar 8) (xVar 10)) (xOp dIx (xVar 7) (xC (.int 1))))) (xaCons (xVar 6) xaNil))) xaNil))))))))))))) (mFor (xSeq (xVar 9)) (bTup 2 (bCons (bName 11) (bCons (bName 12) bNil))) (mForget [11, 12] (mSetIx 4 (xTup (xaCons (xOp dAdd (xOp dIx (xIxOwn 4 (xVar 11)) (xC (.int 0))) (xOp dIx (xVar 12) (xC (.int 0)))) (xaCons (xOp dAdd (xOp dIx (xIxOwn 4 (xVar 11)) (xC (.int 1))) (xOp dIx (xVar 12) (xC (.int 1)))) xaNil))) (xVar 11))))))))) [some (nI n), some (.list (vL (2 ^ n) f)), some (.str "z"), some (.list [nI p]), some (.list (vL (2 ^ n) g)), some (nI x), none, none, none, none, none, none, none, none] = some (.nx [some (nI n), some (.list (vL (2 ^ n) f)), some (.str "z"), some (.list [nI p]), some (.list (vL (2 ^ n) (adds (f x) g (G n (.one .z p) x)))), none, none, none, none, none, none, none, none, none]) := by
  have gb := G_bd h (t := .one .z p) hp hx
  have t1 := vL_at f hx
  have t2 := masks_at h hp
  have t3 := bt_mk n p x
  have m0 : ¬ (mk n p : Int) = 0 := by have := mk_pos n p; omega
  have m1 := mk_pos n p
  have b1 : (bt n p x : Int) < 18446744073709551616 := by have := (f1b h hp hx).2; omega
  have b2 : -18446744073709551616 < (bt n p x : Int) := by omega
  have b3 : 2 * (bt n p x : Int) < 18446744073709551616 := by have := (f1b h hp hx).2; omega
  have b4 : -18446744073709551616 < 2 * (bt n p x : Int) := by omega
  have m2 := mk_lt h p
  have t4 := lo_i h hp hx
  have t5 := hi_i h hp hx
  have t7 := fl_i h hp hx
  have t6 : m__law_times_i [pD (f x), .int (2 * (bt n p x : Int))] = some (pD (ti (2 * bt n p x) (f x))) := by
    have := ltimes_i_spec (f x) (k := 2 * bt n p x) (by have := (f1b h hp hx).2; omega)
    rw [← this] <;> simp [nI]
  have t8 := (f1b h hp hx).2
  have I := linner (v := .list (vL (2 ^ n) f)) (nm := .str "z") (pl := .list [nI p]) (ix := nI x) (z := f x) (a := nI n) g (G n (.one .z p) x) gb
  rw [show (G n (.one .z p) x).map (g2 (f x)) = [.tuple [nI x, pD (ti (2 * bt n p x) (f x))]] from rfl] at I
  simp only [nI, Int.natCast_mul, Int.natCast_add] at *
  simp [t1, t2, xLc_ap, kLc, lcL, m0, m1, m2, b1, b2, b3, b4, t3, t4, t5, t6, t7, mFor_ap, kFor_ap, I]
theorem lturn_s {n : Nat} (h : n < 6) {p : Nat} (hp : p < n) (f g : Nat → C) {x : Nat} (hx : x < 2 ^ n) :
    (mForget [5, 6, 7, 8, 9, 10, 11, 12] (mSeq (mSet 6 (xOp dIx (xVar 1) (xVar 5))) (mSeq (mSet 7 (xLst (xLc (xSeq (xVar 3)) [13] (bName 13) xYes (xOp dIx (xLst (xDisp (xaCons (xC (.int 1)) (xaCons (xC (.int 2)) (xaCons (xC (.int 4)) (xaCons (xC (.int 8)) (xaCons (xC (.int 16)) (xaCons (xC (.int 32)) (xaCons (xC (.int 64)) xaNil))))))))) (xOp dSub (xOp dSub (xVar 0) (xC (.int 1))) (xVar 13)))))) (mSeq (mSet 8 (xOp dMod (xFn dInt (xaCons (xOp dDiv (xVar 5) (xOp dIx (xVar 7) (xC (.int 0)))) xaNil)) (xC (.int 2)))) (mSeq (mIf (xT (xOp dEq (xVar 2) (xC (.str "h")))) (mSet 9 (xLst (xDisp (xaCons (xTup (xaCons (xOp dSub (xVar 5) (xOp dMul (xVar 8) (xOp dIx (xVar 7) (xC (.int 0))))) (xaCons (xVar 6) xaNil))) (xaCons (xTup (xaCons (xOp dAdd (xOp dSub (xVar 5) (xOp dMul (xVar 8) (xOp dIx (xVar 7) (xC (.int 0))))) (xOp dIx (xVar 7) (xC (.int 0)))) (xaCons (xFn m__law_times_i (xaCons (xVar 6) (xaCons (xOp dMul (xC (.int 2)) (xVar 8)) xaNil))) xaNil))) xaNil))))) (mIf (xT (xOp dEq (xVar 2) (xC (.str "x")))) (mSet 9 (xLst (xDisp (xaCons (xTup (xaCons (xOp dSub (xOp dAdd (xVar 5) (xOp dIx (xVar 7) (xC (.int 0)))) (xOp dMul (xOp dMul (xC (.int 2)) (xVar 8)) (xOp dIx (xVar 7) (xC (.int 0))))) (xaCons (xVar 6) xaNil))) xaNil)))) (mIf (xT (xOp dEq (xVar 2) (xC (.str "y")))) (mSet 9 (xLst (xDisp (xaCons (xTup (xaCons (xOp dSub (xOp dAdd (xVar 5) (xOp dIx (xVar 7) (xC (.int 0)))) (xOp dMul (xOp dMul (xC (.int 2)) (xVar 8)) (xOp dIx (xVar 7) (xC (.int 0))))) (xaCons (xFn m__law_times_i (xaCons (xVar 6) (xaCons (xOp dIx (xLst (xDisp (xaCons (xC (.int 1)) (xaCons (xC (.int 3)) xaNil)))) (xVar 8)) xaNil))) xaNil))) xaNil)))) (mIf (xT (xOp dEq (xVar 2) (xC (.str "z")))) (mSet 9 (xLst (xDisp (xaCons (xTup (xaCons (xVar 5) (xaCons (xFn m__law_times_i (xaCons (xVar 6) (xaCons (xOp dMul (xC (.int 2)) (xVar 8)) xaNil))) xaNil))) xaNil)))) (mIf (xT (xOp dEq (xVar 2) (xC (.str "s")))) (mSet 9 (xLst (xDisp (xaCons (xTup (xaCons (xVar 5) (xaCons (xFn m__law_times_i (xaCons (xVar 6) (xaCons (xVar 8) xaNil))) xaNil))) xaNil)))) (mIf (xT (xOp dEq (xVar 2) (xC (.str "r")))) (mSet 9 (xLst (xDisp (xaCons (xTup (xaCons (xVar 5) (xaCons (xFn m__law_times_i (xaCons (xVar 6) (xaCons (xOp dMul (xC (.int 3)) (xVar 8)) xaNil))) xaNil))) xaNil)))) (mSeq (mSet 10 (xOp dMod (xFn dInt (xaCons (xOp dDiv (xVar 5) (xOp dIx (xVar 7) (xC (.int 1)))) xaNil)) (xC (.int 2)))) (mIf (xT (xOp dEq (xVar 2) (xC (.str "cx")))) (mSet 9 (xLst (xDisp (xaCons (xTup (xaCons (xOp dAdd (xVar 5) (xOp dMul (xVar 8) (xOp dSub (xOp dIx (xVar 7) (xC (.int 1))) (xOp dMul (xOp dMul (xC (.int 2)) (xVar 10)) (xOp dIx (xVar 7) (xC (.int 1))))))) (xaCons (xVar 6) xaNil))) xaNil)))) (mIf (xT (xOp dEq (xVar 2) (xC (.str "cz")))) (mSet 9 (xLst (xDisp (xaCons (xTup (xaCons (xVar 5) (xaCons (xFn m__law_times_i (xaCons (xVar 6) (xaCons (xOp dMul (xOp dMul (xC (.int 2)) (xVar 8)) (xVar 10)) xaNil))) xaNil))) xaNil)))) (mSet 9 (xLst (xDisp (xaCons (xTup (xaCons (xOp dAdd (xOp dAdd (xVar 5) (xOp dMul (xOp dSub (xVar 10) (xVar 8)) (xOp dIx (xVar 7) (xC (.int 0))))) (xOp dMul (xOp dSub (xVar 8) (xVar 10)) (xOp dIx (xVar 7) (xC (.int 1))))) (xaCons (xVar 6) xaNil))) xaNil))))))))))))) (mFor (xSeq (xVar 9)) (bTup 2 (bCons (bName 11) (bCons (bName 12) bNil))) (mForget [11, 12] (mSetIx 4 (xTup (xaCons (xOp dAdd (xOp dIx (xIxOwn 4 (xVar 11)) (xC (.int 0))) (xOp dIx (xVar 12) (xC (.int 0)))) (xaCons (xOp dAdd (xOp dIx (xIxOwn 4 (xVar 11)) (xC (.int 1))) (xOp dIx (xVar 12) (xC (.int 1)))) xaNil))) (xVar 11))))))))) [some (nI n), some (.list (vL (2 ^ n) f)), some (.str "s"), some (.list [nI p]), some (.list (vL (2 ^ n) g)), some (nI x), none, none, none, none, none, none, none, none] = some (.nx [some (nI n), some (.list (vL (2 ^ n) f)), some (.str "s"), some (.list [nI p]), some (.list (vL (2 ^ n) (adds (f x) g (G n (.one .s p) x)))), none, none, none, none, none, none, none, none, none]) := by
  have gb := G_bd h (t := .one .s p) hp hx
  have t1 := vL_at f hx
  have t2 := masks_at h hp
  have t3 := bt_mk n p x
  have m0 : ¬ (mk n p : Int) = 0 := by have := mk_pos n p; omega
  have m1 := mk_pos n p
  have b1 : (bt n p x : Int) < 18446744073709551616 := by have := (f1b h hp hx).2; omega
  have b2 : -18446744073709551616 < (bt n p x : Int) := by omega
  have b3 : 2 * (bt n p x : Int) < 18446744073709551616 := by have := (f1b h hp hx).2; omega
  have b4 : -18446744073709551616 < 2 * (bt n p x : Int) := by omega
  have m2 := mk_lt h p
  have t4 := lo_i h hp hx
  have t5 := hi_i h hp hx
  have t7 := fl_i h hp hx
  have t6 : m__law_times_i [pD (f x), .int ((bt n p x : Int))] = some (pD (ti (bt n p x) (f x))) := by
    have := ltimes_i_spec (f x) (k := bt n p x) (by have := (f1b h hp hx).2; omega)
    rw [← this] <;> simp [nI]
  have t8 := (f1b h hp hx).2
  have I := linner (v := .list (vL (2 ^ n) f)) (nm := .str "s") (pl := .list [nI p]) (ix := nI x) (z := f x) (a := nI n) g (G n (.one .s p) x) gb
  rw [show (G n (.one .s p) x).map (g2 (f x)) = [.tuple [nI x, pD (ti (bt n p x) (f x))]] from rfl] at I
  simp only [nI, Int.natCast_mul, Int.natCast_add] at *
  simp [t1, t2, xLc_ap, kLc, lcL, m0, m1, m2, b1, b2, b3, b4, t3, t4, t5, t6, t7, mFor_ap, kFor_ap, I]
theorem lturn_r {n : Nat} (h : n < 6) {p : Nat} (hp : p < n) (f g : Nat → C) {x : Nat} (hx : x < 2 ^ n) :
    (mForget [5, 6, 7, 8, 9, 10, 11, 12] (mSeq (mSet 6 (xOp dIx (xVar 1) (xVar 5))) (mSeq (mSet 7 (xLst (xLc (xSeq (xVar 3)) [13] (bName 13) xYes (xOp dIx (xLst (xDisp (xaCons (xC (.int 1)) (xaCons (xC (.int 2)) (xaCons (xC (.int 4)) (xaCons (xC (.int 8)) (xaCons (xC (.int 16)) (xaCons (xC (.int 32)) (xaCons (xC (.int 64)) xaNil))))))))) (xOp dSub (xOp dSub (xVar 0) (xC (.int 1))) (xVar 13)))))) (mSeq (mSet 8 (xOp dMod (xFn dInt (xaCons (xOp dDiv (xVar 5) (xOp dIx (xVar 7) (xC (.int 0)))) xaNil)) (xC (.int 2)))) (mSeq (mIf (xT (xOp dEq (xVar 2) (xC (.str "h")))) (mSet 9 (xLst (xDisp (xaCons (xTup (xaCons (xOp dSub (xVar 5) (xOp dMul (xVar 8) (xOp dIx (xVar 7) (xC (.int 0))))) (xaCons (xVar 6) xaNil))) (xaCons (xTup (xaCons (xOp dAdd (xOp dSub (xVar 5) (xOp dMul (xVar 8) (xOp dIx (xVar 7) (xC (.int 0))))) (xOp dIx (xVar 7) (xC (.int 0)))) (xaCons (xFn m__law_times_i (xaCons (xVar 6) (xaCons (xOp dMul (xC (.int 2)) (xVar 8)) xaNil))) xaNil))) xaNil))))) (mIf (xT (xOp dEq (xVar 2) (xC (.str "x")))) (mSet 9 (xLst (xDisp (xaCons (xTup (xaCons (xOp dSub (xOp dAdd (xVar 5) (xOp dIx (xVar 7) (xC (.int 0)))) (xOp dMul (xOp dMul (xC (.int 2)) (xVar 8)) (xOp dIx (xVar 7) (xC (.int 0))))) (xaCons (xVar 6) xaNil))) xaNil)))) (mIf (xT (xOp dEq (xVar 2) (xC (.str "y")))) (mSet 9 (xLst (xDisp (xaCons (xTup (xaCons (xOp dSub (xOp dAdd (xVar 5) (xOp dIx (xVar 7) (xC (.int 0)))) (xOp dMul (xOp dMul (xC (.int 2)) (xVar 8)) (xOp dIx (xVar 7) (xC (.int 0))))) (xaCons (xFn m__law_times_i (xaCons (xVar 6) (xaCons (xOp dIx (xLst (xDisp (xaCons (xC (.int 1)) (xaCons (xC (.int 3)) xaNil)))) (xVar 8)) xaNil))) xaNil))) xaNil)))) (mIf (xT (xOp dEq (xVar 2) (xC (.str "z")))) (mSet 9 (xLst (xDisp (xaCons (xTup (xaCons (xVar 5) (xaCons (xFn m__law_times_i (xaCons (xVar 6) (xaCons (xOp dMul (xC (.int 2)) (xVar 8)) xaNil))) xaNil))) xaNil)))) (mIf (xT (xOp dEq (xVar 2) (xC (.str "s")))) (mSet 9 (xLst (xDisp (xaCons (xTup (xaCons (xVar 5) (xaCons (xFn m__law_times_i (xaCons (xVar 6) (xaCons (xVar 8) xaNil))) xaNil))) xaNil)))) (mIf (xT (xOp dEq (xVar 2) (xC (.str "r")))) (mSet 9 (xLst (xDisp (xaCons (xTup (xaCons (xVar 5) (xaCons (xFn m__law_times_i (xaCons (xVar 6) (xaCons (xOp dMul (xC (.int 3)) (xVar 8)) xaNil))) xaNil))) xaNil)))) (mSeq (mSet 10 (xOp dMod (xFn dInt (xaCons (xOp dDiv (xVar 5) (xOp dIx (xVar 7) (xC (.int 1)))) xaNil)) (xC (.int 2)))) (mIf (xT (xOp dEq (xVar 2) (xC (.str "cx")))) (mSet 9 (xLst (xDisp (xaCons (xTup (xaCons (xOp dAdd (xVar 5) (xOp dMul (xVar 8) (xOp dSub (xOp dIx (xVar 7) (xC (.int 1))) (xOp dMul (xOp dMul (xC (.int 2)) (xVar 10)) (xOp dIx (xVar 7) (xC (.int 1))))))) (xaCons (xVar 6) xaNil))) xaNil)))) (mIf (xT (xOp dEq (xVar 2) (xC (.str "cz")))) (mSet 9 (xLst (xDisp (xaCons (xTup (xaCons (xVar 5) (xaCons (xFn m__law_times_i (xaCons (xVar 6) (xaCons (xOp dMul (xOp dMul (xC (.int 2)) (xVar 8)) (xVar 10)) xaNil))) xaNil))) xaNil)))) (mSet 9 (xLst (xDisp (xaCons (xTup (xaCons (xOp dAdd (xOp dAdd (xVar 5) (xOp dMul (xOp dSub (xVar 10) (xVar 8)) (xOp dIx (xVar 7) (xC (.int 0))))) (xOp dMul (xOp dSub (xVar 8) (xVar 10)) (xOp dIx (xVar 7) (xC (.int 1))))) (xaCons (xVar 6) xaNil))) xaNil))))))))))))) (mFor (xSeq (xVar 9)) (bTup 2 (bCons (bName 11) (bCons (bName 12) bNil))) (mForget [11, 12] (mSetIx 4 (xTup (xaCons (xOp dAdd (xOp dIx (xIxOwn 4 (xVar 11)) (xC (.int 0))) (xOp dIx (xVar 12) (xC (.int 0)))) (xaCons (xOp dAdd (xOp dIx (xIxOwn 4 (xVar 11)) (xC (.int 1))) (xOp dIx (xVar 12) (xC (.int 1)))) xaNil))) (xVar 11))))))))) [some (nI n), some (.list (vL (2 ^ n) f)), some (.str "r"), some (.list [nI p]), some (.list (vL (2 ^ n) g)), some (nI x), none, none, none, none, none, none, none, none] = some (.nx [some (nI n), some (.list (vL (2 ^ n) f)), some (.str "r"), some (.list [nI p]), some (.list (vL (2 ^ n) (adds (f x) g (G n (.one .r p) x)))), none, none, none, none, none, none, none, none, none]) := by
  have gb := G_bd h (t := .one .r p) hp hx
  have t1 := vL_at f hx
  have t2 := masks_at h hp
  have t3 := bt_mk n p x
  have m0 : ¬ (mk n p : Int) = 0 := by have := mk_pos n p; omega
  have m1 := mk_pos n p
  have b1 : (bt n p x : Int) < 18446744073709551616 := by have := (f1b h hp hx).2; omega
  have b2 : -18446744073709551616 < (bt n p x : Int) := by omega
  have b3 : 2 * (bt n p x : Int) < 18446744073709551616 := by have := (f1b h hp hx).2; omega
  have b4 : -18446744073709551616 < 2 * (bt n p x : Int) := by omega
  have m2 := mk_lt h p
  have t4 := lo_i h hp hx
  have t5 := hi_i h hp hx
  have t7 := fl_i h hp hx
  have t6 : m__law_times_i [pD (f x), .int (3 * (bt n p x : Int))] = some (pD (ti (3 * bt n p x) (f x))) := by
    have := ltimes_i_spec (f x) (k := 3 * bt n p x) (by have := (f1b h hp hx).2; omega)
    rw [← this] <;> simp [nI]
  have t8 := (f1b h hp hx).2
  have I := linner (v := .list (vL (2 ^ n) f)) (nm := .str "r") (pl := .list [nI p]) (ix := nI x) (z := f x) (a := nI n) g (G n (.one .r p) x) gb
  rw [show (G n (.one .r p) x).map (g2 (f x)) = [.tuple [nI x, pD (ti (3 * bt n p x) (f x))]] from rfl] at I
  simp only [nI, Int.natCast_mul, Int.natCast_add] at *
  simp [t1, t2, xLc_ap, kLc, lcL, m0, m1, m2, b1, b2, b3, b4, t3, t4, t5, t6, t7, mFor_ap, kFor_ap, I]
theorem lturn_cx {n : Nat} (h : n < 6) {a b : Nat} (ha : a < n) (hb : b < n) (hab : a ≠ b) (f g : Nat → C) {x : Nat} (hx : x < 2 ^ n) :
    (mForget [5, 6, 7, 8, 9, 10, 11, 12] (mSeq (mSet 6 (xOp dIx (xVar 1) (xVar 5))) (mSeq (mSet 7 (xLst (xLc (xSeq (xVar 3)) [13] (bName 13) xYes (xOp dIx (xLst (xDisp (xaCons (xC (.int 1)) (xaCons (xC (.int 2)) (xaCons (xC (.int 4)) (xaCons (xC (.int 8)) (xaCons (xC (.int 16)) (xaCons (xC (.int 32)) (xaCons (xC (.int 64)) xaNil))))))))) (xOp dSub (xOp dSub (xVar 0) (xC (.int 1))) (xVar 13)))))) (mSeq (mSet 8 (xOp dMod (xFn dInt (xaCons (xOp dDiv (xVar 5) (xOp dIx (xVar 7) (xC (.int 0)))) xaNil)) (xC (.int 2)))) (mSeq (mIf (xT (xOp dEq (xVar 2) (xC (.str "h")))) (mSet 9 (xLst (xDisp (xaCons (xTup (xaCons (xOp dSub (xVar 5) (xOp dMul (xVar 8) (xOp dIx (xVar 7) (xC (.int 0))))) (xaCons (xVar 6) xaNil))) (xaCons (xTup (xaCons (xOp dAdd (xOp dSub (xVar 5) (xOp dMul (xVar 8) (xOp dIx (xVar 7) (xC (.int 0))))) (xOp dIx (xVar 7) (xC (.int 0)))) (xaCons (xFn m__law_times_i (xaCons (xVar 6) (xaCons (xOp dMul (xC (.int 2)) (xVar 8)) xaNil))) xaNil))) xaNil))))) (mIf (xT (xOp dEq (xVar 2) (xC (.str "x")))) (mSet 9 (xLst (xDisp (xaCons (xTup (xaCons (xOp dSub (xOp dAdd (xVar 5) (xOp dIx (xVar 7) (xC (.int 0)))) (xOp dMul (xOp dMul (xC (.int 2)) (xVar 8)) (xOp dIx (xVar 7) (xC (.int 0))))) (xaCons (xVar 6) xaNil))) xaNil)))) (mIf (xT (xOp dEq (xVar 2) (xC (.str "y")))) (mSet 9 (xLst (xDisp (xaCons (xTup (xaCons (xOp dSub (xOp dAdd (xVar 5) (xOp dIx (xVar 7) (xC (.int 0)))) (xOp dMul (xOp dMul (xC (.int 2)) (xVar 8)) (xOp dIx (xVar 7) (xC (.int 0))))) (xaCons (xFn m__law_times_i (xaCons (xVar 6) (xaCons (xOp dIx (xLst (xDisp (xaCons (xC (.int 1)) (xaCons (xC (.int 3)) xaNil)))) (xVar 8)) xaNil))) xaNil))) xaNil)))) (mIf (xT (xOp dEq (xVar 2) (xC (.str "z")))) (mSet 9 (xLst (xDisp (xaCons (xTup (xaCons (xVar 5) (xaCons (xFn m__law_times_i (xaCons (xVar 6) (xaCons (xOp dMul (xC (.int 2)) (xVar 8)) xaNil))) xaNil))) xaNil)))) (mIf (xT (xOp dEq (xVar 2) (xC (.str "s")))) (mSet 9 (xLst (xDisp (xaCons (xTup (xaCons (xVar 5) (xaCons (xFn m__law_times_i (xaCons (xVar 6) (xaCons (xVar 8) xaNil))) xaNil))) xaNil)))) (mIf (xT (xOp dEq (xVar 2) (xC (.str "r")))) (mSet 9 (xLst (xDisp (xaCons (xTup (xaCons (xVar 5) (xaCons (xFn m__law_times_i (xaCons (xVar 6) (xaCons (xOp dMul (xC (.int 3)) (xVar 8)) xaNil))) xaNil))) xaNil)))) (mSeq (mSet 10 (xOp dMod (xFn dInt (xaCons (xOp dDiv (xVar 5) (xOp dIx (xVar 7) (xC (.int 1)))) xaNil)) (xC (.int 2)))) (mIf (xT (xOp dEq (xVar 2) (xC (.str "cx")))) (mSet 9 (xLst (xDisp (xaCons (xTup (xaCons (xOp dAdd (xVar 5) (xOp dMul (xVar 8) (xOp dSub (xOp dIx (xVar 7) (xC (.int 1))) (xOp dMul (xOp dMul (xC (.int 2)) (xVar 10)) (xOp dIx (xVar 7) (xC (.int 1))))))) (xaCons (xVar 6) xaNil))) xaNil)))) (mIf (xT (xOp dEq (xVar 2) (xC (.str "cz")))) (mSet 9 (xLst (xDisp (xaCons (xTup (xaCons (xVar 5) (xaCons (xFn m__law_times_i (xaCons (xVar 6) (xaCons (xOp dMul (xOp dMul (xC (.int 2)) (xVar 8)) (xVar 10)) xaNil))) xaNil))) xaNil)))) (mSet 9 (xLst (xDisp (xaCons (xTup (xaCons (xOp dAdd (xOp dAdd (xVar 5) (xOp dMul (xOp dSub (xVar 10) (xVar 8)) (xOp dIx (xVar 7) (xC (.int 0))))) (xOp dMul (xOp dSub (xVar 8) (xVar 10)) (xOp dIx (xVar 7) (xC (.int 1))))) (xaCons (xVar 6) xaNil))) xaNil))))))))))))) (mFor (xSeq (xVar 9)) (bTup 2 (bCons (bName 11) (bCons (bName 12) bNil))) (mForget [11, 12] (mSetIx 4 (xTup (xaCons (xOp dAdd (xOp dIx (xIxOwn 4 (xVar 11)) (xC (.int 0))) (xOp dIx (xVar 12) (xC (.int 0)))) (xaCons (xOp dAdd (xOp dIx (xIxOwn 4 (xVar 11)) (xC (.int 1))) (xOp dIx (xVar 12) (xC (.int 1)))) xaNil))) (xVar 11))))))))) [some (nI n), some (.list (vL (2 ^ n) f)), some (.str "cx"), some (.list [nI a, nI b]), some (.list (vL (2 ^ n) g)), some (nI x), none, none, none, none, none, none, none, none] = some (.nx [some (nI n), some (.list (vL (2 ^ n) f)), some (.str "cx"), some (.list [nI a, nI b]), some (.list (vL (2 ^ n) (adds (f x) g (G n (.two .cx a b) x)))), none, none, none, none, none, none, none, none, none]) := by
  have gb := G_bd h (t := .two .cx a b) ⟨ha, hb, hab⟩ hx
  have t1 := vL_at f hx
  have t2 := masks_at h ha
  have s2 := masks_at h hb
  have t3 := bt_mk n a x
  have s3 := bt_mk n b x
  have m1 := mk_pos n a
  have m2 := mk_lt h a
  have m3 := mk_pos n b
  have m4 := mk_lt h b
  have t7 := fl_i h ha hx
  have s7 := fl_i h hb hx
  have z1 := (f2 h ha hb hab hx).1
  have u7 := fl_i h hb (f1 h ha hx).1
  have t8 := (f1b h ha hx).2
  have s8 := (f1b h hb hx).2
  have t6 := ltimes_i_spec (f x) (k := 0) (by omega)
  have t9 := ltimes_i_spec (f x) (k := 2) (by omega)
  have I := linner (v := .list (vL (2 ^ n) f)) (nm := .str "cx") (pl := .list [nI a, nI b]) (ix := nI x) (z := f x) (a := nI n) g (G n (.two .cx a b) x) gb
  rw [show (G n (.two .cx a b) x).map (g2 (f x)) = [.tuple [nI (if bt n a x = 0 then x else fl n b x), pD (f x)]] from rfl] at I
  rw [z1] at u7
  simp only [nI] at *
  rcases t8 with t8 | t8 <;> rcases s8 with s8 | s8 <;> simp only [t8, s8] at * <;> simp at t3 s3 t7 s7 u7 I t6 t9 <;> simp [t1, t2, s2, xLc_ap, kLc, lcL, m1, m2, m3, m4, t3, s3, t6, t9, mFor_ap, kFor_ap] <;> first
    | simp [I]
    | (simp [s7, I]; done)
    | (rw [show (x : Int) + ((mk n b : Int) - 2 * (mk n b : Int)) = (fl n b x : Int) by omega]; simp [I]; done)
    | (rw [show (x : Int) + (mk n a : Int) + -(mk n b : Int) = (fl n b (fl n a x) : Int) by omega]; simp [I]; done)
    | (rw [show (x : Int) + -(mk n a : Int) + (mk n b : Int) = (fl n b (fl n a x) : Int) by omega]; simp [I]; done)
theorem lturn_cz {n : Nat} (h : n < 6) {a b : Nat} (ha : a < n) (hb : b < n) (hab : a ≠ b) (f g : Nat → C) {x : Nat} (hx : x < 2 ^ n) :
    (mForget [5, 6, 7, 8, 9, 10, 11, 12] (mSeq (mSet 6 (xOp dIx (xVar 1) (xVar 5))) (mSeq (mSet 7 (xLst (xLc (xSeq (xVar 3)) [13] (bName 13) xYes (xOp dIx (xLst (xDisp (xaCons (xC (.int 1)) (xaCons (xC (.int 2)) (xaCons (xC (.int 4)) (xaCons (xC (.int 8)) (xaCons (xC (.int 16)) (xaCons (xC (.int 32)) (xaCons (xC (.int 64)) xaNil))))))))) (xOp dSub (xOp dSub (xVar 0) (xC (.int 1))) (xVar 13)))))) (mSeq (mSet 8 (xOp dMod (xFn dInt (xaCons (xOp dDiv (xVar 5) (xOp dIx (xVar 7) (xC (.int 0)))) xaNil)) (xC (.int 2)))) (mSeq (mIf (xT (xOp dEq (xVar 2) (xC (.str "h")))) (mSet 9 (xLst (xDisp (xaCons (xTup (xaCons (xOp dSub (xVar 5) (xOp dMul (xVar 8) (xOp dIx (xVar 7) (xC (.int 0))))) (xaCons (xVar 6) xaNil))) (xaCons (xTup (xaCons (xOp dAdd (xOp dSub (xVar 5) (xOp dMul (xVar 8) (xOp dIx (xVar 7) (xC (.int 0))))) (xOp dIx (xVar 7) (xC (.int 0)))) (xaCons (xFn m__law_times_i (xaCons (xVar 6) (xaCons (xOp dMul (xC (.int 2)) (xVar 8)) xaNil))) xaNil))) xaNil))))) (mIf (xT (xOp dEq (xVar 2) (xC (.str "x")))) (mSet 9 (xLst (xDisp (xaCons (xTup (xaCons (xOp dSub (xOp dAdd (xVar 5) (xOp dIx (xVar 7) (xC (.int 0)))) (xOp dMul (xOp dMul (xC (.int 2)) (xVar 8)) (xOp dIx (xVar 7) (xC (.int 0))))) (xaCons (xVar 6) xaNil))) xaNil)))) (mIf (xT (xOp dEq (xVar 2) (xC (.str "y")))) (mSet 9 (xLst (xDisp (xaCons (xTup (xaCons (xOp dSub (xOp dAdd (xVar 5) (xOp dIx (xVar 7) (xC (.int 0)))) (xOp dMul (xOp dMul (xC (.int 2)) (xVar 8)) (xOp dIx (xVar 7) (xC (.int 0))))) (xaCons (xFn m__law_times_i (xaCons (xVar 6) (xaCons (xOp dIx (xLst (xDisp (xaCons (xC (.int 1)) (xaCons (xC (.int 3)) xaNil)))) (xVar 8)) xaNil))) xaNil))) xaNil)))) (mIf (xT (xOp dEq (xVar 2) (xC (.str "z")))) (mSet 9 (xLst (xDisp (xaCons (xTup (xaCons (xVar 5) (xaCons (xFn m__law_times_i (xaCons (xVar 6) (xaCons (xOp dMul (xC (.int 2)) (xVar 8)) xaNil))) xaNil))) xaNil)))) (mIf (xT (xOp dEq (xVar 2) (xC (.str "s")))) (mSet 9 (xLst (xDisp (xaCons (xTup (xaCons (xVar 5) (xaCons (xFn m__law_times_i (xaCons (xVar 6) (xaCons (xVar 8) xaNil))) xaNil))) xaNil)))) (mIf (xT (xOp dEq (xVar 2) (xC (.str "r")))) (mSet 9 (xLst (xDisp (xaCons (xTup (xaCons (xVar 5) (xaCons (xFn m__law_times_i (xaCons (xVar 6) (xaCons (xOp dMul (xC (.int 3)) (xVar 8)) xaNil))) xaNil))) xaNil)))) (mSeq (mSet 10 (xOp dMod (xFn dInt (xaCons (xOp dDiv (xVar 5) (xOp dIx (xVar 7) (xC (.int 1)))) xaNil)) (xC (.int 2)))) (mIf (xT (xOp dEq (xVar 2) (xC (.str "cx")))) (mSet 9 (xLst (xDisp (xaCons (xTup (xaCons (xOp dAdd (xVar 5) (xOp dMul (xVar 8) (xOp dSub (xOp dIx (xVar 7) (xC (.int 1))) (xOp dMul (xOp dMul (xC (.int 2)) (xVar 10)) (xOp dIx (xVar 7) (xC (.int 1))))))) (xaCons (xVar 6) xaNil))) xaNil)))) (mIf (xT (xOp dEq (xVar 2) (xC (.str "cz")))) (mSet 9 (xLst (xDisp (xaCons (xTup (xaCons (xVar 5) (xaCons (xFn m__law_times_i (xaCons (xVar 6) (xaCons (xOp dMul (xOp dMul (xC (.int 2)) (xVar 8)) (xVar 10)) xaNil))) xaNil))) xaNil)))) (mSet 9 (xLst (xDisp (xaCons (xTup (xaCons (xOp dAdd (xOp dAdd (xVar 5) (xOp dMul (xOp dSub (xVar 10) (xVar 8)) (xOp dIx (xVar 7) (xC (.int 0))))) (xOp dMul (xOp dSub (xVar 8) (xVar 10)) (xOp dIx (xVar 7) (xC (.int 1))))) (xaCons (xVar 6) xaNil))) xaNil))))))))))))) (mFor (xSeq (xVar 9)) (bTup 2 (bCons (bName 11) (bCons (bName 12) bNil))) (mForget [11, 12] (mSetIx 4 (xTup (xaCons (xOp dAdd (xOp dIx (xIxOwn 4 (xVar 11)) (xC (.int 0))) (xOp dIx (xVar 12) (xC (.int 0)))) (xaCons (xOp dAdd (xOp dIx (xIxOwn 4 (xVar 11)) (xC (.int 1))) (xOp dIx (xVar 12) (xC (.int 1)))) xaNil))) (xVar 11))))))))) [some (nI n), some (.list (vL (2 ^ n) f)), some (.str "cz"), some (.list [nI a, nI b]), some (.list (vL (2 ^ n) g)), some (nI x), none, none, none, none, none, none, none, none] = some (.nx [some (nI n), some (.list (vL (2 ^ n) f)), some (.str "cz"), some (.list [nI a, nI b]), some (.list (vL (2 ^ n) (adds (f x) g (G n (.two .cz a b) x)))), none, none, none, none, none, none, none, none, none]) := by
  have gb := G_bd h (t := .two .cz a b) ⟨ha, hb, hab⟩ hx
  have t1 := vL_at f hx
  have t2 := masks_at h ha
  have s2 := masks_at h hb
  have t3 := bt_mk n a x
  have s3 := bt_mk n b x
  have m1 := mk_pos n a
  have m2 := mk_lt h a
  have m3 := mk_pos n b
  have m4 := mk_lt h b
  have t7 := fl_i h ha hx
  have s7 := fl_i h hb hx
  have z1 := (f2 h ha hb hab hx).1
  have u7 := fl_i h hb (f1 h ha hx).1
  have t8 := (f1b h ha hx).2
  have s8 := (f1b h hb hx).2
  have t6 := ltimes_i_spec (f x) (k := 0) (by omega)
  have t9 := ltimes_i_spec (f x) (k := 2) (by omega)
  have I := linner (v := .list (vL (2 ^ n) f)) (nm := .str "cz") (pl := .list [nI a, nI b]) (ix := nI x) (z := f x) (a := nI n) g (G n (.two .cz a b) x) gb
  rw [show (G n (.two .cz a b) x).map (g2 (f x)) = [.tuple [nI x, pD (ti (2 * bt n a x * bt n b x) (f x))]] from rfl] at I
  rw [z1] at u7
  simp only [nI] at *
  rcases t8 with t8 | t8 <;> rcases s8 with s8 | s8 <;> simp only [t8, s8] at * <;> simp at t3 s3 t7 s7 u7 I t6 t9 <;> simp [t1, t2, s2, xLc_ap, kLc, lcL, m1, m2, m3, m4, t3, s3, t6, t9, mFor_ap, kFor_ap] <;> first
    | simp [I]
    | (simp [s7, I]; done)
    | (rw [show (x : Int) + ((mk n b : Int) - 2 * (mk n b : Int)) = (fl n b x : Int) by omega]; simp [I]; done)
    | (rw [show (x : Int) + (mk n a : Int) + -(mk n b : Int) = (fl n b (fl n a x) : Int) by omega]; simp [I]; done)
    | (rw [show (x : Int) + -(mk n a : Int) + (mk n b : Int) = (fl n b (fl n a x) : Int) by omega]; simp [I]; done)
theorem lturn_sw {n : Nat} (h : n < 6) {a b : Nat} (ha : a < n) (hb : b < n) (hab : a ≠ b) (f g : Nat → C) {x : Nat} (hx : x < 2 ^ n) :
    (mForget [5, 6, 7, 8, 9, 10, 11, 12] (mSeq (mSet 6 (xOp dIx (xVar 1) (xVar 5))) (mSeq (mSet 7 (xLst (xLc (xSeq (xVar 3)) [13] (bName 13) xYes (xOp dIx (xLst (xDisp (xaCons (xC (.int 1)) (xaCons (xC (.int 2)) (xaCons (xC (.int 4)) (xaCons (xC (.int 8)) (xaCons (xC (.int 16)) (xaCons (xC (.int 32)) (xaCons (xC (.int 64)) xaNil))))))))) (xOp dSub (xOp dSub (xVar 0) (xC (.int 1))) (xVar 13)))))) (mSeq (mSet 8 (xOp dMod (xFn dInt (xaCons (xOp dDiv (xVar 5) (xOp dIx (xVar 7) (xC (.int 0)))) xaNil)) (xC (.int 2)))) (mSeq (mIf (xT (xOp dEq (xVar 2) (xC (.str "h")))) (mSet 9 (xLst (xDisp (xaCons (xTup (xaCons (xOp dSub (xVar 5) (xOp dMul (xVar 8) (xOp dIx (xVar 7) (xC (.int 0))))) (xaCons (xVar 6) xaNil))) (xaCons (xTup (xaCons (xOp dAdd (xOp dSub (xVar 5) (xOp dMul (xVar 8) (xOp dIx (xVar 7) (xC (.int 0))))) (xOp dIx (xVar 7) (xC (.int 0)))) (xaCons (xFn m__law_times_i (xaCons (xVar 6) (xaCons (xOp dMul (xC (.int 2)) (xVar 8)) xaNil))) xaNil))) xaNil))))) (mIf (xT (xOp dEq (xVar 2) (xC (.str "x")))) (mSet 9 (xLst (xDisp (xaCons (xTup (xaCons (xOp dSub (xOp dAdd (xVar 5) (xOp dIx (xVar 7) (xC (.int 0)))) (xOp dMul (xOp dMul (xC (.int 2)) (xVar 8)) (xOp dIx (xVar 7) (xC (.int 0))))) (xaCons (xVar 6) xaNil))) xaNil)))) (mIf (xT (xOp dEq (xVar 2) (xC (.str "y")))) (mSet 9 (xLst (xDisp (xaCons (xTup (xaCons (xOp dSub (xOp dAdd (xVar 5) (xOp dIx (xVar 7) (xC (.int 0)))) (xOp dMul (xOp dMul (xC (.int 2)) (xVar 8)) (xOp dIx (xVar 7) (xC (.int 0))))) (xaCons (xFn m__law_times_i (xaCons (xVar 6) (xaCons (xOp dIx (xLst (xDisp (xaCons (xC (.int 1)) (xaCons (xC (.int 3)) xaNil)))) (xVar 8)) xaNil))) xaNil))) xaNil)))) (mIf (xT (xOp dEq (xVar 2) (xC (.str "z")))) (mSet 9 (xLst (xDisp (xaCons (xTup (xaCons (xVar 5) (xaCons (xFn m__law_times_i (xaCons (xVar 6) (xaCons (xOp dMul (xC (.int 2)) (xVar 8)) xaNil))) xaNil))) xaNil)))) (mIf (xT (xOp dEq (xVar 2) (xC (.str "s")))) (mSet 9 (xLst (xDisp (xaCons (xTup (xaCons (xVar 5) (xaCons (xFn m__law_times_i (xaCons (xVar 6) (xaCons (xVar 8) xaNil))) xaNil))) xaNil)))) (mIf (xT (xOp dEq (xVar 2) (xC (.str "r")))) (mSet 9 (xLst (xDisp (xaCons (xTup (xaCons (xVar 5) (xaCons (xFn m__law_times_i (xaCons (xVar 6) (xaCons (xOp dMul (xC (.int 3)) (xVar 8)) xaNil))) xaNil))) xaNil)))) (mSeq (mSet 10 (xOp dMod (xFn dInt (xaCons (xOp dDiv (xVar 5) (xOp dIx (xVar 7) (xC (.int 1)))) xaNil)) (xC (.int 2)))) (mIf (xT (xOp dEq (xVar 2) (xC (.str "cx")))) (mSet 9 (xLst (xDisp (xaCons (xTup (xaCons (xOp dAdd (xVar 5) (xOp dMul (xVar 8) (xOp dSub (xOp dIx (xVar 7) (xC (.int 1))) (xOp dMul (xOp dMul (xC (.int 2)) (xVar 10)) (xOp dIx (xVar 7) (xC (.int 1))))))) (xaCons (xVar 6) xaNil))) xaNil)))) (mIf (xT (xOp dEq (xVar 2) (xC (.str "cz")))) (mSet 9 (xLst (xDisp (xaCons (xTup (xaCons (xVar 5) (xaCons (xFn m__law_times_i (xaCons (xVar 6) (xaCons (xOp dMul (xOp dMul (xC (.int 2)) (xVar 8)) (xVar 10)) xaNil))) xaNil))) xaNil)))) (mSet 9 (xLst (xDisp (xaCons (xTup (xaCons (xOp dAdd (xOp dAdd (xVar 5) (xOp dMul (xOp dSub (xVar 10) (xVar 8)) (xOp dIx (xVar 7) (xC (.int 0))))) (xOp dMul (xOp dSub (xVar 8) (xVar 10)) (xOp dIx (xVar 7) (xC (.int 1))))) (xaCons (xVar 6) xaNil))) xaNil))))))))))))) (mFor (xSeq (xVar 9)) (bTup 2 (bCons (bName 11) (bCons (bName 12) bNil))) (mForget [11, 12] (mSetIx 4 (xTup (xaCons (xOp dAdd (xOp dIx (xIxOwn 4 (xVar 11)) (xC (.int 0))) (xOp dIx (xVar 12) (xC (.int 0)))) (xaCons (xOp dAdd (xOp dIx (xIxOwn 4 (xVar 11)) (xC (.int 1))) (xOp dIx (xVar 12) (xC (.int 1)))) xaNil))) (xVar 11))))))))) [some (nI n), some (.list (vL (2 ^ n) f)), some (.str "sw"), some (.list [nI a, nI b]), some (.list (vL (2 ^ n) g)), some (nI x), none, none, none, none, none, none, none, none] = some (.nx [some (nI n), some (.list (vL (2 ^ n) f)), some (.str "sw"), some (.list [nI a, nI b]), some (.list (vL (2 ^ n) (adds (f x) g (G n (.two .sw a b) x)))), none, none, none, none, none, none, none, none, none]) := by
  have gb := G_bd h (t := .two .sw a b) ⟨ha, hb, hab⟩ hx
  have t1 := vL_at f hx
  have t2 := masks_at h ha
  have s2 := masks_at h hb
  have t3 := bt_mk n a x
  have s3 := bt_mk n b x
  have m1 := mk_pos n a
  have m2 := mk_lt h a
  have m3 := mk_pos n b
  have m4 := mk_lt h b
  have t7 := fl_i h ha hx
  have s7 := fl_i h hb hx
  have z1 := (f2 h ha hb hab hx).1
  have u7 := fl_i h hb (f1 h ha hx).1
  have t8 := (f1b h ha hx).2
  have s8 := (f1b h hb hx).2
  have t6 := ltimes_i_spec (f x) (k := 0) (by omega)
  have t9 := ltimes_i_spec (f x) (k := 2) (by omega)
  have I := linner (v := .list (vL (2 ^ n) f)) (nm := .str "sw") (pl := .list [nI a, nI b]) (ix := nI x) (z := f x) (a := nI n) g (G n (.two .sw a b) x) gb
  rw [show (G n (.two .sw a b) x).map (g2 (f x)) = [.tuple [nI (if bt n a x = bt n b x then x else fl n b (fl n a x)), pD (f x)]] from rfl] at I
  rw [z1] at u7
  simp only [nI] at *
  rcases t8 with t8 | t8 <;> rcases s8 with s8 | s8 <;> simp only [t8, s8] at * <;> simp at t3 s3 t7 s7 u7 I t6 t9 <;> simp [t1, t2, s2, xLc_ap, kLc, lcL, m1, m2, m3, m4, t3, s3, t6, t9, mFor_ap, kFor_ap] <;> first
    | simp [I]
    | (simp [s7, I]; done)
    | (rw [show (x : Int) + ((mk n b : Int) - 2 * (mk n b : Int)) = (fl n b x : Int) by omega]; simp [I]; done)
    | (rw [show (x : Int) + (mk n a : Int) + -(mk n b : Int) = (fl n b (fl n a x) : Int) by omega]; simp [I]; done)
    | (rw [show (x : Int) + -(mk n a : Int) + (mk n b : Int) = (fl n b (fl n a x) : Int) by omega]; simp [I]; done)
end Tk00
end Z


namespace Z
open PySem PySem.Spec PyProof.Rows L2
namespace Tk00
theorem lturn_one {n : Nat} (h : n < 6) {t : Tu} (ht : okT n t) (f g : Nat → C) {x : Nat} (hx : x < 2 ^ n) :
    (mForget [5, 6, 7, 8, 9, 10, 11, 12] (mSeq (mSet 6 (xOp dIx (xVar 1) (xVar 5))) (mSeq (mSet 7 (xLst (xLc (xSeq (xVar 3)) [13] (bName 13) xYes (xOp dIx (xLst (xDisp (xaCons (xC (.int 1)) (xaCons (xC (.int 2)) (xaCons (xC (.int 4)) (xaCons (xC (.int 8)) (xaCons (xC (.int 16)) (xaCons (xC (.int 32)) (xaCons (xC (.int 64)) xaNil))))))))) (xOp dSub (xOp dSub (xVar 0) (xC (.int 1))) (xVar 13)))))) (mSeq (mSet 8 (xOp dMod (xFn dInt (xaCons (xOp dDiv (xVar 5) (xOp dIx (xVar 7) (xC (.int 0)))) xaNil)) (xC (.int 2)))) (mSeq (mIf (xT (xOp dEq (xVar 2) (xC (.str "h")))) (mSet 9 (xLst (xDisp (xaCons (xTup (xaCons (xOp dSub (xVar 5) (xOp dMul (xVar 8) (xOp dIx (xVar 7) (xC (.int 0))))) (xaCons (xVar 6) xaNil))) (xaCons (xTup (xaCons (xOp dAdd (xOp dSub (xVar 5) (xOp dMul (xVar 8) (xOp dIx (xVar 7) (xC (.int 0))))) (xOp dIx (xVar 7) (xC (.int 0)))) (xaCons (xFn m__law_times_i (xaCons (xVar 6) (xaCons (xOp dMul (xC (.int 2)) (xVar 8)) xaNil))) xaNil))) xaNil))))) (mIf (xT (xOp dEq (xVar 2) (xC (.str "x")))) (mSet 9 (xLst (xDisp (xaCons (xTup (xaCons (xOp dSub (xOp dAdd (xVar 5) (xOp dIx (xVar 7) (xC (.int 0)))) (xOp dMul (xOp dMul (xC (.int 2)) (xVar 8)) (xOp dIx (xVar 7) (xC (.int 0))))) (xaCons (xVar 6) xaNil))) xaNil)))) (mIf (xT (xOp dEq (xVar 2) (xC (.str "y")))) (mSet 9 (xLst (xDisp (xaCons (xTup (xaCons (xOp dSub (xOp dAdd (xVar 5) (xOp dIx (xVar 7) (xC (.int 0)))) (xOp dMul (xOp dMul (xC (.int 2)) (xVar 8)) (xOp dIx (xVar 7) (xC (.int 0))))) (xaCons (xFn m__law_times_i (xaCons (xVar 6) (xaCons (xOp dIx (xLst (xDisp (xaCons (xC (.int 1)) (xaCons (xC (.int 3)) xaNil)))) (xVar 8)) xaNil))) xaNil))) xaNil)))) (mIf (xT (xOp dEq (xVar 2) (xC (.str "z")))) (mSet 9 (xLst (xDisp (xaCons (xTup (xaCons (xVar 5) (xaCons (xFn m__law_times_i (xaCons (xVar 6) (xaCons (xOp dMul (xC (.int 2)) (xVar 8)) xaNil))) xaNil))) xaNil)))) (mIf (xT (xOp dEq (xVar 2) (xC (.str "s")))) (mSet 9 (xLst (xDisp (xaCons (xTup (xaCons (xVar 5) (xaCons (xFn m__law_times_i (xaCons (xVar 6) (xaCons (xVar 8) xaNil))) xaNil))) xaNil)))) (mIf (xT (xOp dEq (xVar 2) (xC (.str "r")))) (mSet 9 (xLst (xDisp (xaCons (xTup (xaCons (xVar 5) (xaCons (xFn m__law_times_i (xaCons (xVar 6) (xaCons (xOp dMul (xC (.int 3)) (xVar 8)) xaNil))) xaNil))) xaNil)))) (mSeq (mSet 10 (xOp dMod (xFn dInt (xaCons (xOp dDiv (xVar 5) (xOp dIx (xVar 7) (xC (.int 1)))) xaNil)) (xC (.int 2)))) (mIf (xT (xOp dEq (xVar 2) (xC (.str "cx")))) (mSet 9 (xLst (xDisp (xaCons (xTup (xaCons (xOp dAdd (xVar 5) (xOp dMul (xVar 8) (xOp dSub (xOp dIx (xVar 7) (xC (.int 1))) (xOp dMul (xOp dMul (xC (.int 2)) (xVar 10)) (xOp dIx (xVar 7) (xC (.int 1))))))) (xaCons (xVar 6) xaNil))) xaNil)))) (mIf (xT (xOp dEq (xVar 2) (xC (.str "cz")))) (mSet 9 (xLst (xDisp (xaCons (xTup (xaCons (xVar 5) (xaCons (xFn m__law_times_i (xaCons (xVar 6) (xaCons (xOp dMul (xOp dMul (xC (.int 2)) (xVar 8)) (xVar 10)) xaNil))) xaNil))) xaNil)))) (mSet 9 (xLst (xDisp (xaCons (xTup (xaCons (xOp dAdd (xOp dAdd (xVar 5) (xOp dMul (xOp dSub (xVar 10) (xVar 8)) (xOp dIx (xVar 7) (xC (.int 0))))) (xOp dMul (xOp dSub (xVar 8) (xVar 10)) (xOp dIx (xVar 7) (xC (.int 1))))) (xaCons (xVar 6) xaNil))) xaNil))))))))))))) (mFor (xSeq (xVar 9)) (bTup 2 (bCons (bName 11) (bCons (bName 12) bNil))) (mForget [11, 12] (mSetIx 4 (xTup (xaCons (xOp dAdd (xOp dIx (xIxOwn 4 (xVar 11)) (xC (.int 0))) (xOp dIx (xVar 12) (xC (.int 0)))) (xaCons (xOp dAdd (xOp dIx (xIxOwn 4 (xVar 11)) (xC (.int 1))) (xOp dIx (xVar 12) (xC (.int 1)))) xaNil))) (xVar 11))))))))) [some (nI n), some (.list (vL (2 ^ n) f)), some (.str (nmT t)), some (.list (plT t)), some (.list (vL (2 ^ n) g)), some (nI x), none, none, none, none, none, none, none, none] = some (.nx [some (nI n), some (.list (vL (2 ^ n) f)), some (.str (nmT t)), some (.list (plT t)), some (.list (vL (2 ^ n) (adds (f x) g (G n t x)))), none, none, none, none, none, none, none, none, none]) := by
  match t, ht with
  | .one .h p, ht => exact lturn_h h ht f g hx
  | .one .x p, ht => exact lturn_x h ht f g hx
  | .one .y p, ht => exact lturn_y h ht f g hx
  | .one .z p, ht => exact lturn_z h ht f g hx
  | .one .s p, ht => exact lturn_s h ht f g hx
  | .one .r p, ht => exact lturn_r h ht f g hx
  | .two .cx a b, ht => exact lturn_cx h ht.1 ht.2.1 ht.2.2 f g hx
  | .two .cz a b, ht => exact lturn_cz h ht.1 ht.2.1 ht.2.2 f g hx
  | .two .sw a b, ht => exact lturn_sw h ht.1 ht.2.1 ht.2.2 f g hx
theorem dRg_n (N : Nat) : dRg 0 (N : Int) = (List.range N).map nI := by
  rw [dRg_map]
  unfold rgI
  rw [List.map_map]
  have : ((N : Int) - 0).toNat = N := by omega
  rw [this]
  refine List.map_congr_left fun i _ => ?_
  simp
theorem lturn_spec {n : Nat} (h : n < 6) {t : Tu} (ht : okT n t) (f : Nat → C) : m__law_turn [nI n, .list (vL (2 ^ n) f), .str (nmT t), .list (plT t)] = some (vL (2 ^ n) (T n t f)) := by
  have L := for_st (b := (bName 5)) (m := (mForget [5, 6, 7, 8, 9, 10, 11, 12] (mSeq (mSet 6 (xOp dIx (xVar 1) (xVar 5))) (mSeq (mSet 7 (xLst (xLc (xSeq (xVar 3)) [13] (bName 13) xYes (xOp dIx (xLst (xDisp (xaCons (xC (.int 1)) (xaCons (xC (.int 2)) (xaCons (xC (.int 4)) (xaCons (xC (.int 8)) (xaCons (xC (.int 16)) (xaCons (xC (.int 32)) (xaCons (xC (.int 64)) xaNil))))))))) (xOp dSub (xOp dSub (xVar 0) (xC (.int 1))) (xVar 13)))))) (mSeq (mSet 8 (xOp dMod (xFn dInt (xaCons (xOp dDiv (xVar 5) (xOp dIx (xVar 7) (xC (.int 0)))) xaNil)) (xC (.int 2)))) (mSeq (mIf (xT (xOp dEq (xVar 2) (xC (.str "h")))) (mSet 9 (xLst (xDisp (xaCons (xTup (xaCons (xOp dSub (xVar 5) (xOp dMul (xVar 8) (xOp dIx (xVar 7) (xC (.int 0))))) (xaCons (xVar 6) xaNil))) (xaCons (xTup (xaCons (xOp dAdd (xOp dSub (xVar 5) (xOp dMul (xVar 8) (xOp dIx (xVar 7) (xC (.int 0))))) (xOp dIx (xVar 7) (xC (.int 0)))) (xaCons (xFn m__law_times_i (xaCons (xVar 6) (xaCons (xOp dMul (xC (.int 2)) (xVar 8)) xaNil))) xaNil))) xaNil))))) (mIf (xT (xOp dEq (xVar 2) (xC (.str "x")))) (mSet 9 (xLst (xDisp (xaCons (xTup (xaCons (xOp dSub (xOp dAdd (xVar 5) (xOp dIx (xVar 7) (xC (.int 0)))) (xOp dMul (xOp dMul (xC (.int 2)) (xVar 8)) (xOp dIx (xVar 7) (xC (.int 0))))) (xaCons (xVar 6) xaNil))) xaNil)))) (mIf (xT (xOp dEq (xVar 2) (xC (.str "y")))) (mSet 9 (xLst (xDisp (xaCons (xTup (xaCons (xOp dSub (xOp dAdd (xVar 5) (xOp dIx (xVar 7) (xC (.int 0)))) (xOp dMul (xOp dMul (xC (.int 2)) (xVar 8)) (xOp dIx (xVar 7) (xC (.int 0))))) (xaCons (xFn m__law_times_i (xaCons (xVar 6) (xaCons (xOp dIx (xLst (xDisp (xaCons (xC (.int 1)) (xaCons (xC (.int 3)) xaNil)))) (xVar 8)) xaNil))) xaNil))) xaNil)))) (mIf (xT (xOp dEq (xVar 2) (xC (.str "z")))) (mSet 9 (xLst (xDisp (xaCons (xTup (xaCons (xVar 5) (xaCons (xFn m__law_times_i (xaCons (xVar 6) (xaCons (xOp dMul (xC (.int 2)) (xVar 8)) xaNil))) xaNil))) xaNil)))) (mIf (xT (xOp dEq (xVar 2) (xC (.str "s")))) (mSet 9 (xLst (xDisp (xaCons (xTup (xaCons (xVar 5) (xaCons (xFn m__law_times_i (xaCons (xVar 6) (xaCons (xVar 8) xaNil))) xaNil))) xaNil)))) (mIf (xT (xOp dEq (xVar 2) (xC (.str "r")))) (mSet 9 (xLst (xDisp (xaCons (xTup (xaCons (xVar 5) (xaCons (xFn m__law_times_i (xaCons (xVar 6) (xaCons (xOp dMul (xC (.int 3)) (xVar 8)) xaNil))) xaNil))) xaNil)))) (mSeq (mSet 10 (xOp dMod (xFn dInt (xaCons (xOp dDiv (xVar 5) (xOp dIx (xVar 7) (xC (.int 1)))) xaNil)) (xC (.int 2)))) (mIf (xT (xOp dEq (xVar 2) (xC (.str "cx")))) (mSet 9 (xLst (xDisp (xaCons (xTup (xaCons (xOp dAdd (xVar 5) (xOp dMul (xVar 8) (xOp dSub (xOp dIx (xVar 7) (xC (.int 1))) (xOp dMul (xOp dMul (xC (.int 2)) (xVar 10)) (xOp dIx (xVar 7) (xC (.int 1))))))) (xaCons (xVar 6) xaNil))) xaNil)))) (mIf (xT (xOp dEq (xVar 2) (xC (.str "cz")))) (mSet 9 (xLst (xDisp (xaCons (xTup (xaCons (xVar 5) (xaCons (xFn m__law_times_i (xaCons (xVar 6) (xaCons (xOp dMul (xOp dMul (xC (.int 2)) (xVar 8)) (xVar 10)) xaNil))) xaNil))) xaNil)))) (mSet 9 (xLst (xDisp (xaCons (xTup (xaCons (xOp dAdd (xOp dAdd (xVar 5) (xOp dMul (xOp dSub (xVar 10) (xVar 8)) (xOp dIx (xVar 7) (xC (.int 0))))) (xOp dMul (xOp dSub (xVar 8) (xVar 10)) (xOp dIx (xVar 7) (xC (.int 1))))) (xaCons (xVar 6) xaNil))) xaNil))))))))))))) (mFor (xSeq (xVar 9)) (bTup 2 (bCons (bName 11) (bCons (bName 12) bNil))) (mForget [11, 12] (mSetIx 4 (xTup (xaCons (xOp dAdd (xOp dIx (xIxOwn 4 (xVar 11)) (xC (.int 0))) (xOp dIx (xVar 12) (xC (.int 0)))) (xaCons (xOp dAdd (xOp dIx (xIxOwn 4 (xVar 11)) (xC (.int 1))) (xOp dIx (xVar 12) (xC (.int 1)))) xaNil))) (xVar 11)))))))))) nI (fun d => [some (nI n), some (.list (vL (2 ^ n) f)), some (.str (nmT t)), some (.list (plT t)), some (.list (vL (2 ^ n) (part n t f d.length))), none, none, none, none, none, none, none, none, none]) (List.range (2 ^ n)) fun d x r e => by
    obtain ⟨e1, e2⟩ := range_split e
    have e3 : d.length = x := by rw [e1, List.length_range]
    have g := lturn_one h ht f (part n t f d.length) e2
    refine ⟨_, rfl, ?_⟩
    rw [List.length_append, List.length_singleton, e3, part_s]
    rw [e3] at g
    exact g
  have Nn := N_le h
  rw [List.length_range, List.length_nil] at L
  have pt : vL (2 ^ n) (part n t f (2 ^ n)) = vL (2 ^ n) (T n t f) := vL_cg fun j hj => part_T h ht f hj
  rw [pt] at L
  have p0 : part n t f 0 = fun _ => (0, 0) := rfl
  rw [p0] at L
  have K := kLc_map (vs := [6]) (b := (bName 6)) (t := xYes) (e := (xTup (xaCons (xC (.int 0)) (xaCons (xC (.int 0)) xaNil)))) (fun j => pD (f j)) (fun _ => PyData.tuple [.int 0, .int 0]) (s := [some (nI n), some (.list (vL (2 ^ n) f)), some (.str (nmT t)), some (.list (plT t)), none, none, none, none, none, none, none, none, none, none]) (xs := List.range (2 ^ n)) (by rw [List.length_range]; omega) fun x hx => by
    refine ⟨_, rfl, ?_⟩
    simp
  have K2 : (List.range (2 ^ n)).map (fun _ => PyData.tuple [.int 0, .int 0]) = vL (2 ^ n) fun _ => (0, 0) := rfl
  rw [K2, ← show vL (2 ^ n) f = (List.range (2 ^ n)).map (fun j => pD (f j)) from rfl] at K
  have q1 : ((2 ^ n : Nat) : Int) ≤ 1000000 := by
    have : ((2 ^ n : Nat) : Int) ≤ ((32 : Nat) : Int) := Int.ofNat_le.mpr Nn
    generalize ((2 ^ n : Nat) : Int) = z at *
    omega
  have q2 : (-1000000 : Int) ≤ ((2 ^ n : Nat) : Int) := Int.le_trans (by decide) (Int.natCast_nonneg _)
  simp only [m__law_turn, fnL, mb__law_turn, startM, nI] at *
  simp at K
  simp [-Int.natCast_pow, K, xLc_ap, mFor_ap, kFor_ap, dRg_n, L, outL, q1, q2]
end Tk00
end Z


namespace Z
open PySem PySem.Spec PyProof.Rows L2
namespace Tk00
/-! ## small numbers -/
def Bd (b : Int) (z : C) : Prop := -b ≤ z.1 ∧ z.1 ≤ b ∧ -b ≤ z.2 ∧ z.2 ≤ b
theorem Bd.ti {b : Int} {z : C} (h : Bd b z) (k : Nat) : Bd b (ti k z) := by
  obtain ⟨h1, h2, h3, h4⟩ := h
  unfold Tk00.ti Bd
  split <;> (refine ⟨?_, ?_, ?_, ?_⟩ <;> (try simp only) <;> omega)
theorem Bd.ad {b c : Int} {x y : C} (h : Bd b x) (h' : Bd c y) : Bd (b + c) (ad x y) := by
  obtain ⟨h1, h2, h3, h4⟩ := h
  obtain ⟨g1, g2, g3, g4⟩ := h'
  unfold Tk00.ad Bd
  simp only
  omega
theorem Bd.mono {b c : Int} {z : C} (h : Bd b z) (hc : b ≤ c) : Bd c z := by
  obtain ⟨h1, h2, h3, h4⟩ := h
  unfold Bd
  omega
abbrev BdV (n : Nat) (b : Int) (f : Nat → C) : Prop := ∀ j, j < 2 ^ n → Bd b (f j)
theorem Bd.ev1 {b : Int} (hb : 0 ≤ b) {f : Nat → C} {x : Nat × Nat} (h : Bd b (f x.1)) : Bd (2 * b) (ev f [x]) := by
  have := h.ti x.2
  simp only [ev, ad_0]
  exact this.mono (by omega)
theorem Bd.ev2 {b : Int} {f : Nat → C} {x y : Nat × Nat} (h : Bd b (f x.1)) (h2 : Bd b (f y.1)) : Bd (2 * b) (ev f [x, y]) := by
  have := (h.ti x.2).ad (h2.ti y.2)
  simp only [ev, ad_0]
  exact this.mono (by omega)
theorem T_bd {n : Nat} (h : n < 6) {t : Tu} (ht : okT n t) {b : Int} (hb : 0 ≤ b) {f : Nat → C} (hf : BdV n b f) : BdV n (2 * b) (T n t f) := fun j hj => by
  have B := Rw_bd h ht hj
  have k1 : ∀ x, Rw n t j = [x] → Bd (2 * b) (T n t f j) := fun x e => by
    unfold T
    rw [e] at B ⊢
    exact Bd.ev1 hb (hf _ (B x List.mem_cons_self).1)
  have k2 : ∀ x y, Rw n t j = [x, y] → Bd (2 * b) (T n t f j) := fun x y e => by
    unfold T
    rw [e] at B ⊢
    exact Bd.ev2 (hf _ (B x List.mem_cons_self).1) (hf _ (B y (List.mem_cons_of_mem _ List.mem_cons_self)).1)
  match t with
  | .one .h p => exact k2 _ _ rfl
  | .one .x p => exact k1 _ rfl
  | .one .y p => exact k1 _ rfl
  | .one .z p => exact k1 _ rfl
  | .one .s p => exact k1 _ rfl
  | .one .r p => exact k1 _ rfl
  | .two .cx a b => exact k1 _ rfl
  | .two .cz a b => exact k1 _ rfl
  | .two .sw a b => exact k1 _ rfl
/-! ## size -/
theorem foldl_add : ∀ (xs : List Int) (a : Int), xs.foldl (· + ·) a = a + xs.sum
  | [], a => by simp
  | x :: r, a => by rw [List.foldl_cons, foldl_add r, List.sum_cons]; omega
theorem size_spec {n : Nat} (h : n < 6) {f : Nat → C} (hf : BdV n 1000 f) : m_size_of [.list (vL (2 ^ n) f)] = some (.int (sz n f)) := by
  have K := kLc_map (vs := [1, 2]) (b := (bTup 2 (bCons (bName 1) (bCons (bName 2) bNil)))) (t := xYes) (e := (xOp dAdd (xOp dMul (xVar 1) (xVar 1)) (xOp dMul (xVar 2) (xVar 2)))) (fun j => pD (f j)) (fun j => PyData.int (sq (f j))) (s := [some (.list (vL (2 ^ n) f)), none, none]) (xs := List.range (2 ^ n)) (by rw [List.length_range]; have := N_le h; omega) fun x hx => by
    obtain ⟨h1, h2, h3, h4⟩ := hf x (List.mem_range.mp hx)
    refine ⟨_, rfl, ?_⟩
    generalize f x = z at *
    obtain ⟨z1, z2⟩ := z
    simp only at h1 h2 h3 h4
    have c1 : -18446744073709551616 < z1 := by omega
    have c2 : z1 < 18446744073709551616 := by omega
    have c3 : -18446744073709551616 < z2 := by omega
    have c4 : z2 < 18446744073709551616 := by omega
    simp [sq, c1, c2, c3, c4]
  rw [← show vL (2 ^ n) f = (List.range (2 ^ n)).map (fun j => pD (f j)) from rfl] at K
  simp only [m_size_of, fnP, mb_size_of, startM] at *
  have e : asInts ((List.range (2 ^ n)).map fun j => PyData.int (sq (f j))) = some ((List.range (2 ^ n)).map fun j => sq (f j)) := by
    have := asInts_map ((List.range (2 ^ n)).map fun j => sq (f j))
    rwa [List.map_map] at this
  simp at K
  simp [K, xLc_ap, dSum, e, outP, sz]
theorem lsize_spec {n : Nat} (h : n < 6) {f : Nat → C} (hf : BdV n 1000 f) : m__law_size [.list (vL (2 ^ n) f)] = some (.int (sz n f)) := by
  have K := kLc_map (vs := [1]) (b := (bName 1)) (t := xYes) (e := (xOp dAdd (xOp dMul (xOp dIx (xVar 1) (xC (.int 0))) (xOp dIx (xVar 1) (xC (.int 0)))) (xOp dMul (xOp dIx (xVar 1) (xC (.int 1))) (xOp dIx (xVar 1) (xC (.int 1)))))) (fun j => pD (f j)) (fun j => PyData.int (sq (f j))) (s := [some (.list (vL (2 ^ n) f)), none]) (xs := List.range (2 ^ n)) (by rw [List.length_range]; have := N_le h; omega) fun x hx => by
    obtain ⟨h1, h2, h3, h4⟩ := hf x (List.mem_range.mp hx)
    refine ⟨_, rfl, ?_⟩
    generalize f x = z at *
    obtain ⟨z1, z2⟩ := z
    simp only at h1 h2 h3 h4
    have c1 : -18446744073709551616 < z1 := by omega
    have c2 : z1 < 18446744073709551616 := by omega
    have c3 : -18446744073709551616 < z2 := by omega
    have c4 : z2 < 18446744073709551616 := by omega
    simp [sq, c1, c2, c3, c4]
  rw [← show vL (2 ^ n) f = (List.range (2 ^ n)).map (fun j => pD (f j)) from rfl] at K
  simp only [m__law_size, fnP, mb__law_size, startM] at *
  have e : asInts ((List.range (2 ^ n)).map fun j => PyData.int (sq (f j))) = some ((List.range (2 ^ n)).map fun j => sq (f j)) := by
    have := asInts_map ((List.range (2 ^ n)).map fun j => sq (f j))
    rwa [List.map_map] at this
  simp at K
  simp [K, xLc_ap, dSum, e, outP, sz]
theorem vL_shaped {N : Nat} (f : Nat → C) : SeqAt.shaped (.list (vL N f)) = true := by
  have h1 : PyData.canLayAll0 (vL N f) = true := canLay_map (fun j => pD (f j)) _ fun x _ => by simp [PyData.canLay0, PyData.canLayAll0]
  have h2 : PyData.depthAll (vL N f) ≤ 1 := depth_map (fun j => pD (f j)) 1 _ fun x _ => by simp [PyData.depth, PyData.depthAll]
  simp [SeqAt.shaped, PyData.canLay0, PyData.depth, h1]
  omega
end Tk00
end Z


namespace Z
open PySem PySem.Spec PyProof.Rows L2
namespace Tk00
/-! ## letters as texts -/
def chS : L4 → String | .I => "I" | .X => "X" | .Y => "Y" | .Z => "Z"
def code : L4 → Nat | .I => 73 | .X => 88 | .Y => 89 | .Z => 90
abbrev lS (c : L4) : Str := Str.ofString (chS c)
theorem lS_code (c : L4) : (⟨#[code c]⟩ : Str) = lS c := by
  cases c <;> (apply tl_ext; rw [tl_os]; decide)
def wS (n : Nat) (w : Nat → L4) : Str := ⟨((List.range n).map fun k => code (w k)).toArray⟩
theorem wS_tl (n : Nat) (w : Nat → L4) : tl (wS n w) = (List.range n).map fun k => code (w k) := rfl
theorem wS_len (n : Nat) (w : Nat → L4) : (wS n w).length = n := by
  rw [tl_len, wS_tl]; simp
theorem wS_signs (n : Nat) (w : Nat → L4) : signsD (wS n w) = (List.range n).map fun k => .str (lS (w k)) := by
  unfold signsD
  show (((List.range n).map fun k => code (w k)).toArray.toList).map _ = _
  rw [List.map_map]
  exact List.map_congr_left fun k _ => by simp [lS_code]
theorem wS_at {n : Nat} (w : Nat → L4) (hn : n ≤ 1000000) {k : Nat} (h : k < n) : dIx (.str (wS n w)) (.int (k : Int)) = some (.str (lS (w k))) := by
  show (if (wS n w).length ≤ sizeLine then (atI (wS n w).cps.toList (k : Int)).map fun c => PyData.str ⟨#[c]⟩ else none) = _
  rw [wS_len, if_pos (show n ≤ sizeLine from Nat.le_trans hn (by decide)), atI_natq]
  show (((List.range n).map fun k => code (w k)).toArray.toList[k]?).map _ = _
  simp [h, lS_code]
theorem join_l : ∀ cs : List L4, tl (Str.join "" (cs.map lS)) = cs.map code := fun cs => by
  rw [join_empty, List.flatMap_map]
  induction cs with
  | nil => rfl
  | cons c r ih =>
    rw [List.flatMap_cons, ih, ← lS_code]; rfl
theorem wS_join (n : Nat) (w : Nat → L4) : Str.join "" ((List.range n).map fun k => lS (w k)) = wS n w := by
  apply tl_ext
  have := join_l ((List.range n).map w)
  rw [List.map_map, List.map_map] at this
  exact this
theorem join_D (n : Nat) (w : Nat → L4) (hn : n ≤ 1000) : dJoin (.str (Str.ofString "")) [.list ((List.range n).map fun k => .str (lS (w k)))] = some (.str (wS n w)) := by
  have e := dJoin_s (a := Str.ofString "") (xs := (List.range n).map fun k => lS (w k)) (by
    have h1 : ((List.range n).map fun k => (lS (w k)).length).sum = 1 * (List.range n).length := sum_len _ fun k _ => by rw [← lS_code]; rfl
    rw [List.map_map]
    show ((List.range n).map fun k => (lS (w k)).length).sum + _ ≤ _
    rw [h1]
    simp
    omega)
  rw [wS_join] at e
  rw [← e]
  simp [sL, List.map_map, Function.comp_def]
/-- two letters -/
def w2 (c d : L4) : Nat → L4 := fun k => if k = 0 then c else d
abbrev pS (c d : L4) : Str := wS 2 (w2 c d)
theorem pS_os (c d : L4) : pS c d = Str.ofString (chS c ++ chS d) := by
  cases c <;> cases d <;> (apply tl_ext; rw [tl_os]; decide)
@[simp] theorem dNe_os (a b : String) : dNe (.str (Str.ofString a)) (.str (Str.ofString b)) = some (.bool (!decide (a = b))) := by
  have := dEq_os a b
  unfold dEq at this
  unfold dNe
  split at this
  · rw [if_pos (by assumption)]
    simp only [Option.some.injEq, PyData.bool.injEq] at this
    rw [this]
  · cases this
end Tk00
end Z


namespace Z
open PySem PySem.Spec PyProof.Rows L2
namespace Tk00
theorem map_set {n p : Nat} (w : Nat → L4) (c : L4) : ((List.range n).map fun k => PyData.str (lS (w k))).set p (.str (lS c)) = (List.range n).map fun k => PyData.str (lS (wset w p c k)) := by
  apply List.ext_getElem?
  intro i
  rw [List.getElem?_set]
  by_cases e : p = i
  · subst e
    by_cases h : p < n <;> simp [h, wset]
  · have e' : ¬ i = p := fun h => e h.symm
    by_cases h : i < n <;> simp [h, wset, e, e']
theorem set1 {n p : Nat} (hn : n ≤ 1000) (hp : p < n) (w : Nat → L4) (c : L4) : m_with_letters [.str (wS n w), .list [nI p], .str (lS c)] = some (.str (wS n (wset w p c))) := by
  have e0 : lS c = wS 1 (fun _ => c) := by rw [← lS_code]; rfl
  have s1 := wS_signs 1 (fun _ => c)
  rw [← e0] at s1
  have s2 := wS_signs n w
  have l := wS_len n w
  have ix := ixN_n hp
  have j := join_D n (wset w p c) hn
  have m := map_set (n := n) (p := p) w c
  have r1 : List.range 1 = [0] := rfl
  rw [r1] at s1
  simp only [m_with_letters, fnP, mb_with_letters, startM, nI] at *
  simp at s1
  simp [s1, s2, l, mFor_ap, kFor_ap, forL_n, forL_c, show n ≤ 1000000 by omega, ix, m, j, outP]
theorem set2 {n a b : Nat} (hn : n ≤ 1000) (ha : a < n) (hb : b < n) (w : Nat → L4) (c d : L4) : m_with_letters [.str (wS n w), .list [nI a, nI b], .str (pS c d)] = some (.str (wS n (wset (wset w a c) b d))) := by
  have s1 := wS_signs 2 (w2 c d)
  have s2 := wS_signs n w
  have l := wS_len n w
  have ix := ixN_n ha
  have ix2 := ixN_n hb
  have j := join_D n (wset (wset w a c) b d) hn
  have m := map_set (n := n) (p := a) w c
  have m2 := map_set (n := n) (p := b) (wset w a c) d
  have r1 : List.range 2 = [0, 1] := rfl
  rw [r1] at s1
  simp only [m_with_letters, fnP, mb_with_letters, startM, nI] at *
  simp [w2] at s1
  simp [s1, s2, l, mFor_ap, kFor_ap, forL_n, forL_c, show n ≤ 1000000 by omega, ix, ix2, m, m2, j, outP]
theorem at1 {n p : Nat} (hn : n ≤ 1000) (hp : p < n) (w : Nat → L4) : m_letters_at [.str (wS n w), .list [nI p]] = some (.str (lS (w p))) := by
  have a := wS_at w (by omega) hp
  have e0 : lS (w p) = wS 1 (fun _ => w p) := by rw [← lS_code]; rfl
  have j := join_D 1 (fun _ => w p) (by omega)
  rw [← e0] at j
  have r1 : List.range 1 = [0] := rfl
  rw [r1] at j
  simp only [m_letters_at, fnP, mb_letters_at, startM, nI] at *
  simp at j
  simp [xLc_ap, kLc, lcL, a, j, outP]
theorem at2 {n a b : Nat} (hn : n ≤ 1000) (ha : a < n) (hb : b < n) (w : Nat → L4) : m_letters_at [.str (wS n w), .list [nI a, nI b]] = some (.str (pS (w a) (w b))) := by
  have a1 := wS_at w (by omega) ha
  have a2 := wS_at w (by omega) hb
  have j := join_D 2 (w2 (w a) (w b)) (by omega)
  have r1 : List.range 2 = [0, 1] := rfl
  rw [r1] at j
  simp only [m_letters_at, fnP, mb_letters_at, startM, nI] at *
  simp [w2] at j
  simp [xLc_ap, kLc, lcL, a1, a2, j, outP]
/-! ## products -/
def sp : L4 → L4 → Nat × L4
  | .I, d => (0, d)
  | c, .I => (0, c)
  | .X, .X => (0, .I)
  | .Y, .Y => (0, .I)
  | .Z, .Z => (0, .I)
  | .X, .Y => (1, .Z)
  | .Y, .Z => (1, .X)
  | .Z, .X => (1, .Y)
  | .Y, .X => (3, .Z)
  | .Z, .Y => (3, .X)
  | .X, .Z => (3, .Y)
theorem cvK_c (q : Str × Cv) (r : List (Str × Cv)) (z : Str) : cvK (q :: r) z = if q.1 = z then some (cvD q.2) else cvK r z := rfl
theorem cPLAIN : c_PLAIN = .str (lS .I) := rfl
theorem dAdd_k (a b : String) (c : String) (h : a ++ b = c) (h2 : c.length ≤ 1000) : dAdd (.str (Str.ofString a)) (.str (Str.ofString b)) = some (.str (Str.ofString c)) := by
  subst h
  rw [String.length_append] at h2
  exact dAdd_os a b (by omega)
theorem dAdd_ch (c d : L4) : dAdd (.str (lS c)) (.str (lS d)) = some (.str (Str.ofString (chS c ++ chS d))) := by
  cases c <;> cases d <;> exact dAdd_k _ _ _ rfl (by decide)
theorem sp_spec (c d : L4) : m_single_product [.str (lS c), .str (lS d)] = some (.tuple [nI (sp c d).1, .str (lS (sp c d).2)]) := by
  simp only [m_single_product, fnP, mb_single_product, startM, nI, cPLAIN, lS]
  have A := dAdd_ch c d
  simp only [lS] at A
  cases c <;> cases d <;> simp only [chS] at A <;> simp [chS, outP, A, dKey, d_PHASES, kv_PHASES, cvK_c, ofString_inj, sp, cvD, cvDs]
theorem lp_spec (a b c d : L4) : m_letter_product [.str (pS a b), .str (pS c d)] = some (.tuple [.int ((((sp a c).1 : Int) + ((sp b d).1 : Int)) % 4), .str (pS (sp a c).2 (sp b d).2)]) := by
  have s1 := wS_signs 2 (w2 a b)
  have s2 := wS_signs 2 (w2 c d)
  have r1 : List.range 2 = [0, 1] := rfl
  rw [r1] at s1 s2
  have j := join_D 2 (w2 (sp a c).2 (sp b d).2) (by omega)
  rw [r1] at j
  have p1 := sp_spec a c
  have p2 := sp_spec b d
  simp only [m_letter_product, fnP, mb_letter_product, startM, nI] at *
  simp [w2] at s1 s2 j
  simp [s1, s2, p1, p2, mFor_ap, kFor_ap, forL_n, forL_c, j, outP]
def fac : L4 → L4 → List (L4 × L4)
  | c, d => (if c = .X ∨ c = .Y then [(.X, .I)] else []) ++ (if c = .Z ∨ c = .Y then [(.Z, .I)] else []) ++ (if d = .X ∨ d = .Y then [(.I, .X)] else []) ++ (if d = .Z ∨ d = .Y then [(.I, .Z)] else [])
def ys (c d : L4) : Nat := (if c = .Y then 1 else 0) + (if d = .Y then 1 else 0)
theorem dIn_t2 (a b c : String) : dIn false (.str (Str.ofString a)) (.tuple [.str (Str.ofString b), .str (Str.ofString c)]) = some (.bool (decide (a = b ∨ a = c))) := by
  have := dIn_strs false (Str.ofString a) [Str.ofString b, Str.ofString c]
  simp only [List.mem_cons, ofString_inj, List.not_mem_nil, or_false] at this
  exact this
theorem parts_spec (c d : L4) : m_parts_of [.str (pS c d)] = some (.tuple [.list ((fac c d).map fun x => .str (pS x.1 x.2)), nI (ys c d)]) := by
  have s1 := wS_signs 2 (w2 c d)
  have r1 : List.range 2 = [0, 1] := rfl
  rw [r1] at s1
  have A := dAdd_ch .I .I
  have B := pS_os .I .I
  rw [← B] at A
  have w1 : ∀ c, m_with_letters [.str (wS 2 (w2 .I .I)), .list [.int 0], .str (lS c)] = some (.str (wS 2 (wset (w2 .I .I) 0 c))) := fun c => set1 (n := 2) (p := 0) (by omega) (by omega) (w2 .I .I) c
  have w3 : ∀ c, m_with_letters [.str (wS 2 (w2 .I .I)), .list [.int 1], .str (lS c)] = some (.str (wS 2 (wset (w2 .I .I) 1 c))) := fun c => set1 (n := 2) (p := 1) (by omega) (by omega) (w2 .I .I) c
  have e1 : ∀ c, wset (w2 .I .I) 0 c = w2 c .I := fun c => by
    funext k; unfold wset w2; split <;> rfl
  have e3 : ∀ c, wS 2 (wset (w2 .I .I) 1 c) = wS 2 (w2 .I c) := fun c => by
    apply tl_ext; rw [wS_tl, wS_tl, r1]; rfl
  have w1X := w1 .X
  have w1Z := w1 .Z
  have w3X := w3 .X
  have w3Z := w3 .Z
  rw [e1] at w1X w1Z
  rw [e3] at w3X w3Z
  simp only [m_parts_of, fnP, mb_parts_of, startM, nI, cPLAIN] at *
  simp [w2] at s1
  cases c <;> cases d <;> simp only [lS, chS] at * <;> simp [s1, dIn_t2, mFor_ap, kFor_ap, forL_n, forL_c, fac, ys, outP, A, w1X, w1Z, w3X, w3Z]
/-! ## what a turn leads letters to -/
def cd : S1 → Nat | .h => 104 | .s => 115 | .r => 114 | .x => 120 | .y => 121 | .z => 122
theorem size1x (k : S1) : m_turn_size [.str (nm1 k)] = some (.inl (.int 1)) := by
  have L : dLen [.str (Str.ofString (nm1 k))] = some (.int 1) := by
    simp only [dLen, len_os]
    cases k <;> rfl
  have I : dInS false (.str (Str.ofString (nm1 k))) c_ONE_WIRE = some (.bool true) := by
    have e1 : (Str.ofString (nm1 k)).cps.toList = [cd k] := by
      cases k <;> (show tl _ = _; rw [tl_os]; decide)
    have e2 : (Str.ofString "hsrxyz").cps.toList = [104, 115, 114, 120, 121, 122] := by
      show tl _ = _; rw [tl_os]; decide
    show dInS false (.str (Str.ofString (nm1 k))) (.str (Str.ofString "hsrxyz")) = _
    unfold dInS
    simp only [e1, e2]
    cases k <;> simp [cd]
  simp only [m_turn_size, fnX, mb_turn_size, startM]
  simp [L, I, outX]
theorem size2x (k : S2) : m_turn_size [.str (nm2 k)] = some (.inl (.int 2)) := by
  have L : dLen [.str (Str.ofString (nm2 k))] = some (.int 2) := by
    simp only [dLen, len_os]
    cases k <;> rfl
  have I : dIn false (.str (Str.ofString (nm2 k))) c_TWO_WIRES = some (.bool true) := by
    have := dIn_strs false (Str.ofString (nm2 k)) [Str.ofString "cx", Str.ofString "cz", Str.ofString "sw"]
    simp only [List.mem_cons, ofString_inj, List.not_mem_nil, or_false] at this
    have e : dIn false (.str (Str.ofString (nm2 k))) c_TWO_WIRES = dIn false (.str (Str.ofString (nm2 k))) (sL [Str.ofString "cx", Str.ofString "cz", Str.ofString "sw"]) := rfl
    rw [e, this]
    cases k <;> simp [nm2]
  simp only [m_turn_size, fnX, mb_turn_size, startM]
  simp [L, I, outX]
theorem okX_l {mf : List D → Option (D ⊕ Exn)} {ds : List D} {d : D} (h : mf ds = some (.inl d)) : okX mf ds = some d := by
  unfold okX; rw [h]; rfl
theorem size1 (k : S1) : okX m_turn_size [.str (nm1 k)] = some (.int 1) := okX_l (size1x k)
theorem size2 (k : S2) : okX m_turn_size [.str (nm2 k)] = some (.int 2) := okX_l (size2x k)
theorem back_spec1 (k : S1) : m_back_turn [.str (nm1 k)] = some (.str (nmT (bk (.one k 0)))) := by
  simp only [m_back_turn, fnP, mb_back_turn, startM]
  cases k <;> simp [nm1, outP, d_BACKS, kv_BACKS, cvK, ofString_inj, nmT, bk, cvD]
theorem back_spec2 (k : S2) : m_back_turn [.str (nm2 k)] = some (.str (nm2 k)) := by
  simp only [m_back_turn, fnP, mb_back_turn, startM]
  cases k <;> simp [nm2, outP, d_BACKS, kv_BACKS, cvK, ofString_inj, cvD]
end Tk00
end Z


namespace Z
open PySem PySem.Spec PyProof.Rows L2
namespace Tk00
/-! ## turned letters -/
theorem dAdd_nm1 (k : S1) (c : L4) : dAdd (.str (Str.ofString (nm1 k))) (.str (Str.ofString (chS c))) = some (.str (Str.ofString (nm1 k ++ chS c))) := by
  cases k <;> cases c <;> exact dAdd_k _ _ _ rfl (by decide)
theorem dAdd_nm2 (k : S2) (c d : L4) : dAdd (.str (Str.ofString (nm2 k))) (.str (pS c d)) = some (.str (Str.ofString (nm2 k ++ (chS c ++ chS d)))) := by
  rw [pS_os]
  cases k <;> cases c <;> cases d <;> exact dAdd_k _ _ _ rfl (by decide)
/-- the two signs of an entry: a letter and + or - -/
theorem sg_at0 (c : L4) (s : String) (h : s = "+" ∨ s = "-") : dIx (.str (Str.ofString (chS c ++ s))) (.int 0) = some (.str (lS c)) ∧ dIx (.str (Str.ofString (chS c ++ s))) (.int 1) = some (.str (Str.ofString s)) := by
  have l : (Str.ofString (chS c ++ s)).length ≤ sizeLine := by
    rw [len_os]
    rcases h with rfl | rfl <;> cases c <;> decide
  have q : (Str.ofString (chS c ++ s)).cps.toList = [code c, if s = "+" then 43 else 45] := by
    rcases h with rfl | rfl <;> cases c <;> (show tl _ = _; rw [tl_os]; decide)
  have k2 : (⟨#[if s = "+" then 43 else 45]⟩ : Str) = Str.ofString s := by
    rcases h with rfl | rfl <;> (apply tl_ext; rw [tl_os]; decide)
  constructor
  · simp only [dIx]
    rw [if_pos l, q]
    show some (PyData.str ⟨#[code c]⟩) = _
    rw [lS_code]
  · simp only [dIx]
    rw [if_pos l, q]
    show some (PyData.str ⟨#[if s = "+" then 43 else 45]⟩) = _
    rw [k2]

theorem tl1_spec (k : S1) (c : L4) : m_turned_letter [.str (Str.ofString (nm1 k)), .str (lS c)] = some (.tuple [.str (lS (t1 k c).1), nI (t1 k c).2]) := by
  have A := dAdd_nm1 k c
  have P := fun d => sg_at0 d "+" (.inl rfl)
  have M := fun d => sg_at0 d "-" (.inr rfl)
  have PX := P .X
  have PY := P .Y
  have PZ := P .Z
  have MX := M .X
  have MY := M .Y
  have MZ := M .Z
  simp only [m_turned_letter, fnP, mb_turned_letter, startM, nI, cPLAIN, lS] at *
  cases k <;> cases c <;> simp [chS, nm1] at A <;> simp [chS] at PX PY PZ MX MY MZ <;> simp [chS, nm1, A, outP, dKey, d_SINGLES, kv_SINGLES, cvK, ofString_inj, cvD, PX, PY, PZ, MX, MY, MZ, t1]
theorem pt_cxXI : dAdd (.str (Str.ofString "cx")) (.str (pS .X .I)) = some (.str (Str.ofString "cxXI")) ∧ dKey d_PARTS (.str (Str.ofString "cxXI")) = some (.str (pS .X .X)) := by
  refine ⟨dAdd_nm2 .cx .X .I, ?_⟩
  rw [pS_os]
  simp [dKey, d_PARTS, kv_PARTS, cvK, ofString_inj, cvD, chS]
theorem pt_cxZI : dAdd (.str (Str.ofString "cx")) (.str (pS .Z .I)) = some (.str (Str.ofString "cxZI")) ∧ dKey d_PARTS (.str (Str.ofString "cxZI")) = some (.str (pS .Z .I)) := by
  refine ⟨dAdd_nm2 .cx .Z .I, ?_⟩
  rw [pS_os]
  simp [dKey, d_PARTS, kv_PARTS, cvK, ofString_inj, cvD, chS]
theorem pt_cxIX : dAdd (.str (Str.ofString "cx")) (.str (pS .I .X)) = some (.str (Str.ofString "cxIX")) ∧ dKey d_PARTS (.str (Str.ofString "cxIX")) = some (.str (pS .I .X)) := by
  refine ⟨dAdd_nm2 .cx .I .X, ?_⟩
  rw [pS_os]
  simp [dKey, d_PARTS, kv_PARTS, cvK, ofString_inj, cvD, chS]
theorem pt_cxIZ : dAdd (.str (Str.ofString "cx")) (.str (pS .I .Z)) = some (.str (Str.ofString "cxIZ")) ∧ dKey d_PARTS (.str (Str.ofString "cxIZ")) = some (.str (pS .Z .Z)) := by
  refine ⟨dAdd_nm2 .cx .I .Z, ?_⟩
  rw [pS_os]
  simp [dKey, d_PARTS, kv_PARTS, cvK, ofString_inj, cvD, chS]
theorem pt_czXI : dAdd (.str (Str.ofString "cz")) (.str (pS .X .I)) = some (.str (Str.ofString "czXI")) ∧ dKey d_PARTS (.str (Str.ofString "czXI")) = some (.str (pS .X .Z)) := by
  refine ⟨dAdd_nm2 .cz .X .I, ?_⟩
  rw [pS_os]
  simp [dKey, d_PARTS, kv_PARTS, cvK, ofString_inj, cvD, chS]
theorem pt_czZI : dAdd (.str (Str.ofString "cz")) (.str (pS .Z .I)) = some (.str (Str.ofString "czZI")) ∧ dKey d_PARTS (.str (Str.ofString "czZI")) = some (.str (pS .Z .I)) := by
  refine ⟨dAdd_nm2 .cz .Z .I, ?_⟩
  rw [pS_os]
  simp [dKey, d_PARTS, kv_PARTS, cvK, ofString_inj, cvD, chS]
theorem pt_czIX : dAdd (.str (Str.ofString "cz")) (.str (pS .I .X)) = some (.str (Str.ofString "czIX")) ∧ dKey d_PARTS (.str (Str.ofString "czIX")) = some (.str (pS .Z .X)) := by
  refine ⟨dAdd_nm2 .cz .I .X, ?_⟩
  rw [pS_os]
  simp [dKey, d_PARTS, kv_PARTS, cvK, ofString_inj, cvD, chS]
theorem pt_czIZ : dAdd (.str (Str.ofString "cz")) (.str (pS .I .Z)) = some (.str (Str.ofString "czIZ")) ∧ dKey d_PARTS (.str (Str.ofString "czIZ")) = some (.str (pS .I .Z)) := by
  refine ⟨dAdd_nm2 .cz .I .Z, ?_⟩
  rw [pS_os]
  simp [dKey, d_PARTS, kv_PARTS, cvK, ofString_inj, cvD, chS]
theorem pt_swXI : dAdd (.str (Str.ofString "sw")) (.str (pS .X .I)) = some (.str (Str.ofString "swXI")) ∧ dKey d_PARTS (.str (Str.ofString "swXI")) = some (.str (pS .I .X)) := by
  refine ⟨dAdd_nm2 .sw .X .I, ?_⟩
  rw [pS_os]
  simp [dKey, d_PARTS, kv_PARTS, cvK, ofString_inj, cvD, chS]
theorem pt_swZI : dAdd (.str (Str.ofString "sw")) (.str (pS .Z .I)) = some (.str (Str.ofString "swZI")) ∧ dKey d_PARTS (.str (Str.ofString "swZI")) = some (.str (pS .I .Z)) := by
  refine ⟨dAdd_nm2 .sw .Z .I, ?_⟩
  rw [pS_os]
  simp [dKey, d_PARTS, kv_PARTS, cvK, ofString_inj, cvD, chS]
theorem pt_swIX : dAdd (.str (Str.ofString "sw")) (.str (pS .I .X)) = some (.str (Str.ofString "swIX")) ∧ dKey d_PARTS (.str (Str.ofString "swIX")) = some (.str (pS .X .I)) := by
  refine ⟨dAdd_nm2 .sw .I .X, ?_⟩
  rw [pS_os]
  simp [dKey, d_PARTS, kv_PARTS, cvK, ofString_inj, cvD, chS]
theorem pt_swIZ : dAdd (.str (Str.ofString "sw")) (.str (pS .I .Z)) = some (.str (Str.ofString "swIZ")) ∧ dKey d_PARTS (.str (Str.ofString "swIZ")) = some (.str (pS .Z .I)) := by
  refine ⟨dAdd_nm2 .sw .I .Z, ?_⟩
  rw [pS_os]
  simp [dKey, d_PARTS, kv_PARTS, cvK, ofString_inj, cvD, chS]
theorem dAdd_II : dAdd (.str (lS .I)) (.str (lS .I)) = some (.str (pS .I .I)) := by
  rw [dAdd_ch, pS_os]
theorem tp_cx (c d : L4) : m_turned_pair [.str (Str.ofString "cx"), .str (pS c d)] = some (.tuple [.str (pS (t2 .cx c d).1 (t2 .cx c d).2.1), nI (t2 .cx c d).2.2]) := by
  have P := parts_spec c d
  have I := dAdd_II
  have pXI := pt_cxXI
  have pZI := pt_cxZI
  have pIX := pt_cxIX
  have pIZ := pt_cxIZ
  simp only [m_turned_pair, fnP, mb_turned_pair, startM, nI, cPLAIN] at *
  cases c <;> cases d <;> simp [fac, ys] at P <;> simp [P, I, mFor_ap, kFor_ap, forL_n, forL_c, pXI, pZI, pIX, pIZ, lp_spec, sp, outP, t2]
theorem tp_cz (c d : L4) : m_turned_pair [.str (Str.ofString "cz"), .str (pS c d)] = some (.tuple [.str (pS (t2 .cz c d).1 (t2 .cz c d).2.1), nI (t2 .cz c d).2.2]) := by
  have P := parts_spec c d
  have I := dAdd_II
  have pXI := pt_czXI
  have pZI := pt_czZI
  have pIX := pt_czIX
  have pIZ := pt_czIZ
  simp only [m_turned_pair, fnP, mb_turned_pair, startM, nI, cPLAIN] at *
  cases c <;> cases d <;> simp [fac, ys] at P <;> simp [P, I, mFor_ap, kFor_ap, forL_n, forL_c, pXI, pZI, pIX, pIZ, lp_spec, sp, outP, t2]
theorem tp_sw (c d : L4) : m_turned_pair [.str (Str.ofString "sw"), .str (pS c d)] = some (.tuple [.str (pS (t2 .sw c d).1 (t2 .sw c d).2.1), nI (t2 .sw c d).2.2]) := by
  have P := parts_spec c d
  have I := dAdd_II
  have pXI := pt_swXI
  have pZI := pt_swZI
  have pIX := pt_swIX
  have pIZ := pt_swIZ
  simp only [m_turned_pair, fnP, mb_turned_pair, startM, nI, cPLAIN] at *
  cases c <;> cases d <;> simp [fac, ys] at P <;> simp [P, I, mFor_ap, kFor_ap, forL_n, forL_c, pXI, pZI, pIX, pIZ, lp_spec, sp, outP, t2]
theorem tp_spec (k : S2) (c d : L4) : m_turned_pair [.str (Str.ofString (nm2 k)), .str (pS c d)] = some (.tuple [.str (pS (t2 k c d).1 (t2 k c d).2.1), nI (t2 k c d).2.2]) := by
  cases k
  · exact tp_cx c d
  · exact tp_cz c d
  · exact tp_sw c d
theorem t1_lt (k : S1) (c : L4) : (t1 k c).2 < 2 := by cases k <;> cases c <;> decide
theorem t2_lt (k : S2) (c d : L4) : (t2 k c d).2.2 < 2 := by cases k <;> cases c <;> cases d <;> decide
theorem turned1_spec {n p s0 : Nat} (hn : n ≤ 1000) (hp : p < n) (h0 : s0 < 2) (k : S1) (w : Nat → L4) : m_turned [.str (nm1 k), .list [nI p], .tuple [.str (wS n w), nI s0]] = some (.tuple [.str (wS n (wset w p (t1 k (w p)).1)), nI ((s0 + (t1 k (w p)).2) % 2)]) := by
  have a := at1 hn hp w
  have b := tl1_spec k (w p)
  have c := set1 hn hp w (t1 k (w p)).1
  have s := size1 k
  simp only [m_turned, fnP, mb_turned, startM, nI] at *
  simp [a, b, c, s, outP]
theorem turned2_spec {n a b s0 : Nat} (hn : n ≤ 1000) (ha : a < n) (hb : b < n) (h0 : s0 < 2) (k : S2) (w : Nat → L4) : m_turned [.str (nm2 k), .list [nI a, nI b], .tuple [.str (wS n w), nI s0]] = some (.tuple [.str (wS n (wset (wset w a (t2 k (w a) (w b)).1) b (t2 k (w a) (w b)).2.1)), nI ((s0 + (t2 k (w a) (w b)).2.2) % 2)]) := by
  have a' := at2 hn ha hb w
  have b' := tp_spec k (w a) (w b)
  have c := set2 hn ha hb w (t2 k (w a) (w b)).1 (t2 k (w a) (w b)).2.1
  have s := size2 k
  simp only [m_turned, fnP, mb_turned, startM, nI] at *
  simp [a', b', c, s, outP]
end Tk00
end Z


namespace Z
open PySem PySem.Spec PyProof.Rows L2
namespace Tk00
/-! ## draws -/
inductive FeedOk : List D → Prop
  | mk (ns : List Int) (pos big st : Int) (h1 : 0 ≤ pos) (h2 : 0 ≤ big) (h3 : 0 ≤ st) (h4 : st < 2147483647) : FeedOk [.list (ns.map .int), .int pos, .int big, .int st]
theorem atI_map {ns : List Int} {i : Int} (h0 : 0 ≤ i) (h : i < ns.length) : ∃ v, atI (ns.map PyData.int) i = some (.int v) := by
  have hk : i.toNat < ns.length := by omega
  have e : i = ((i.toNat : Nat) : Int) := by omega
  exact ⟨ns[i.toNat], by
    have q : atI (ns.map PyData.int) ((i.toNat : Nat) : Int) = some (.int ns[i.toNat]) := atI_nat (by rw [List.getElem?_map, List.getElem?_eq_getElem hk] <;> rfl)
    rwa [← e] at q⟩
/-- the tail of a draw: no number is at hand -/
theorem mod_ok (a : Int) : 0 ≤ a % 2147483647 ∧ a % 2147483647 < 2147483647 := by omega
theorem draw_spec {fs : List D} (h : FeedOk fs) {n : Int} (h0 : 0 < n) (h1 : n < 1073741824) : ∃ r fs', m__law_draw fs [.int n] = some (.int r, fs') ∧ 0 ≤ r ∧ r < n ∧ FeedOk fs' := by
  obtain ⟨ns, pos, big, st, h2, h3, h4, h5⟩ := h
  unfold m__law_draw fnT mb__law_draw startM
  have c : ∀ a : Int, -18446744073709551616 < a % 2147483647 ∧ a % 2147483647 < 18446744073709551616 := fun a => by have := mod_ok a; omega
  by_cases hb : big = 0
  · by_cases hp : pos < ns.length
    · obtain ⟨v, hv⟩ := atI_map h2 hp
      have hw : ∃ w : Int, (if v < 0 then -v else v) = w ∧ 0 ≤ w := ⟨_, rfl, by split <;> omega⟩
      obtain ⟨w, ew, hw⟩ := hw
      by_cases hc : w ≥ 1000000000000000000
      · have hw' : 0 < w := by omega
        simp [hb, hp, hv, ew, hc, h0, h1, hw']
        exact ⟨_, _, rfl, Int.emod_nonneg _ (by omega), Int.emod_lt_of_pos _ h0, .mk ns _ _ _ (by omega) (Int.ediv_nonneg hw (by omega)) h4 h5⟩
      · simp [hb, hp, hv, ew, hc, c, h0]
        exact ⟨_, _, rfl, Int.emod_nonneg _ (by omega), Int.emod_lt_of_pos _ h0, .mk ns _ _ _ (by omega) (Int.le_refl _) (mod_ok _).1 (mod_ok _).2⟩
    · simp [hb, hp, c, h0]
      exact ⟨_, _, rfl, Int.emod_nonneg _ (by omega), Int.emod_lt_of_pos _ h0, .mk ns _ _ _ h2 (Int.le_refl _) (mod_ok _).1 (mod_ok _).2⟩
  · have hb' : 0 < big := by omega
    simp [hb, hb', h0, h1]
    exact ⟨_, _, rfl, Int.emod_nonneg _ (by omega), Int.emod_lt_of_pos _ h0, .mk ns _ _ _ h2 (Int.ediv_nonneg h3 (by omega)) h4 h5⟩
theorem feed_spec (ns : List Int) : ∃ fs, m__law_feed [.list (ns.map .int)] = some fs ∧ FeedOk fs := by
  refine ⟨_, ?_, .mk ns 0 0 1 (by omega) (by omega) (by omega) (by omega)⟩
  simp [m__law_feed, fnL, mb__law_feed, startM, outL]


/-! ## letters drawn -/
def l4 (r : Int) : L4 := if r = 0 then .I else if r = 1 then .X else if r = 2 then .Y else .Z
theorem ixyz {r : Int} (h : 0 ≤ r) (h2 : r < 4) : dIx (.str (Str.ofString "IXYZ")) (.int r) = some (.str (lS (l4 r))) := by
  have l : (Str.ofString "IXYZ").length ≤ sizeLine := by rw [len_os]; decide
  have q : (Str.ofString "IXYZ").cps.toList = [73, 88, 89, 90] := by
    show tl _ = _; rw [tl_os]; decide
  simp only [dIx]
  rw [if_pos l, q, ← lS_code]
  have : r = 0 ∨ r = 1 ∨ r = 2 ∨ r = 3 := by omega
  rcases this with rfl | rfl | rfl | rfl <;> rfl
theorem letters_drawn {n : Nat} (h : n ≤ 1000) {fs : List D} (hf : FeedOk fs) : ∃ (w : Nat → L4) (fs' : List D), m__law_letters fs [nI n] = some (.str (wS n w), fs') ∧ FeedOk fs' := by
  obtain ⟨ys, s', e, cs, fs', h1, h2, h3⟩ := kLc_each (vs := [2]) (b := (bName 2)) (t := xYes) (e := (xOp dIx (xC (.str "IXYZ")) (xCallT 0 m__law_draw (xaCons (xC (.int 4)) xaNil)))) nI (fun d acc s => ∃ (cs : Nat → L4) (fs' : List D), FeedOk fs' ∧ acc = (List.range d.length).map (fun k => PyData.str (lS (cs k))) ∧ s = [some (.list fs'), some (nI n), none]) (s := [some (.list fs), some (nI n), none]) (xs := List.range n) (by rw [List.length_range]; omega) ⟨fun _ => .I, fs, hf, rfl, rfl⟩ fun d x r e acc s hi => by
    obtain ⟨cs, f1, g1, g2, g3⟩ := hi
    subst g2 g3
    obtain ⟨r, f2, k1, k2, k3, k4⟩ := draw_spec g1 (n := 4) (by omega) (by omega)
    have k5 := ixyz k2 k3
    refine ⟨_, _, .str (lS (l4 r)), [some (.list f2), some (nI n), some (nI x)], rfl, rfl, ?_, fun k => if k = d.length then l4 r else cs k, f2, k4, ?_, rfl⟩
    · simp [k1, k5]
    · rw [List.length_append, List.length_singleton, List.range_succ, List.map_append]
      congr 1
      · exact List.map_congr_left fun k hk => by
          have := List.mem_range.mp hk
          simp only
          rw [if_neg (by omega)]
      · simp
  rw [List.length_range] at h2
  subst h2 h3
  refine ⟨cs, fs', ?_, h1⟩
  have J := join_D n cs h
  simp only [m__law_letters, fnT, mb__law_letters, startM, nI] at *
  simp [xLc_ap, dRg_n, e, J, outT, show (n : Int) ≤ 1000000 by omega, show (-1000000 : Int) ≤ n by omega]
theorem tw_nm (t : Tu) : (if nmT t = "h" then (1 : Int) else 0) + 1 = tw t := by
  match t with
  | .one .h p => rfl
  | .one .x p => rfl
  | .one .y p => rfl
  | .one .z p => rfl
  | .one .s p => rfl
  | .one .r p => rfl
  | .two .cx a b => rfl
  | .two .cz a b => rfl
  | .two .sw a b => rfl
theorem tw_bd (t : Tu) : 1 ≤ tw t ∧ tw t ≤ 2 := by
  rw [← tw_nm]; split <;> omega
theorem back_spec (t : Tu) : m_back_turn [.str (Str.ofString (nmT t))] = some (.str (Str.ofString (nmT (bk t)))) := by
  match t with
  | .one k p =>
    have := back_spec1 k
    cases k <;> exact this
  | .two k a b => exact back_spec2 k
theorem bk_ok {n : Nat} {t : Tu} (h : okT n t) : okT n (bk t) := by
  match t, h with
  | .one k p, h => cases k <;> exact h
  | .two k a b, h => exact h
theorem bk_pl (t : Tu) : plT (bk t) = plT t := by
  match t with
  | .one k p => cases k <;> rfl
  | .two k a b => rfl
/-- a word's letters led by a turn, and the sign -/
def tW (t : Tu) (w : Nat → L4) : Nat → L4 := match t with
  | .one k p => wset w p (t1 k (w p)).1
  | .two k a b => wset (wset w a (t2 k (w a) (w b)).1) b (t2 k (w a) (w b)).2.1
def tS (t : Tu) (w : Nat → L4) : Nat := match t with
  | .one k p => (t1 k (w p)).2
  | .two k a b => (t2 k (w a) (w b)).2.2
theorem tS_lt (t : Tu) (w : Nat → L4) : tS t w < 2 := by
  match t with
  | .one k p => exact t1_lt k (w p)
  | .two k a b => exact t2_lt k (w a) (w b)
theorem turned_spec {n : Nat} (hn : n ≤ 1000) {t : Tu} (ht : okT n t) (w : Nat → L4) {s0 : Nat} (h0 : s0 < 2) : m_turned [.str (nmT t), .list (plT t), .tuple [.str (wS n w), nI s0]] = some (.tuple [.str (wS n (tW t w)), nI ((s0 + tS t w) % 2)]) := by
  match t, ht with
  | .one k p, ht => exact turned1_spec hn ht h0 k w
  | .two k a b, ht => exact turned2_spec hn ht.1 ht.2.1 h0 k w
theorem tW_T {n : Nat} (h : n < 6) {t : Tu} (ht : okT n t) (w : Nat → L4) (f : Nat → C) : Eq2 n (T n t (lw n w f n)) (sg (tS t w) (lw n (tW t w) (T n t f) n)) := by
  match t, ht with
  | .one k p, ht =>
    have := word1 h ht k w f n (Nat.le_refl n)
    rwa [if_pos (show p < n from ht)] at this
  | .two k a b, ht => exact word2 h ht.1 ht.2.1 ht.2.2 k w f
/-- back again -/
theorem t1_back (k : S1) (c : L4) : (bk (.one k 0) = .one k 0 ∨ (k = .s ∧ bk (.one k 0) = .one .r 0) ∨ (k = .r ∧ bk (.one k 0) = .one .s 0)) := by cases k <;> simp [bk]
def bk1 : S1 → S1 | .s => .r | .r => .s | k => k
theorem bk1_bk (k : S1) (p : Nat) : bk (.one k p) = .one (bk1 k) p := by cases k <;> rfl
theorem t1_bk1 (k : S1) (c : L4) : (t1 (bk1 k) (t1 k c).1).1 = c ∧ ((t1 k c).2 + (t1 (bk1 k) (t1 k c).1).2) % 2 = 0 := by cases k <;> cases c <;> decide
theorem t2_t2 (k : S2) (c d : L4) : (t2 k (t2 k c d).1 (t2 k c d).2.1).1 = c ∧ (t2 k (t2 k c d).1 (t2 k c d).2.1).2.1 = d ∧ ((t2 k c d).2.2 + (t2 k (t2 k c d).1 (t2 k c d).2.1).2.2) % 2 = 0 := by cases k <;> cases c <;> cases d <;> decide
theorem tW_bk {n : Nat} {t : Tu} (ht : okT n t) (w : Nat → L4) : tW (bk t) (tW t w) = w ∧ (tS t w + tS (bk t) (tW t w)) % 2 = 0 := by
  match t, ht with
  | .one k p, ht =>
    rw [bk1_bk]
    obtain ⟨h1, h2⟩ := t1_bk1 k (w p)
    have e : tW (.one k p) w p = (t1 k (w p)).1 := by simp [tW, wset]
    constructor
    · funext q
      by_cases hq : q = p
      · subst hq
        show wset (tW (.one k q) w) q (t1 (bk1 k) (tW (.one k q) w q)).1 q = _
        rw [e]
        simp [wset, h1]
      · simp [tW, wset, hq]
    · show ((t1 k (w p)).2 + (t1 (bk1 k) (tW (.one k p) w p)).2) % 2 = 0
      rw [e]; exact h2
  | .two k a b, ht =>
    obtain ⟨ha, hb, hab⟩ := ht
    have eb : bk (.two k a b) = .two k a b := rfl
    rw [eb]
    obtain ⟨h1, h2, h3⟩ := t2_t2 k (w a) (w b)
    have e1 : tW (.two k a b) w a = (t2 k (w a) (w b)).1 := by simp [tW, wset, hab]
    have e2 : tW (.two k a b) w b = (t2 k (w a) (w b)).2.1 := by simp [tW, wset]
    constructor
    · funext q
      show wset (wset (tW (.two k a b) w) a (t2 k (tW (.two k a b) w a) (tW (.two k a b) w b)).1) b (t2 k (tW (.two k a b) w a) (tW (.two k a b) w b)).2.1 q = _
      rw [e1, e2, h1, h2]
      by_cases hq : q = b
      · subst hq; simp [wset]
      · by_cases hq2 : q = a
        · subst hq2; simp [wset, hq]
        · simp [wset, hq, hq2, tW]
    · show ((t2 k (w a) (w b)).2.2 + (t2 k (tW (.two k a b) w a) (tW (.two k a b) w b)).2.2) % 2 = 0
      rw [e1, e2]; exact h3
theorem sg_z (s : Nat) (hs : s < 2) (z : C) : ((z.1 - 2 * (s : Int) * z.1, z.2 - 2 * (s : Int) * z.2) : C) = if s = 0 then z else (-z.1, -z.2) := by
  have : s = 0 ∨ s = 1 := by omega
  rcases this with rfl | rfl
  · simp
  · refine Prod.ext ?_ ?_
    · show z.1 - 2 * ((1 : Nat) : Int) * z.1 = -z.1
      omega
    · show z.2 - 2 * ((1 : Nat) : Int) * z.2 = -z.2
      omega
end Tk00
end Z


namespace Z
open PySem PySem.Spec PyProof.Rows L2
namespace Tk00
/-! ## products of words -/
def wp (w v : Nat → L4) : Nat → L4 := fun k => (sp (w k) (v k)).2
def pw (w v : Nat → L4) : Nat → Nat
  | 0 => 0
  | m + 1 => pw w v m + (sp (w m) (v m)).1
def un (c d : L4) : Bool := decide (c ≠ d) && (decide (c ≠ .I) && decide (d ≠ .I))
def ul (w v : Nat → L4) : Nat → Nat
  | 0 => 0
  | m + 1 => ul w v m + if un (w m) (v m) = true then 1 else 0
theorem sp_cm (c d : L4) : (sp c d).2 = (sp d c).2 ∧ ((sp c d).1 + 2 * (if un c d = true then 1 else 0)) % 4 = (sp d c).1 % 4 ∧ (sp c d).1 % 2 = (if un c d = true then 1 else 0) := by cases c <;> cases d <;> decide
theorem wp_cm (w v : Nat → L4) : wp w v = wp v w := funext fun k => (sp_cm _ _).1
theorem pw_cm (w v : Nat → L4) : ∀ m, (pw w v m + 2 * ul w v m) % 4 = pw v w m % 4 ∧ pw w v m % 2 = ul w v m % 2
  | 0 => ⟨rfl, rfl⟩
  | m + 1 => by
    obtain ⟨h1, h2⟩ := pw_cm w v m
    obtain ⟨-, h3, h4⟩ := sp_cm (w m) (v m)
    unfold pw ul
    generalize (if un (w m) (v m) = true then 1 else 0) = u at *
    omega
theorem zz (xs : List Nat) (f g : Nat → D) : ((xs.map f).zip (xs.map g)).map (fun w => PyData.tuple [w.1, w.2]) = xs.map fun k => .tuple [f k, g k] := by
  induction xs with
  | nil => rfl
  | cons x r ih => simp only [List.map_cons, List.zip_cons_cons, ih]
theorem z0 : ((0 : Nat) : Int) = 0 := rfl
theorem lprod_spec {m : Nat} (hm : m ≤ 1000) (w v : Nat → L4) : m_letter_product [.str (wS m w), .str (wS m v)] = some (.tuple [nI (pw w v m % 4), .str (wS m (wp w v))]) := by
  have L := for_st (b := (bTup 2 (bCons (bName 4) (bCons (bName 5) bNil)))) (m := (mForget [4, 5, 6, 7] (mSeq (mAsg (xFn m_single_product (xaCons (xVar 4) (xaCons (xVar 5) xaNil))) (bTup 2 (bCons (bName 6) (bCons (bName 7) bNil)))) (mSeq (mAug dAddI 2 (xVar 6)) (mApp 3 (xVar 7)))))) (fun k => PyData.tuple [.str (lS (w k)), .str (lS (v k))]) (fun d => [some (.str (wS m w)), some (.str (wS m v)), some (nI (pw w v d.length)), some (.list ((List.range d.length).map fun k => .str (lS (wp w v k)))), none, none, none, none]) (List.range m) fun d x r e => by
    obtain ⟨e1, e2⟩ := range_split e
    have e3 : d.length = x := by rw [e1, List.length_range]
    rw [List.length_append, List.length_singleton, e3]
    refine ⟨_, rfl, ?_⟩
    have S := sp_spec (w x) (v x)
    simp only [nI] at *
    simp [S, List.range_succ, pw, wp, show x ≤ 1000000 by omega]
  rw [List.length_range, List.length_nil] at L
  have s1 := wS_signs m w
  have s2 := wS_signs m v
  have J := join_D m (wp w v) hm
  have z := zz (List.range m) (fun k => .str (lS (w k))) (fun k => .str (lS (v k)))
  simp only [m_letter_product, fnP, mb_letter_product, startM, nI, pw, List.range_zero, List.map_nil, z0] at *
  simp [s1, s2, z, mFor_ap, kFor_ap, L, J, outP, -List.map_map]
theorem ul_succ (w v : Nat → L4) (x : Nat) : (ul w v (x + 1) : Int) = if un (w x) (v x) = true then (ul w v x : Int) + 1 else (ul w v x : Int) := by
  have e : ul w v (x + 1) = ul w v x + if un (w x) (v x) = true then 1 else 0 := rfl
  rw [e]
  split <;> simp
theorem agree_spec {m : Nat} (hm : m ≤ 1000) (w v : Nat → L4) : m_do_agree [.str (wS m w), .str (wS m v)] = some (.bool (decide (ul w v m % 2 = 0))) := by
  have L := for_st (b := (bTup 2 (bCons (bName 3) (bCons (bName 4) bNil)))) (m := (mForget [3, 4] (mIf (xAnd (xT (xOp dNe (xVar 3) (xVar 4))) (xAnd (xT (xOp dNe (xVar 3) (xC c_PLAIN))) (xT (xOp dNe (xVar 4) (xC c_PLAIN))))) (mAug dAddI 2 (xC (.int 1))) mSkip))) (fun k => PyData.tuple [.str (lS (w k)), .str (lS (v k))]) (fun d => [some (.str (wS m w)), some (.str (wS m v)), some (nI (ul w v d.length)), none, none]) (List.range m) fun d x r e => by
    obtain ⟨e1, e2⟩ := range_split e
    have e3 : d.length = x := by rw [e1, List.length_range]
    rw [List.length_append, List.length_singleton, e3]
    refine ⟨_, rfl, ?_⟩
    simp only [nI, ul_succ, cPLAIN]
    generalize w x = c
    generalize v x = d'
    cases c <;> cases d' <;> simp [un, chS]
  rw [List.length_range, List.length_nil] at L
  have s1 := wS_signs m w
  have s2 := wS_signs m v
  have z := zz (List.range m) (fun k => .str (lS (w k))) (fun k => .str (lS (v k)))
  simp only [m_do_agree, fnP, mb_do_agree, startM, nI, ul, z0] at *
  simp [s1, s2, z, mFor_ap, kFor_ap, L, outP, -List.map_map]
  omega
theorem weight_spec {m : Nat} (hm : m ≤ 1000) (w : Nat → L4) : m_weight_of [.str (wS m w)] = some (nI ((List.range m).filter fun k => decide (w k ≠ .I)).length) := by
  have K := kLc_pure (vs := [1]) (b := (bName 1)) (t := (xT (xOp dNe (xVar 1) (xC c_PLAIN)))) (e := (xVar 1)) (fun k => PyData.str (lS (w k))) (fun k => decide (w k ≠ .I)) (fun k => PyData.str (lS (w k))) (s := [some (.str (wS m w)), none]) (xs := List.range m) (by rw [List.length_range]; omega) fun x hx => by
    refine ⟨_, rfl, ?_⟩
    simp only [cPLAIN]
    cases w x <;> simp [chS]
  have s1 := wS_signs m w
  unfold signsD at s1
  simp only [m_weight_of, fnP, mb_weight_of, startM, nI] at *
  simp at K
  simp [s1, xLc_ap, K, dLen, outP, -List.map_map]
end Tk00
end Z


namespace Z
open PySem PySem.Spec PyProof.Rows L2
namespace Tk00
theorem wS_push (k : Nat) (u : Nat → L4) (hk : k ≤ 1000) : dAdd (.str (wS k u)) (.str (lS (u k))) = some (.str (wS (k + 1) u)) := by
  rw [dAdd_s (by rw [wS_len, ← lS_code]; show k + 1 ≤ _; omega)]
  congr 2
  apply tl_ext
  rw [tl_app, wS_tl, wS_tl, List.range_succ, List.map_append, ← lS_code]
  rfl
theorem wS_0 (u : Nat → L4) : wS 0 u = Str.ofString "" := rfl
theorem pair_tl (c d : L4) : (Str.ofString (chS c ++ chS d)).cps.toList = [code c, code d] := by
  show tl _ = _
  rw [tl_os]
  cases c <;> cases d <;> decide
theorem code_inj {a b : L4} : code a = code b ↔ a = b := by cases a <;> cases b <;> decide
theorem inS_pair (neg : Bool) (a c d : L4) : dInS neg (.str (lS a)) (.str (Str.ofString (chS c ++ chS d))) = some (.bool (if neg then !decide (a = c ∨ a = d) else decide (a = c ∨ a = d))) := by
  have e : (lS a).cps.toList = [code a] := by rw [← lS_code]
  unfold dInS
  simp only [e, pair_tl, List.mem_cons, List.not_mem_nil, or_false, code_inj]
theorem rpl_pair (c d : L4) (h : c ≠ d) (h2 : c = .I ∨ d = .I) : dRpl "I" "" (.str (Str.ofString (chS c ++ chS d))) = some (.str (lS (sp c d).2)) := by
  have k : ∀ e : L4, e ≠ .I → rpl1 "I" "" (Str.ofString (chS .I ++ chS e)) = some (lS e) ∧ rpl1 "I" "" (Str.ofString (chS e ++ chS .I)) = some (lS e) := by
    intro e he
    cases e
    · exact absurd rfl he
    all_goals (constructor <;> decide +kernel)
  unfold dRpl
  rcases h2 with rfl | rfl
  · simp only
    rw [(k d (fun z => h z.symm)).1]
    cases d <;> rfl
  · simp only
    rw [(k c h).2]
    cases c <;> rfl
theorem dIn_t3 (a b c d : String) : dIn false (.str (Str.ofString a)) (.list [.str (Str.ofString b), .str (Str.ofString c), .str (Str.ofString d)]) = some (.bool (decide (a = b ∨ a = c ∨ a = d))) := by
  have := dIn_strs false (Str.ofString a) [Str.ofString b, Str.ofString c, Str.ofString d]
  simp only [List.mem_cons, ofString_inj, List.not_mem_nil, or_false] at this
  exact this
theorem xyz_tl : (Str.ofString "XYZ").cps.toList = [88, 89, 90] := by
  show tl _ = _
  rw [tl_os]
  decide
theorem oX : (⟨#[88]⟩ : Str) = lS .X := lS_code .X
theorem oY : (⟨#[89]⟩ : Str) = lS .Y := lS_code .Y
theorem oZ : (⟨#[90]⟩ : Str) = lS .Z := lS_code .Z
theorem third (c d : L4) (hc : c ≠ .I) (hd : d ≠ .I) (hcd : c ≠ d) (a0 a1 a2 a3 a4 a5 : Option D) (h5 : a5 = some (.str (Str.ofString (chS c ++ chS d)))) : kLc [6] (bName 6) (xT (xOp (dInS true) (xVar 6) (xVar 5))) (xVar 6) [.str (lS .X), .str (lS .Y), .str (lS .Z)] [a0, a1, a2, a3, a4, a5, none] = some ([.str (lS (sp c d).2)], [a0, a1, a2, a3, a4, a5, none]) := by
  subst h5
  have I := inS_pair true
  cases c <;> cases d <;> first | exact absurd rfl hc | exact absurd rfl hd | exact absurd rfl hcd | simp [kLc, lcL, I, sp]
theorem lawprod_spec {m : Nat} (hm : m ≤ 1000) (w v : Nat → L4) : m__law_product [.str (wS m w), .str (wS m v)] = some (.tuple [nI (pw w v m % 4), .str (wS m (wp w v))]) := by
  have L := for_st (b := (bName 4)) (m := (mForget [4, 5] (mSeq (mSet 5 (xOp dAdd (xOp dIx (xVar 0) (xVar 4)) (xOp dIx (xVar 1) (xVar 4)))) (mSeq (mIf (xT (xOp (dIn false) (xVar 5) (xLst (xDisp (xaCons (xC (.str "XY")) (xaCons (xC (.str "YZ")) (xaCons (xC (.str "ZX")) xaNil))))))) (mAug dAddI 2 (xC (.int 1))) mSkip) (mSeq (mIf (xT (xOp (dIn false) (xVar 5) (xLst (xDisp (xaCons (xC (.str "YX")) (xaCons (xC (.str "ZY")) (xaCons (xC (.str "XZ")) xaNil))))))) (mAug dAddI 2 (xC (.int 3))) mSkip) (mIf (xT (xOp dEq (xOp dIx (xVar 0) (xVar 4)) (xOp dIx (xVar 1) (xVar 4)))) (mSet 3 (xOp dAdd (xVar 3) (xC (.str "I")))) (mIf (xT (xOp (dInS false) (xC (.str "I")) (xVar 5))) (mSet 3 (xOp dAdd (xVar 3) (xUn (dRpl "I" "") (xVar 5)))) (mSet 3 (xOp dAdd (xVar 3) (xOp dIx (xLst (xLc (xSigns (xC (.str "XYZ"))) [6] (bName 6) (xT (xOp (dInS true) (xVar 6) (xVar 5))) (xVar 6))) (xC (.int 0)))))))))))) nI (fun d => [some (.str (wS m w)), some (.str (wS m v)), some (nI (pw w v d.length)), some (.str (wS d.length (wp w v))), none, none, none]) (List.range m) fun d x r e => by
    obtain ⟨e1, e2⟩ := range_split e
    have e3 : d.length = x := by rw [e1, List.length_range]
    rw [List.length_append, List.length_singleton, e3]
    refine ⟨_, rfl, ?_⟩
    have a1 := wS_at w (by omega) e2
    have a2 := wS_at v (by omega) e2
    have P := wS_push x (wp w v) (by omega)
    have pe : ((pw w v (x + 1) : Nat) : Int) = (pw w v x : Int) + ((sp (w x) (v x)).1 : Int) := by simp [pw]
    have A := dAdd_ch (w x) (v x)
    have I := inS_pair false .I (w x) (v x)
    have T := fun h1 h2 h3 a0 a1 a2 a3 a4 => third (w x) (v x) h1 h2 h3 a0 a1 a2 a3 a4 _ rfl
    have RP := rpl_pair (w x) (v x)
    have ew : lS (wp w v x) = lS (sp (w x) (v x)).2 := rfl
    rw [ew] at P
    simp only [nI, pe] at *
    have D := dIn_t3
    have q : x ≤ 1000000 := by omega
    have l0 : ∀ u : L4, dAdd (.str (wS x (wp w v))) (.str (lS u)) = dAdd (.str (wS x (wp w v))) (.str (lS u)) := fun _ => rfl
    clear pe e3 ew
    generalize w x = c at *
    generalize v x = d' at *
    simp only [lS] at A I T RP P a1 a2
    have oX := oX
    have oY := oY
    have oZ := oZ
    simp only [lS, chS] at oX oY oZ
    cases c <;> cases d' <;> simp [chS, sp] at A I T RP P a1 a2 <;> simp [chS, a1, a2, A, I, D, RP, P, T, xLc_ap, xyz_tl, oX, oY, oZ, sp]
  rw [List.length_range, List.length_nil] at L
  have l := wS_len m w
  simp only [m__law_product, fnP, mb__law_product, startM, nI, pw, z0, wS_0] at *
  simp [l, dLen, show m ≤ sizeLine from Nat.le_trans hm (by decide), mFor_ap, kFor_ap, dRg_n, L, outP, show m ≤ 1000000 by omega, show (m : Int) ≤ 1000000 by omega, show (-1000000 : Int) ≤ m by omega]
end Tk00
end Z


namespace Z
open PySem PySem.Spec PyProof.Rows L2
namespace Tk00
theorem ul_len (w v : Nat → L4) : ∀ m, ((List.range m).filter fun k => un (w k) (v k)).length = ul w v m
  | 0 => rfl
  | m + 1 => by
    rw [List.range_succ, List.filter_append, List.length_append, ul_len w v m]
    have e : ul w v (m + 1) = ul w v m + if un (w m) (v m) = true then 1 else 0 := rfl
    rw [e]
    cases h : un (w m) (v m) <;> simp [h]
theorem lagree_spec {m : Nat} (hm : m ≤ 1000) (w v : Nat → L4) : m__law_agree [.str (wS m w), .str (wS m v)] = some (.bool (decide (ul w v m % 2 = 0))) := by
  have K := kLc_pure (vs := [2]) (b := (bName 2)) (t := (xAnd (xT (xOp dNe (xOp dIx (xVar 0) (xVar 2)) (xOp dIx (xVar 1) (xVar 2)))) (xAnd (xT (xOp dNe (xOp dIx (xVar 0) (xVar 2)) (xC (.str "I")))) (xT (xOp dNe (xOp dIx (xVar 1) (xVar 2)) (xC (.str "I"))))))) (e := (xVar 2)) nI (fun k => un (w k) (v k)) nI (s := [some (.str (wS m w)), some (.str (wS m v)), none]) (xs := List.range m) (by rw [List.length_range]; omega) fun x hx => by
    have e2 := List.mem_range.mp hx
    have a1 := wS_at w (by omega) e2
    have a2 := wS_at v (by omega) e2
    refine ⟨_, rfl, ?_⟩
    simp only [nI, lS] at *
    generalize w x = c at *
    generalize v x = d' at *
    cases c <;> cases d' <;> simp [chS] at a1 a2 <;> simp [un, chS, a1, a2]
  have l := wS_len m w
  have ll := ul_len w v m
  simp only [m__law_agree, fnP, mb__law_agree, startM] at *
  simp at K
  simp [l, dLen, show m ≤ sizeLine from Nat.le_trans hm (by decide), dRg_n, xLc_ap, K, ll, outP, show (m : Int) ≤ 1000000 by omega, show (-1000000 : Int) ≤ m by omega]
  omega
theorem signed_spec {m : Nat} (hm : m ≤ 1000) (w v : Nat → L4) (a b : Nat) : m_signed_product [.tuple [.str (wS m w), nI a], .tuple [.str (wS m v), nI b]] = some (.tuple [.str (wS m (wp w v)), nI ((a + b + pw w v m % 4 / 2) % 2)]) := by
  have P := lprod_spec hm w v
  simp only [m_signed_product, fnP, mb_signed_product, startM, nI] at *
  simp [P, outP]
theorem lsigned_spec {m : Nat} (hm : m ≤ 1000) (w v : Nat → L4) (a b : Nat) : m__law_signed [.tuple [.str (wS m w), nI a], .tuple [.str (wS m v), nI b]] = some (.tuple [.str (wS m (wp w v)), nI ((a + b + pw w v m % 4 / 2) % 2)]) := by
  have P := lawprod_spec hm w v
  simp only [m__law_signed, fnP, mb__law_signed, startM, nI] at *
  simp [P, outP]
end Tk00
end Z


namespace Z
open PySem PySem.Spec PyProof.Rows L2
namespace Tk00
/-! ## parts of words taken and put -/
def wsl (w : Nat → L4) (qs : List (Nat × L4)) : Nat → L4 := qs.foldl (fun w q => wset w q.1 q.2) w
theorem wsl_out : ∀ (qs : List (Nat × L4)) (w : Nat → L4) (k : Nat), k ∉ qs.map (·.1) → wsl w qs k = w k
  | [], w, k, _ => rfl
  | q :: r, w, k, h => by
    simp only [List.map_cons, List.mem_cons, not_or] at h
    show wsl (wset w q.1 q.2) r k = _
    rw [wsl_out r _ k h.2]
    simp [wset, h.1]
theorem wsl_in : ∀ (ps : List Nat) (cs : List L4) (w : Nat → L4), ps.Nodup → ps.length = cs.length → ps.map (wsl w (ps.zip cs)) = cs
  | [], [], w, _, _ => rfl
  | [], _ :: _, w, _, h => by cases h
  | _ :: _, [], w, _, h => by cases h
  | p :: ps, c :: cs, w, hn, hl => by
    obtain ⟨h1, h2⟩ := List.nodup_cons.mp hn
    have e : wsl w ((p :: ps).zip (c :: cs)) = wsl (wset w p c) (ps.zip cs) := rfl
    rw [e, List.map_cons, wsl_in ps cs _ h2 (by simpa using hl), wsl_out]
    · simp [wset]
    · rw [List.map_fst_zip (by simp at hl; omega)]; exact h1
theorem put_spec {m : Nat} (hm : m ≤ 1000) (w v : Nat → L4) (ps : List Nat) (hps : ∀ p ∈ ps, p < m) : m_with_letters [.str (wS m w), .list (ps.map nI), .str (wS ps.length v)] = some (.str (wS m (wsl w (ps.zip ((List.range ps.length).map v))))) := by
  have L := for_st (b := (bTup 2 (bCons (bName 4) (bCons (bName 5) bNil)))) (m := (mForget [4, 5] (mSetIx 3 (xVar 5) (xVar 4)))) (fun q : Nat × L4 => PyData.tuple [nI q.1, .str (lS q.2)]) (fun d => [some (.str (wS m w)), some (.list (ps.map nI)), some (.str (wS ps.length v)), some (.list ((List.range m).map fun k => .str (lS (wsl w d k)))), none, none]) (ps.zip ((List.range ps.length).map v)) fun d x r e => by
    have hx : x.1 < m := hps _ (List.of_mem_zip (by rw [e]; simp : (x.1, x.2) ∈ _)).1
    refine ⟨_, rfl, ?_⟩
    have ix := ixN_n hx
    have ms := map_set (n := m) (p := x.1) (wsl w d) x.2
    have e2 : wsl w (d ++ [x]) = wset (wsl w d) x.1 x.2 := by unfold wsl; rw [List.foldl_append]; rfl
    rw [e2]
    simp only [nI] at *
    simp [ix, ms]
  have s1 := wS_signs m w
  have s2 := wS_signs ps.length v
  have J := join_D m (wsl w (ps.zip ((List.range ps.length).map v))) hm
  have z : ((ps.map nI).zip ((List.range ps.length).map fun k => PyData.str (lS (v k)))).map (fun w => PyData.tuple [w.1, w.2]) = (ps.zip ((List.range ps.length).map v)).map fun q : Nat × L4 => PyData.tuple [nI q.1, .str (lS q.2)] := by
    rw [show ((List.range ps.length).map fun k => PyData.str (lS (v k))) = ((List.range ps.length).map v).map (fun c => PyData.str (lS c)) by rw [List.map_map]; rfl, List.zip_map, List.map_map]
    rfl
  have l := wS_len m w
  have e0 : wsl w [] = w := rfl
  simp only [m_with_letters, fnP, mb_with_letters, startM, e0] at *
  simp [s1, s2, l, z, mFor_ap, kFor_ap, L, J, outP, show m ≤ 1000000 by omega, -List.map_map]
theorem at_spec {m : Nat} (hm : m ≤ 1000) (u v : Nat → L4) (ps : List Nat) (hl : ps.length ≤ 1000) (hps : ∀ p ∈ ps, p < m) (hv : ps.map u = (List.range ps.length).map v) : m_letters_at [.str (wS m u), .list (ps.map nI)] = some (.str (wS ps.length v)) := by
  have K := kLc_map (vs := [2]) (b := (bName 2)) (t := xYes) (e := (xOp dIx (xVar 0) (xVar 2))) nI (fun p => PyData.str (lS (u p))) (s := [some (.str (wS m u)), some (.list (ps.map nI)), none]) (xs := ps) (by omega) fun x hx => by
    have a1 := wS_at u (by omega) (hps x hx)
    refine ⟨_, rfl, ?_⟩
    simp only [nI] at *
    simp [a1]
  have e : ps.map (fun p => PyData.str (lS (u p))) = (List.range ps.length).map fun k => .str (lS (v k)) := by
    have := congrArg (List.map fun c => PyData.str (lS c)) hv
    rw [List.map_map, List.map_map] at this
    exact this
  rw [e] at K
  have J := join_D ps.length v hl
  simp only [m_letters_at, fnP, mb_letters_at, startM] at *
  simp at K
  simp [xLc_ap, K, J, outP]
end Tk00
end Z


namespace Z
open PySem PySem.Spec PyProof.Rows L2
section
variable {α : Type} {vs : List Nat} {b : D → MS → Option MS} {t : MT} {e : ME}
/-- a comprehension, told by what is done, what is found and the state -/
theorem lc_eachP (enc : α → D) (Inv : List α → List D → MS → Prop) : ∀ (xs done : List α) (acc : List D) (s : MS), Inv done acc s → (∀ d x r, done ++ xs = d ++ x :: r → ∀ acc s, Inv d acc s → ∃ s1, b (enc x) s = some s1 ∧ ∃ c s2, t s1 = some (c, s2) ∧ (c = false → Inv (d ++ [x]) acc (wipeM s2 vs)) ∧ (c = true → ∃ y s3, e s2 = some (y, s3) ∧ Inv (d ++ [x]) (acc ++ [y]) (wipeM s3 vs))) →
    ∃ ys s', lcL vs b t e (xs.map enc) s = some (ys, s') ∧ Inv (done ++ xs) (acc ++ ys) s'
  | [], done, acc, s, h, _ => ⟨[], s, rfl, by rw [List.append_nil, List.append_nil]; exact h⟩
  | x :: r, done, acc, s, h, hs => by
    obtain ⟨s1, h1, c, s2, h2, h3, h4⟩ := hs done x r rfl acc s h
    rw [List.map_cons, lcL, h1]
    simp only [Option.bind_some]
    rw [h2]
    simp only [Option.bind_some]
    cases c with
    | true =>
      obtain ⟨y, s3, h5, h6⟩ := h4 rfl
      obtain ⟨ys, s', e1, e2⟩ := lc_eachP enc Inv r (done ++ [x]) (acc ++ [y]) _ h6 fun d z q w => hs d z q (by rw [← w, List.append_assoc]; rfl)
      refine ⟨y :: ys, s', ?_, by rw [List.append_assoc, List.append_assoc] at e2; exact e2⟩
      rw [h5]
      simp only [if_true, Option.bind_some]
      rw [e1]
      rfl
    | false =>
      obtain ⟨ys, s', e1, e2⟩ := lc_eachP enc Inv r (done ++ [x]) acc _ (h3 rfl) fun d z q w => hs d z q (by rw [← w, List.append_assoc]; rfl)
      refine ⟨ys, s', ?_, by rw [List.append_assoc] at e2; exact e2⟩
      simp only [Bool.false_eq_true, if_false]
      exact e1
theorem kLc_eachP (enc : α → D) (Inv : List α → List D → MS → Prop) {s : MS} {xs : List α} (hl : xs.length ≤ 1000000) (h0 : Inv [] [] (wipeM s vs)) (h : ∀ d x r, xs = d ++ x :: r → ∀ acc s, Inv d acc s → ∃ s1, b (enc x) s = some s1 ∧ ∃ c s2, t s1 = some (c, s2) ∧ (c = false → Inv (d ++ [x]) acc (wipeM s2 vs)) ∧ (c = true → ∃ y s3, e s2 = some (y, s3) ∧ Inv (d ++ [x]) (acc ++ [y]) (wipeM s3 vs))) :
    ∃ ys s', kLc vs b t e (xs.map enc) s = some (ys, unwipe s s' vs) ∧ Inv xs ys s' := by
  obtain ⟨ys, s', h1, h2⟩ := lc_eachP enc Inv xs [] [] _ h0 h
  refine ⟨ys, s', ?_, h2⟩
  unfold kLc
  rw [if_pos (by rw [List.length_map]; exact hl), h1]
  rfl
end
namespace Tk00
theorem wS_ok (m : Nat) (w : Nat → L4) : PyData.strOk (wS m w) = true := by
  show ((List.range m).map fun k => code (w k)).toArray.all (· < 0x110000) = true
  rw [List.all_toArray, List.all_eq_true]
  intro x hx
  obtain ⟨k, -, rfl⟩ := List.mem_map.mp hx
  cases w k <;> decide
theorem wS_shaped (m : Nat) (w : Nat → L4) : SeqAt.shaped (.str (wS m w)) = true := shaped_s (wS_ok m w)
theorem pr_shaped (a : Int) (m : Nat) (w : Nat → L4) : SeqAt.shaped (.tuple [.int a, .str (wS m w)]) = true := by
  simp [SeqAt.shaped, PyData.canLay0, PyData.canLayAll0, PyData.depth, PyData.depthAll, wS_ok]
theorem rp_shaped (a : Int) (m : Nat) (w : Nat → L4) : SeqAt.shaped (.tuple [.str (wS m w), .int a]) = true := by
  simp [SeqAt.shaped, PyData.canLay0, PyData.canLayAll0, PyData.depth, PyData.depthAll, wS_ok]
theorem pr_eq (a b : Int) (m : Nat) (w : Nat → L4) : dEq (.tuple [.int a, .str (wS m w)]) (.tuple [.int b, .str (wS m w)]) = some (.bool (decide (a = b))) := by
  unfold dEq
  rw [if_pos ⟨pr_shaped _ _ _, pr_shaped _ _ _⟩]
  simp [PyData.eqv, PyData.eqvAll]
  by_cases h : a = b <;> simp [h]
theorem dNe_bb (a b : Bool) : dNe (.bool a) (.bool b) = some (.bool (!decide (a = b))) := by
  unfold dNe
  rw [if_pos (by cases a <;> cases b <;> decide)]
  cases a <;> cases b <;> rfl
theorem agree_iff (w v : Nat → L4) (m : Nat) : (((pw w v m % 4 : Nat) : Int) = ((pw v w m % 4 : Nat) : Int)) ↔ ul w v m % 2 = 0 := by
  have := (pw_cm w v m).1
  omega
end Tk00
end Z


namespace Z
open PySem PySem.Spec PyProof.Rows L2
namespace Tk00
theorem draw_n {fs : List D} (h : FeedOk fs) {n : Nat} (h0 : 0 < n) (h1 : n < 1073741824) : ∃ (r : Nat) (fs' : List D), m__law_draw fs [nI n] = some (nI r, fs') ∧ r < n ∧ FeedOk fs' := by
  obtain ⟨r, fs', a, b, c, d⟩ := draw_spec h (n := n) (by omega) (by omega)
  refine ⟨r.toNat, fs', ?_, by omega, d⟩
  have : ((r.toNat : Nat) : Int) = r := by omega
  simp only [nI, this]
  exact a
theorem wires_drawn {m : Nat} (hm : m ≤ 1000) {fs : List D} (hf : FeedOk fs) (a1 a2 a3 a4 a5 : Option D) :
    ∃ (ps : List Nat) (fs' : List D), kLc [10] (bName 10) (xT (xOp dEq (xCallT 0 m__law_draw (xaCons (xC (.int 2)) xaNil)) (xC (.int 0)))) (xVar 10) ((List.range m).map nI) [some (.list fs), a1, a2, a3, a4, a5, none, none, none, none, none] = some (ps.map nI, [some (.list fs'), a1, a2, a3, a4, a5, none, none, none, none, none]) ∧ FeedOk fs' ∧ ps.Nodup ∧ (∀ p ∈ ps, p < m) ∧ ps.length ≤ m := by
  obtain ⟨ys, s', e, ps, fs', h1, h2, h3, h4, h5, h6⟩ := kLc_eachP (vs := [10]) (b := (bName 10)) (t := (xT (xOp dEq (xCallT 0 m__law_draw (xaCons (xC (.int 2)) xaNil)) (xC (.int 0))))) (e := (xVar 10)) nI (fun d acc s => ∃ (ps : List Nat) (fs' : List D), acc = ps.map nI ∧ FeedOk fs' ∧ ps.Nodup ∧ (∀ p ∈ ps, p < d.length) ∧ ps.length ≤ d.length ∧ s = [some (.list fs'), a1, a2, a3, a4, a5, none, none, none, none, none]) (s := [some (.list fs), a1, a2, a3, a4, a5, none, none, none, none, none]) (xs := List.range m) (by rw [List.length_range]; omega) ⟨[], fs, rfl, hf, List.nodup_nil, by simp, by simp, rfl⟩ fun d x r e acc s hi => by
    obtain ⟨ps, f1, g1, g2, g3, g4, g5, g6⟩ := hi
    subst g1 g6
    obtain ⟨e1, e2⟩ := range_split e
    have e3 : d.length = x := by rw [e1, List.length_range]
    obtain ⟨r, f2, k1, k2, k3, k4⟩ := draw_spec g2 (n := 2) (by omega) (by omega)
    refine ⟨_, rfl, decide (r = 0), [some (.list f2), a1, a2, a3, a4, a5, none, none, none, none, some (nI x)], ?_, fun _ => ⟨ps, f2, rfl, k4, g3, fun p hp => ?_, ?_, rfl⟩, fun _ => ⟨nI x, [some (.list f2), a1, a2, a3, a4, a5, none, none, none, none, some (nI x)], ?_, ps ++ [x], f2, by simp, k4, ?_, fun p hp => ?_, ?_, rfl⟩⟩
    · simp [k1]
    · have := g4 p hp
      rw [List.length_append, List.length_singleton]; omega
    · rw [List.length_append, List.length_singleton]; omega
    · rfl
    · refine List.nodup_append.mpr ⟨g3, by simp, fun a ha b hb => ?_⟩
      have := g4 a ha
      simp at hb
      omega
    · rw [List.length_append, List.length_singleton]
      rcases List.mem_append.mp hp with q | q
      · have := g4 p q; omega
      · simp at q; omega
    · rw [List.length_append, List.length_singleton, List.length_append, List.length_singleton]; omega
  subst h1 h6
  rw [List.length_range] at h4 h5
  exact ⟨ps, fs', e, h2, h3, h4, h5⟩
theorem dIn_nI (neg : Bool) (k : Nat) (ps : List Nat) : dIn neg (.int k) (.list (ps.map nI)) = some (.bool (if neg then !decide (k ∈ ps) else decide (k ∈ ps))) := by
  have := dIn_ints neg (k : Int) (ps.map fun p : Nat => (p : Int))
  have e : (iL (ps.map fun p : Nat => (p : Int)) : D) = .list (ps.map nI) := by
    show PyData.list ((ps.map fun p : Nat => (p : Int)).map PyData.int) = _
    rw [List.map_map]; rfl
  rw [e] at this
  rw [this]
  have q : ((k : Int) ∈ ps.map fun p : Nat => (p : Int)) ↔ k ∈ ps := by
    rw [List.mem_map]
    constructor
    · rintro ⟨a, h1, h2⟩
      have : a = k := by omega
      rwa [← this]
    · intro h; exact ⟨k, h, rfl⟩
  simp only [q]
theorem rest_spec {m : Nat} (hm : m ≤ 1000) (u w : Nat → L4) (ps : List Nat) (hu : ∀ k, k ∉ ps → u k = w k) (a0 a1 a2 a3 a4 a5 a7 a9 : Option D) :
    (kLc [10] (bName 10) (xT (xOp (dIn true) (xVar 10) (xVar 6))) (xOp dIx (xVar 8) (xVar 10)) ((List.range m).map nI) [a0, a1, a2, a3, a4, a5, some (.list (ps.map nI)), a7, some (.str (wS m u)), a9, none] = some (((List.range m).filter fun k => !decide (k ∈ ps)).map (fun k => PyData.str (lS (w k))), [a0, a1, a2, a3, a4, a5, some (.list (ps.map nI)), a7, some (.str (wS m u)), a9, none])) := by
  have K := kLc_pure (vs := [10]) (b := (bName 10)) (t := (xT (xOp (dIn true) (xVar 10) (xVar 6)))) (e := (xOp dIx (xVar 8) (xVar 10))) nI (fun k => !decide (k ∈ ps)) (fun k => PyData.str (lS (w k))) (s := [a0, a1, a2, a3, a4, a5, some (.list (ps.map nI)), a7, some (.str (wS m u)), a9, none]) (xs := List.range m) (by rw [List.length_range]; omega) fun x hx => by
    have a1 := wS_at u (by omega) (List.mem_range.mp hx)
    refine ⟨_, rfl, ?_, fun hp => ?_, rfl⟩
    · have := dIn_nI true x ps
      simp only [nI] at *
      simp [this]
    · have hp' : x ∉ ps := by simpa using hp
      rw [hu x hp'] at a1
      simp only [nI] at *
      simp [a1]
  exact K
theorem rest_spec2 {m : Nat} (hm : m ≤ 1000) (w : Nat → L4) (ps : List Nat) (a0 a1 a3 a4 a5 a7 a8 a9 : Option D) :
    (kLc [10] (bName 10) (xT (xOp (dIn true) (xVar 10) (xVar 6))) (xOp dIx (xVar 2) (xVar 10)) ((List.range m).map nI) [a0, a1, some (.str (wS m w)), a3, a4, a5, some (.list (ps.map nI)), a7, a8, a9, none] = some (((List.range m).filter fun k => !decide (k ∈ ps)).map (fun k => PyData.str (lS (w k))), [a0, a1, some (.str (wS m w)), a3, a4, a5, some (.list (ps.map nI)), a7, a8, a9, none])) := by
  have K := kLc_pure (vs := [10]) (b := (bName 10)) (t := (xT (xOp (dIn true) (xVar 10) (xVar 6)))) (e := (xOp dIx (xVar 2) (xVar 10))) nI (fun k => !decide (k ∈ ps)) (fun k => PyData.str (lS (w k))) (s := [a0, a1, some (.str (wS m w)), a3, a4, a5, some (.list (ps.map nI)), a7, a8, a9, none]) (xs := List.range m) (by rw [List.length_range]; omega) fun x hx => by
    have a1 := wS_at w (by omega) (List.mem_range.mp hx)
    refine ⟨_, rfl, ?_, fun hp => ?_, rfl⟩
    · have := dIn_nI true x ps
      simp only [nI] at *
      simp [this]
    · simp only [nI] at *
      simp [a1]
  exact K
theorem wsl_back {ps : List Nat} (w v : Nat → L4) (hn : ps.Nodup) : ps.map (wsl w (ps.zip ((List.range ps.length).map v))) = (List.range ps.length).map v := wsl_in ps _ w hn (by simp)
theorem list_shaped (xs : List Nat) (w : Nat → L4) : SeqAt.shaped (.list (xs.map fun k => PyData.str (lS (w k)))) = true := by
  have h1 : PyData.canLayAll0 (xs.map fun k => PyData.str (lS (w k))) = true := canLay_map (fun k => PyData.str (lS (w k))) _ fun x _ => by simp [PyData.canLay0, strOk_os]
  have h2 : PyData.depthAll (xs.map fun k => PyData.str (lS (w k))) ≤ 1 := depth_map (fun k => PyData.str (lS (w k))) 1 _ fun x _ => by simp [PyData.depth, PyData.depthAll]
  simp [SeqAt.shaped, PyData.canLay0, PyData.depth, h1]
  omega
theorem lweight_spec {m : Nat} (hm : m ≤ 1000) (w : Nat → L4) (a0 a1 a3 a4 a5 a6 a7 a8 a10 : Option D) :
    (kLc [9] (bName 9) (xT (xOp dNe (xVar 9) (xC (.str "I")))) (xVar 9) ((List.range m).map fun k => PyData.str (lS (w k))) [a0, a1, some (.str (wS m w)), a3, a4, a5, a6, a7, a8, none, a10] = some (((List.range m).filter fun k => decide (w k ≠ .I)).map (fun k => PyData.str (lS (w k))), [a0, a1, some (.str (wS m w)), a3, a4, a5, a6, a7, a8, none, a10])) := by
  have K := kLc_pure (vs := [9]) (b := (bName 9)) (t := (xT (xOp dNe (xVar 9) (xC (.str "I"))))) (e := (xVar 9)) (fun k => PyData.str (lS (w k))) (fun k => decide (w k ≠ .I)) (fun k => PyData.str (lS (w k))) (s := [a0, a1, some (.str (wS m w)), a3, a4, a5, a6, a7, a8, none, a10]) (xs := List.range m) (by rw [List.length_range]; omega) fun x hx => by
    refine ⟨_, rfl, ?_⟩
    cases w x <;> simp [chS]
  exact K
theorem kb_bool : kitB "bool" "bool" = some true := by decide +kernel
theorem products_spec {fs : List D} (hf : FeedOk fs) : ∃ fs', m__law_products fs [] = some (.bool true, fs') ∧ FeedOk fs' := by
  obtain ⟨m, f1, d1, hm, F1⟩ := draw_n hf (n := 7) (by omega) (by omega)
  have hm' : m ≤ 1000 := by omega
  obtain ⟨w, f2, d2, F2⟩ := letters_drawn hm' F1
  obtain ⟨v, f3, d3, F3⟩ := letters_drawn hm' F2
  have P1 := lprod_spec hm' w v
  have P2 := lawprod_spec hm' w v
  have P3 := lawprod_spec hm' v w
  rw [wp_cm v w] at P3
  have S1 := dNe_refl (pr_shaped ((pw w v m % 4 : Nat) : Int) m (wp w v))
  have W1 := weight_spec hm' w
  have W2 := lweight_spec hm' w
  have E1 := pr_eq ((pw w v m % 4 : Nat) : Int) ((pw v w m % 4 : Nat) : Int) m (wp w v)
  have ag := agree_iff w v m
  have A1 := agree_spec hm' w v
  have A2 := lagree_spec hm' w v
  have G1 := signed_spec hm' w v 1 0
  have G2 := lsigned_spec hm' w v 1 0
  have S2 := dNe_refl (rp_shaped (((1 + 0 + pw w v m % 4 / 2) % 2 : Nat) : Int) m (wp w v))
  obtain ⟨ps, f4, K4, F4, nd, hps, hl⟩ := wires_drawn hm' F3 (some (nI m)) (some (.str (wS m w))) (some (.str (wS m v))) (some (.bool (decide (ul w v m % 2 = 0)))) (some (.bool (decide (ul w v m % 2 = 0))))
  obtain ⟨v2, f5, d5, F5⟩ := letters_drawn (n := ps.length) (by omega) F4
  have nd' : ps.reverse.Nodup := List.pairwise_reverse.mpr (nd.imp fun h => Ne.symm h)
  have hps' : ∀ p ∈ ps.reverse, p < m := fun p hp => hps p (List.mem_reverse.mp hp)
  have PU := put_spec hm' w v2 ps.reverse hps'
  have AT := at_spec hm' (wsl w (ps.reverse.zip ((List.range ps.reverse.length).map v2))) v2 ps.reverse (by rw [List.length_reverse]; omega) hps' (wsl_back w v2 nd')
  have R1 := rest_spec hm' (wsl w (ps.reverse.zip ((List.range ps.reverse.length).map v2))) w ps.reverse fun k hk => wsl_out _ _ _ fun h => hk (by
    rw [List.map_fst_zip (by simp)] at h; exact h)
  have R2 := rest_spec2 hm' w ps.reverse
  have S3 := dEq_refl (wS_shaped ps.length v2)
  have S4 := dEq_refl (list_shaped ((List.range m).filter fun k => !decide (k ∈ ps.reverse)) w)
  have rr : (if 0 < ps.length then (ps.map nI).reverse else ps.map nI) = ps.reverse.map nI := by
    cases ps with
    | nil => rfl
    | cons a r => rw [if_pos (by simp), List.map_reverse]
  refine ⟨f5, ?_, F5⟩
  have s1 := wS_signs m w
  unfold signsD at s1
  have lm : (m : Int) ≤ 1000000 := by omega
  have lm2 : (-1000000 : Int) ≤ m := by omega
  have wl : ((List.range m).filter fun k => decide (w k ≠ .I)).length ≤ m := Nat.le_trans (List.length_filter_le _ _) (by simp)
  rw [List.length_reverse] at PU AT R1
  have d1 : m__law_draw fs [.int 7] = some (.int m, f1) := d1
  have c1 : ((1 : Nat) : Int) = 1 := rfl
  simp only [ag] at E1
  generalize decide (ul w v m % 2 = 0) = g at *
  generalize (1 + 0 + pw w v m % 4 / 2) % 2 = p2 at *
  generalize pw w v m % 4 = p1 at *
  generalize pw v w m % 4 = p3 at *
  generalize wsl w (ps.reverse.zip (List.map v2 (List.range ps.length))) = u at *
  generalize hqs : ps.reverse = qs at *
  have lq : ps.length = qs.length := by rw [← hqs, List.length_reverse]
  simp only [nI, c1, z0] at G1 G2
  simp only [m__law_products, fnT, mb__law_products, startM, nI] at *
  rw [lq] at d5 PU AT S3
  by_cases hz : 0 < ps.length
  · have er : (List.map nI ps).reverse = List.map nI qs := by rw [← List.map_reverse, hqs]
    cases g <;> simp [d1, d2, d3, P1, P2, P3, W1, E1, A1, A2, G1, G2, S1, S2, dNe_bb, s1, xLc_ap, W2, dRg_n, lm, lm2, tyD, kb_bool, K4, hz, er, d5, PU, AT, S3, R1, R2, S4, outT]
  · have e0 : ps = [] := List.eq_nil_of_length_eq_zero (by omega)
    have e1 : List.map nI ps = List.map nI qs := by rw [← hqs, e0]; rfl
    have hz2 : ¬ 0 < qs.length := by omega
    rw [e1] at K4
    cases g <;> simp [d1, d2, d3, P1, P2, P3, W1, E1, A1, A2, G1, G2, S1, S2, dNe_bb, s1, xLc_ap, W2, dRg_n, lm, lm2, tyD, kb_bool, K4, hz2, d5, PU, AT, S3, R1, R2, S4, outT]
end Tk00
end Z


namespace Z
open PySem PySem.Spec PyProof.Rows L2
namespace Tk00
/-! ## means -/
def iq (x y : C) : Int := x.1 * y.1 + x.2 * y.2
def ip (n : Nat) (f g : Nat → C) : Int := ((List.range (2 ^ n)).map fun j => iq (f j) (g j)).sum
theorem ti_ad (k : Nat) (x y : C) : ti k (ad x y) = ad (ti k x) (ti k y) := by
  unfold ti
  split <;> simp [ad, Int.neg_add]
theorem ev_ad (f g : Nat → C) : ∀ r : Row, ev (fun j => ad (f j) (g j)) r = ad (ev f r) (ev g r)
  | [] => rfl
  | x :: r => by
    simp only [ev, ti_ad, ev_ad f g r]
    simp only [ad, Prod.mk.injEq]
    constructor <;> omega
theorem T_ad (n : Nat) (t : Tu) (f g : Nat → C) : T n t (fun j => ad (f j) (g j)) = fun j => ad (T n t f j) (T n t g j) := funext fun j => ev_ad f g _
theorem sq_ad (x y : C) : sq (ad x y) = sq x + sq y + 2 * iq x y := by
  simp only [sq, ad, iq, Int.add_mul, Int.mul_add]
  have := Int.mul_comm x.1 y.1
  have := Int.mul_comm x.2 y.2
  omega
theorem sz_ad (n : Nat) (f g : Nat → C) : sz n (fun j => ad (f j) (g j)) = sz n f + sz n g + 2 * ip n f g := by
  unfold sz ip
  rw [← sum_two, ← sum_add, ← sum_add]
  exact sum_cg fun j _ => sq_ad _ _
theorem ip_T {n : Nat} (h : n < 6) {t : Tu} (ht : okT n t) (f g : Nat → C) : ip n (T n t f) (T n t g) = tw t * ip n f g := by
  have h1 := size_T h ht (fun j => ad (f j) (g j))
  rw [T_ad, sz_ad, sz_ad, size_T h ht, size_T h ht] at h1
  have : tw t = 1 ∨ tw t = 2 := by have := tw_bd t; omega
  rcases this with e | e <;> rw [e] at h1 ⊢ <;> omega
def sgi (s : Nat) : Int := if s = 0 then 1 else -1
theorem iq_neg (x y : C) : iq x (-y.1, -y.2) = -iq x y := by
  simp only [iq, Int.mul_neg]; omega
theorem ip_sg (n s : Nat) (f g : Nat → C) : ip n f (sg s g) = sgi s * ip n f g := by
  unfold sg sgi
  split
  · rw [Int.one_mul]
  · unfold ip
    rw [Int.neg_mul, Int.one_mul]
    have : ((List.range (2 ^ n)).map fun j => iq (f j) (-(g j).1, -(g j).2)).sum + ((List.range (2 ^ n)).map fun j => iq (f j) (g j)).sum = 0 := by
      rw [← sum_add, sum_cg (g' := fun _ => 0) fun j _ => by rw [iq_neg]; omega]
      induction List.range (2 ^ n) with
      | nil => rfl
      | cons x r ih => simp only [List.map_cons, List.sum_cons, ih]; rfl
    show ((List.range (2 ^ n)).map fun j => iq (f j) (-(g j).1, -(g j).2)).sum = _
    omega
theorem ip_cg {n : Nat} {f g g' : Nat → C} (e : Eq2 n g g') : ip n f g = ip n f g' := sum_cg fun j hj => by rw [e j hj]
theorem mean_T {n : Nat} (h : n < 6) {t : Tu} (ht : okT n t) (w : Nat → L4) (f : Nat → C) : sgi (tS t w) * ip n (T n t f) (lw n (tW t w) (T n t f) n) = tw t * ip n f (lw n w f n) := by
  rw [← ip_T h ht, ← ip_sg]
  exact (ip_cg (tW_T h ht w f)).symm
theorem lw_bd {n : Nat} (h : n < 6) (w : Nat → L4) {b : Int} (hb : 0 ≤ b) {f : Nat → C} (hf : BdV n b f) : ∀ m, m ≤ n → BdV n (2 ^ m * b) (lw n w f m)
  | 0, _ => by
    have : (2 : Int) ^ 0 * b = b := by rw [Int.pow_zero, Int.one_mul]
    rw [this]; exact hf
  | m + 1, hm => by
    have ih := lw_bd h w hb hf m (by omega)
    have p : (0 : Int) ≤ 2 ^ m * b := Int.mul_nonneg (Int.pow_nonneg (by omega)) hb
    have e : (2 : Int) ^ (m + 1) * b = 2 * (2 ^ m * b) := by
      rw [Int.pow_succ, Int.mul_comm (2 ^ m) 2, Int.mul_assoc]
    rw [e]
    show BdV n _ (lt n (w m) m (lw n w f m))
    cases w m with
    | I => exact fun j hj => (ih j hj).mono (by omega)
    | X => exact T_bd h (t := .one .x m) (by exact hm) p ih
    | Y => exact T_bd h (t := .one .y m) (by exact hm) p ih
    | Z => exact T_bd h (t := .one .z m) (by exact hm) p ih
end Tk00
end Z


namespace Z
open PySem PySem.Spec PyProof.Rows L2
namespace Tk00
theorem lmean_spec {n : Nat} (h : n < 6) (w : Nat → L4) {f : Nat → C} (hf : BdV n 1000 f) : m__law_mean [nI n, .list (vL (2 ^ n) f), .str (wS n w)] = some (.int (ip n f (lw n w f n))) := by
  have L := for_st (b := (bName 4)) (m := (mForget [4] (mIf (xT (xOp dNe (xOp dIx (xVar 2) (xVar 4)) (xC (.str "I")))) (mSet 3 (xLst (xfMap m__law_turn (xaCons (xVar 0) (xaCons (xVar 3) (xaCons (xDGet ["X", "Y", "Z"] (xaCons (xC (.str "x")) (xaCons (xC (.str "y")) (xaCons (xC (.str "z")) xaNil))) (xOp dIx (xVar 2) (xVar 4))) (xaCons (xLst (xDisp (xaCons (xVar 4) xaNil))) xaNil))))))) mSkip))) nI (fun d => [some (nI n), some (.list (vL (2 ^ n) f)), some (.str (wS n w)), some (.list (vL (2 ^ n) (lw n w f d.length))), none, none]) (List.range n) fun d x r e => by
    obtain ⟨e1, e2⟩ := range_split e
    have e3 : d.length = x := by rw [e1, List.length_range]
    rw [List.length_append, List.length_singleton, e3]
    have at' := wS_at w (by omega) e2
    refine ⟨_, rfl, ?_⟩
    have X := fun k => lturn_spec h (t := .one k x) e2 (lw n w f x)
    have X1 := X .x
    have X2 := X .y
    have X3 := X .z
    have u : lw n w f (x + 1) = lt n (w x) x (lw n w f x) := rfl
    rw [u]
    simp only [nI, nmT, plT, nm1] at *
    cases e4 : w x <;> rw [e4] at at' <;> simp [at', chS, lt, findK_c, ofString_inj, X1, X2, X3]
  rw [List.length_range, List.length_nil] at L
  have N := N_le h
  have L2 := for_st (b := (bName 4)) (m := (mForget [4] (mAug dAddI 5 (xOp dAdd (xOp dMul (xOp dIx (xOp dIx (xVar 1) (xVar 4)) (xC (.int 0))) (xOp dIx (xOp dIx (xVar 3) (xVar 4)) (xC (.int 0)))) (xOp dMul (xOp dIx (xOp dIx (xVar 1) (xVar 4)) (xC (.int 1))) (xOp dIx (xOp dIx (xVar 3) (xVar 4)) (xC (.int 1)))))))) nI (fun d => [some (nI n), some (.list (vL (2 ^ n) f)), some (.str (wS n w)), some (.list (vL (2 ^ n) (lw n w f n))), none, some (.int ((List.range d.length).map fun j => iq (f j) (lw n w f n j)).sum)]) (List.range (2 ^ n)) fun d x r e => by
    obtain ⟨e1, e2⟩ := range_split e
    have e3 : d.length = x := by rw [e1, List.length_range]
    rw [List.length_append, List.length_singleton, e3]
    have at1 := vL_at f e2
    have at2 := vL_at (lw n w f n) e2
    refine ⟨_, rfl, ?_⟩
    obtain ⟨h1, h2, h3, h4⟩ := hf x e2
    generalize lw n w f n = g at *
    rw [List.range_succ, List.map_append, List.sum_append]
    have c1 : -18446744073709551616 < (f x).1 := by omega
    have c2 : (f x).1 < 18446744073709551616 := by omega
    have c3 : -18446744073709551616 < (f x).2 := by omega
    have c4 : (f x).2 < 18446744073709551616 := by omega
    simp [at1, at2, c1, c2, c3, c4, iq]
  rw [List.length_range, List.length_nil] at L2
  have vl : (vL (2 ^ n) f).length = 2 ^ n := by simp [vL]
  have q1 : ((2 ^ n : Nat) : Int) ≤ 1000000 := by
    have : ((2 ^ n : Nat) : Int) ≤ ((32 : Nat) : Int) := Int.ofNat_le.mpr N
    generalize ((2 ^ n : Nat) : Int) = z at *
    omega
  have q2 : (-1000000 : Int) ≤ ((2 ^ n : Nat) : Int) := Int.le_trans (by decide) (Int.natCast_nonneg _)
  simp only [m__law_mean, fnP, mb__law_mean, startM, nI, lw, List.range_zero, List.map_nil, List.sum_nil] at *
  simp [-Int.natCast_pow, mFor_ap, kFor_ap, dRg_n, L, L2, vl, dLen, q1, q2, outP, ip, show (n : Int) ≤ 1000000 by omega, show (-1000000 : Int) ≤ n by omega]
end Tk00
end Z


namespace Z
open PySem PySem.Spec PyProof.Rows L2
namespace Tk00
def gc (a b : Int) : Int := ((Nat.gcd a.natAbs b.natAbs : Nat) : Int)
theorem gc_pos {a b : Int} (hb : 0 < b) : 0 < gc a b := by
  have : 0 < Nat.gcd a.natAbs b.natAbs := Nat.gcd_pos_of_pos_right _ (by omega)
  unfold gc; omega
theorem gc_le {a b : Int} (hb : 0 < b) : gc a b ≤ b := by
  have := Nat.gcd_le_right a.natAbs (n := b.natAbs) (by omega)
  unfold gc; omega
theorem gc_l (a b : Int) : a / gc a b * gc a b = a := Int.ediv_mul_cancel (Int.ofNat_dvd_left.mpr (Nat.gcd_dvd_left _ _))
theorem gc_r (a b : Int) : b / gc a b * gc a b = b := Int.ediv_mul_cancel (Int.ofNat_dvd_left.mpr (Nat.gcd_dvd_right _ _))
theorem gc_cross (a b : Int) (hb : 0 < b) : a / gc a b * b = b / gc a b * a := by
  have h1 := gc_l a b
  have h2 := gc_r a b
  have h3 : a / gc a b * (b / gc a b * gc a b) = b / gc a b * (a / gc a b * gc a b) := by
    rw [← Int.mul_assoc, ← Int.mul_assoc, Int.mul_comm (a / gc a b)]
  rwa [h1, h2] at h3
theorem lowest_spec {a b : Int} (hb : 0 < b) (hb2 : b < 1073741824) : m_lowest [.int a, .int b] = some (.tuple [.int (a / gc a b), .int (b / gc a b)]) := by
  have g1 := gc_pos (a := a) hb
  have g2 := gc_le (a := a) hb
  have g3 : gc a b < 1073741824 := by omega
  have g4 : dGcd [.int a, .int b] = some (.int (gc a b)) := rfl
  simp only [m_lowest, fnP, mb_lowest, startM]
  simp [g4, g1, g3, outP]
theorem turns_in (c : L4) : dInK d_LETTER_TURNS false (.str (lS c)) = some (.bool (decide (c ≠ .I))) := by
  cases c <;> simp [dInK, chS, d_LETTER_TURNS, kv_LETTER_TURNS, cvK, ofString_inj]
theorem enum_map (N : Nat) (f : Nat → D) : ((List.range N).map f).mapIdx (fun i d => PyData.tuple [.int (i : Nat), d]) = (List.range N).map fun i => PyData.tuple [nI i, f i] := by
  apply List.ext_getElem?
  intro i
  rw [List.getElem?_mapIdx, List.getElem?_map, List.getElem?_map]
  by_cases h : i < N <;> simp [h]
theorem mean_spec {n : Nat} (h : n < 6) (w : Nat → L4) {f : Nat → C} (hf : BdV n 1000 f) (hs : 0 < sz n f) (hs2 : sz n f < 1073741824) : m_mean_of [nI n, .list (vL (2 ^ n) f), .str (wS n w)] = some (.tuple [.int (ip n f (lw n w f n) / gc (ip n f (lw n w f n)) (sz n f)), .int (sz n f / gc (ip n f (lw n w f n)) (sz n f))]) := by
  have L := for_st (b := (bTup 2 (bCons (bName 4) (bCons (bName 5) bNil)))) (m := (mForget [4, 5] (mIf (xT (xUn (dInK d_LETTER_TURNS false) (xVar 5))) (mSet 3 (xLst (xfMap m_turn_vector (xaCons (xVar 0) (xaCons (xVar 3) (xaCons (xUn (dKey d_LETTER_TURNS) (xVar 5)) (xaCons (xLst (xDisp (xaCons (xVar 4) xaNil))) xaNil))))))) mSkip))) (fun k => PyData.tuple [nI k, .str (lS (w k))]) (fun d => [some (nI n), some (.list (vL (2 ^ n) f)), some (.str (wS n w)), some (.list (vL (2 ^ n) (lw n w f d.length))), none, none, none, none, none]) (List.range n) fun d x r e => by
    obtain ⟨e1, e2⟩ := range_split e
    have e3 : d.length = x := by rw [e1, List.length_range]
    rw [List.length_append, List.length_singleton, e3]
    refine ⟨_, rfl, ?_⟩
    have X := fun k => turn_vector_spec h (t := .one k x) e2 (lw n w f x)
    have X1 := X .x
    have X2 := X .y
    have X3 := X .z
    have u : lw n w f (x + 1) = lt n (w x) x (lw n w f x) := rfl
    rw [u]
    have TI := turns_in
    simp only [nI, nmT, plT, nm1] at *
    cases e4 : w x <;> simp [TI, lt, X1, X2, X3] <;> simp [chS, dKey, d_LETTER_TURNS, kv_LETTER_TURNS, cvK, ofString_inj, cvD, X1, X2, X3]
  rw [List.length_range, List.length_nil] at L
  have N := N_le h
  have K := kLc_map (vs := [7, 8]) (b := (bTup 2 (bCons (bName 7) (bCons (bName 8) bNil)))) (t := xYes) (e := (xOp dAdd (xOp dMul (xOp dIx (xVar 7) (xC (.int 0))) (xOp dIx (xVar 8) (xC (.int 0)))) (xOp dMul (xOp dIx (xVar 7) (xC (.int 1))) (xOp dIx (xVar 8) (xC (.int 1)))))) (fun j => PyData.tuple [pD (f j), pD (lw n w f n j)]) (fun j => PyData.int (iq (f j) (lw n w f n j))) (s := [some (nI n), some (.list (vL (2 ^ n) f)), some (.str (wS n w)), some (.list (vL (2 ^ n) (lw n w f n))), none, none, none, none, none]) (xs := List.range (2 ^ n)) (by rw [List.length_range]; omega) fun x hx => by
    obtain ⟨h1, h2, h3, h4⟩ := hf x (List.mem_range.mp hx)
    refine ⟨_, rfl, ?_⟩
    generalize lw n w f n = g at *
    have c1 : -18446744073709551616 < (f x).1 := by omega
    have c2 : (f x).1 < 18446744073709551616 := by omega
    have c3 : -18446744073709551616 < (f x).2 := by omega
    have c4 : (f x).2 < 18446744073709551616 := by omega
    simp [c1, c2, c3, c4, iq]
  have z : ((vL (2 ^ n) f).zip (vL (2 ^ n) (lw n w f n))).map (fun w => PyData.tuple [w.1, w.2]) = (List.range (2 ^ n)).map fun j => PyData.tuple [pD (f j), pD (lw n w f n j)] := zz _ _ _
  have e : asInts ((List.range (2 ^ n)).map fun j => PyData.int (iq (f j) (lw n w f n j))) = some ((List.range (2 ^ n)).map fun j => iq (f j) (lw n w f n j)) := by
    have := asInts_map ((List.range (2 ^ n)).map fun j => iq (f j) (lw n w f n j))
    rwa [List.map_map] at this
  have S := size_spec h hf
  have LO := lowest_spec (a := ip n f (lw n w f n)) hs hs2
  have s1 := wS_signs n w
  have en := enum_map n fun k => .str (lS (w k))
  rw [← s1] at en
  have fo : ((List.range (2 ^ n)).map fun j => iq (f j) (lw n w f n j)).sum = ip n f (lw n w f n) := rfl
  simp only [m_mean_of, fnP, mb_mean_of, startM, nI, lw] at *
  simp at K
  simp [en, mFor_ap, kFor_ap, L, z, K, xLc_ap, dSum, e, fo, S, LO, outP, -List.map_map]
end Tk00
end Z


namespace Z
open PySem PySem.Spec PyProof.Rows L2
namespace Tk00
/-! ## a turn leads products to products -/
theorem m1_fin (k : S1) (c d : L4) : (sp (t1 k c).1 (t1 k d).1).2 = (t1 k (sp c d).2).1 ∧ ((sp (t1 k c).1 (t1 k d).1).1 + 2 * ((t1 k c).2 + (t1 k d).2)) % 4 = ((sp c d).1 + 2 * (t1 k (sp c d).2).2) % 4 := by
  cases k <;> cases c <;> cases d <;> exact ⟨rfl, rfl⟩
theorem m2_fin (k : S2) (c1 c2 d1 d2 : L4) : (sp (t2 k c1 c2).1 (t2 k d1 d2).1).2 = (t2 k (sp c1 d1).2 (sp c2 d2).2).1 ∧ (sp (t2 k c1 c2).2.1 (t2 k d1 d2).2.1).2 = (t2 k (sp c1 d1).2 (sp c2 d2).2).2.1 ∧ ((sp (t2 k c1 c2).1 (t2 k d1 d2).1).1 + (sp (t2 k c1 c2).2.1 (t2 k d1 d2).2.1).1 + 2 * ((t2 k c1 c2).2.2 + (t2 k d1 d2).2.2)) % 4 = ((sp c1 d1).1 + (sp c2 d2).1 + 2 * (t2 k (sp c1 d1).2 (sp c2 d2).2).2.2) % 4 := by
  cases k <;> cases c1 <;> cases c2 <;> cases d1 <;> cases d2 <;> exact ⟨rfl, rfl, rfl⟩
theorem pw_set (w v : Nat → L4) (p : Nat) (c d : L4) : ∀ m, pw (wset w p c) (wset v p d) m + (if p < m then (sp (w p) (v p)).1 else 0) = pw w v m + if p < m then (sp c d).1 else 0
  | 0 => rfl
  | m + 1 => by
    have ih := pw_set w v p c d m
    unfold pw
    by_cases e : m = p
    · subst e
      simp only [Nat.lt_irrefl, if_false, Nat.lt_succ_self, if_true] at ih ⊢
      simp only [wset, if_true] at ih ⊢
      omega
    · have e1 : (p < m + 1) = (p < m) := by simp; omega
      have e2 : wset w p c m = w m := by simp [wset, e]
      have e3 : wset v p d m = v m := by simp [wset, e]
      simp only [e1, e2, e3]
      omega
theorem wp_set (w v : Nat → L4) (p : Nat) (c d : L4) : wp (wset w p c) (wset v p d) = wset (wp w v) p (sp c d).2 := by
  funext k
  unfold wp wset
  by_cases e : k = p <;> simp [e]
theorem tW_mul {n : Nat} {t : Tu} (ht : okT n t) (w v : Nat → L4) : wp (tW t w) (tW t v) = tW t (wp w v) ∧ (pw (tW t w) (tW t v) n + 2 * (tS t w + tS t v)) % 4 = (pw w v n + 2 * tS t (wp w v)) % 4 := by
  match t, ht with
  | .one k p, ht =>
    obtain ⟨h1, h2⟩ := m1_fin k (w p) (v p)
    have h3 := pw_set w v p (t1 k (w p)).1 (t1 k (v p)).1 n
    rw [if_pos (show p < n from ht), if_pos (show p < n from ht)] at h3
    constructor
    · show wp (wset w p _) (wset v p _) = wset (wp w v) p (t1 k (sp (w p) (v p)).2).1
      rw [wp_set, h1]
    · show (pw (wset w p _) (wset v p _) n + 2 * ((t1 k (w p)).2 + (t1 k (v p)).2)) % 4 = (pw w v n + 2 * (t1 k (sp (w p) (v p)).2).2) % 4
      omega
  | .two k a b, ht =>
    obtain ⟨ha, hb, hab⟩ := ht
    obtain ⟨h1, h2, h3⟩ := m2_fin k (w a) (w b) (v a) (v b)
    have h4 := pw_set w v a (t2 k (w a) (w b)).1 (t2 k (v a) (v b)).1 n
    have h5 := pw_set (wset w a (t2 k (w a) (w b)).1) (wset v a (t2 k (v a) (v b)).1) b (t2 k (w a) (w b)).2.1 (t2 k (v a) (v b)).2.1 n
    rw [if_pos ha, if_pos ha] at h4
    rw [if_pos hb, if_pos hb] at h5
    have e1 : wset w a (t2 k (w a) (w b)).1 b = w b := by simp [wset, Ne.symm hab]
    have e2 : wset v a (t2 k (v a) (v b)).1 b = v b := by simp [wset, Ne.symm hab]
    rw [e1, e2] at h5
    constructor
    · show wp (wset (wset w a _) b _) (wset (wset v a _) b _) = wset (wset (wp w v) a (t2 k (sp (w a) (v a)).2 (sp (w b) (v b)).2).1) b (t2 k (sp (w a) (v a)).2 (sp (w b) (v b)).2).2.1
      rw [wp_set, wp_set, h1, h2]
    · show (pw (wset (wset w a _) b _) (wset (wset v a _) b _) n + 2 * ((t2 k (w a) (w b)).2.2 + (t2 k (v a) (v b)).2.2)) % 4 = (pw w v n + 2 * (t2 k (sp (w a) (v a)).2 (sp (w b) (v b)).2).2.2) % 4
      omega
theorem sign_mul {n s0 : Nat} {t : Tu} (ht : okT n t) (w v : Nat → L4) (hu : ul w v n % 2 = 0) : ((s0 + 1 + pw w v n % 4 / 2) % 2 + tS t (wp w v)) % 2 = ((s0 + tS t w) % 2 + (1 + tS t v) % 2 + pw (tW t w) (tW t v) n % 4 / 2) % 2 := by
  have h1 := (tW_mul ht w v).2
  have h2 := (pw_cm w v n).2
  omega
end Tk00
end Z


namespace Z
open PySem PySem.Spec PyProof.Rows L2
namespace Tk00
/-! ## sizes of small vectors -/
theorem sq_nn (z : C) : 0 ≤ sq z := by
  unfold sq
  have h1 : 0 ≤ z.1 * z.1 := by rcases Int.le_total 0 z.1 with h | h; exact Int.mul_nonneg h h; exact Int.mul_nonneg_of_nonpos_of_nonpos h h
  have h2 : 0 ≤ z.2 * z.2 := by rcases Int.le_total 0 z.2 with h | h; exact Int.mul_nonneg h h; exact Int.mul_nonneg_of_nonpos_of_nonpos h h
  omega
theorem sum_nn (g : Nat → Int) (h : ∀ j, 0 ≤ g j) : ∀ xs : List Nat, 0 ≤ (xs.map g).sum
  | [] => Int.le_refl _
  | x :: r => by
    have := sum_nn g h r
    have := h x
    simp only [List.map_cons, List.sum_cons]; omega
theorem sum_pos (g : Nat → Int) (h : ∀ j, 0 ≤ g j) (k : Nat) (hk : 0 < g k) : ∀ xs : List Nat, k ∈ xs → 0 < (xs.map g).sum
  | [], q => by cases q
  | x :: r, q => by
    have h1 := sum_nn g h r
    have h2 := h x
    simp only [List.map_cons, List.sum_cons]
    rcases List.mem_cons.mp q with rfl | q
    · omega
    · have := sum_pos g h k hk r q; omega
theorem sum_le (g : Nat → Int) (M : Int) (hM : 0 ≤ M) : ∀ xs : List Nat, (∀ j ∈ xs, g j ≤ M) → (xs.map g).sum ≤ xs.length * M
  | [], _ => by simp
  | x :: r, h => by
    have h1 := sum_le g M hM r fun j hj => h j (List.mem_cons_of_mem _ hj)
    have h2 := h x List.mem_cons_self
    simp only [List.map_cons, List.sum_cons, List.length_cons]
    have : ((r.length + 1 : Nat) : Int) * M = r.length * M + M := by
      rw [show ((r.length + 1 : Nat) : Int) = (r.length : Int) + 1 by omega, Int.add_mul, Int.one_mul]
    omega
theorem x16 {x : Int} (h1 : -4 ≤ x) (h2 : x ≤ 4) : x * x ≤ 16 := by
  have : x = -4 ∨ x = -3 ∨ x = -2 ∨ x = -1 ∨ x = 0 ∨ x = 1 ∨ x = 2 ∨ x = 3 ∨ x = 4 := by omega
  rcases this with h | h | h | h | h | h | h | h | h <;> rw [h] <;> decide
theorem sz_lt {n : Nat} (h : n < 6) {f : Nat → C} (hf : BdV n 4 f) : sz n f < 1073741824 := by
  have N := N_le h
  have := sum_le (fun j => sq (f j)) 32 (by omega) (List.range (2 ^ n)) fun j hj => by
    obtain ⟨h1, h2, h3, h4⟩ := hf j (List.mem_range.mp hj)
    have := x16 h1 h2
    have := x16 h3 h4
    unfold sq; omega
  rw [List.length_range] at this
  unfold sz
  generalize 2 ^ n = q at *
  omega
theorem sz_set {n : Nat} (f : Nat → C) : 0 < sz n fun j => if j = 0 then (1, 0) else f j :=
  sum_pos _ (fun j => sq_nn _) 0 (by simp [sq]) _ (List.mem_range.mpr (Nat.pow_pos (by omega)))
theorem sz_nn (n : Nat) (f : Nat → C) : 0 ≤ sz n f := sum_nn _ (fun j => sq_nn _) _
theorem sgi_add {a b : Nat} (ha : a < 2) (hb : b < 2) : sgi ((a + b) % 2) = sgi a * sgi b := by
  have : a = 0 ∨ a = 1 := by omega
  have : b = 0 ∨ b = 1 := by omega
  rcases ‹a = 0 ∨ a = 1› with rfl | rfl <;> rcases ‹b = 0 ∨ b = 1› with rfl | rfl <;> rfl
theorem sgi_at {s : Nat} (h : s < 2) : atI [PyData.int 1, .int (-1)] (s : Int) = some (.int (sgi s)) := by
  have : s = 0 ∨ s = 1 := by omega
  rcases this with rfl | rfl <;> rfl
theorem sgi_bd (s : Nat) : -18446744073709551616 < sgi s ∧ sgi s < 18446744073709551616 := by
  unfold sgi; split <;> omega
theorem many8 {n : Nat} (h : n ≤ 3) : atI [PyData.int 1, .int 2, .int 4, .int 8] (n : Int) = some (nI (2 ^ n)) := by
  have : n = 0 ∨ n = 1 ∨ n = 2 ∨ n = 3 := by omega
  rcases this with rfl | rfl | rfl | rfl <;> rfl
theorem vL_push (N : Nat) (g : Nat → C) (z : C) : vL N g ++ [pD z] = vL (N + 1) fun j => if j = N then z else g j := by
  unfold vL
  rw [List.range_succ, List.map_append]
  congr 1
  · exact List.map_congr_left fun j hj => by
      have := List.mem_range.mp hj
      simp only
      rw [if_neg (by omega)]
  · simp
theorem vector_drawn {n : Nat} (h : n < 6) {fs : List D} (hf : FeedOk fs) (a1 a2 a3 : Option D) :
    ∃ (f : Nat → C) (fs' : List D), FeedOk fs' ∧ BdV n 2 f ∧ kLc [16] (bName 16) xYes (xTup (xaCons (xOp dSub (xCallT 0 m__law_draw (xaCons (xC (.int 5)) xaNil)) (xC (.int 2))) (xaCons (xOp dSub (xCallT 0 m__law_draw (xaCons (xC (.int 5)) xaNil)) (xC (.int 2))) xaNil))) ((List.range (2 ^ n)).map nI) [some (.list fs), a1, a2, a3, none, none, none, none, none, none, none, none, none, none, none, none, none] = some (vL (2 ^ n) f, [some (.list fs'), a1, a2, a3, none, none, none, none, none, none, none, none, none, none, none, none, none]) := by
  have N := N_le h
  obtain ⟨ys, s', e, f, fs', h1, h2, h3, h4⟩ := kLc_each (vs := [16]) (b := (bName 16)) (t := xYes) (e := (xTup (xaCons (xOp dSub (xCallT 0 m__law_draw (xaCons (xC (.int 5)) xaNil)) (xC (.int 2))) (xaCons (xOp dSub (xCallT 0 m__law_draw (xaCons (xC (.int 5)) xaNil)) (xC (.int 2))) xaNil)))) nI (fun d acc s => ∃ (f : Nat → C) (fs' : List D), FeedOk fs' ∧ (∀ j, Bd 2 (f j)) ∧ acc = vL d.length f ∧ s = [some (.list fs'), a1, a2, a3, none, none, none, none, none, none, none, none, none, none, none, none, none]) (s := [some (.list fs), a1, a2, a3, none, none, none, none, none, none, none, none, none, none, none, none, none]) (xs := List.range (2 ^ n)) (by rw [List.length_range]; omega) ⟨fun _ => (0, 0), fs, hf, fun _ => by simp [Bd], rfl, rfl⟩ fun d x r e acc s hi => by
    obtain ⟨f, f1, g1, g2, g3, g4⟩ := hi
    subst g3 g4
    obtain ⟨r1, f2, k1, k2, k3, k4⟩ := draw_spec g1 (n := 5) (by omega) (by omega)
    obtain ⟨r2, f3, l1, l2, l3, l4⟩ := draw_spec k4 (n := 5) (by omega) (by omega)
    refine ⟨_, _, pD (r1 - 2, r2 - 2), [some (.list f3), a1, a2, a3, none, none, none, none, none, none, none, none, none, none, none, none, some (nI x)], rfl, rfl, ?_, fun j => if j = d.length then (r1 - 2, r2 - 2) else f j, f3, l4, fun j => ?_, ?_, rfl⟩
    · simp [k1, l1]
    · simp only
      split
      · simp only [Bd]; omega
      · exact g2 j
    · rw [List.length_append, List.length_singleton, ← vL_push]
  rw [List.length_range] at h3
  subst h3 h4
  exact ⟨f, fs', h1, fun j _ => h2 j, e⟩
end Tk00
end Z


namespace Z
open PySem PySem.Spec PyProof.Rows L2
namespace Tk00
theorem led_spec {n : Nat} (h1 : 1 ≤ n) (h3 : n ≤ 3) {t : Tu} (ht : okT n t) {fs : List D} (hf : FeedOk fs) : ∃ fs', m__law_led fs [.str (nmT t), nI n, .list (plT t)] = some (.bool true, fs') ∧ FeedOk fs' := by
  have h : n < 6 := by omega
  have hn : n ≤ 1000 := by omega
  have N := N_le h
  have Np : 0 < 2 ^ n := Nat.pow_pos (by omega)
  obtain ⟨f0, f1, F1, B0, K0⟩ := vector_drawn h hf (some (.str (nmT t))) (some (nI n)) (some (.list (plT t)))
  have S0 := lsize_spec h (f := f0) fun j hj => (B0 j hj).mono (by omega)
  have ix0 : ixN (2 ^ n) 0 = some 0 := ixN_n Np
  obtain ⟨f, hB, hpos, hcase⟩ : ∃ f, BdV n 2 f ∧ 0 < sz n f ∧ ((sz n f0 = 0 ∧ (vL (2 ^ n) f0).set 0 (pD (1, 0)) = vL (2 ^ n) f) ∨ (sz n f0 ≠ 0 ∧ f0 = f)) := by
    by_cases hz : sz n f0 = 0
    · refine ⟨fun j => if j = 0 then (1, 0) else f0 j, fun j hj => ?_, sz_set f0, .inl ⟨hz, vL_set _ _ _⟩⟩
      simp only
      split
      · simp [Bd]
      · exact B0 j hj
    · exact ⟨f0, B0, by have := sz_nn n f0; omega, .inr ⟨hz, rfl⟩⟩
  obtain ⟨w, f2, d2, F2⟩ := letters_drawn hn F1
  obtain ⟨s0, f3, d3, hs0, F3⟩ := draw_n F2 (n := 2) (by omega) (by omega)
  have T1 := turned_spec hn ht w hs0
  have V1 := lturn_spec h ht f
  have V2 := turn_vector_spec h ht f
  have V3 := dNe_refl (vL_shaped (N := 2 ^ n) (T n t f))
  have tn : (1 : Int) + (if nmT t = "h" then 1 else 0) = tw t := by rw [← tw_nm]; omega
  have tb := tw_bd t
  have B4 : BdV n 4 (T n t f) := T_bd h ht (by omega) hB
  have M1 := lmean_spec h w (f := f) fun j hj => (hB j hj).mono (by omega)
  have M2 := lmean_spec h (tW t w) (f := T n t f) fun j hj => (B4 j hj).mono (by omega)
  have hm := mean_T h ht w f
  have S1 := lsize_spec h (f := T n t f) fun j hj => (B4 j hj).mono (by omega)
  have sp1 : 0 < sz n (T n t f) := by
    rw [size_T h ht]
    exact Int.mul_pos (by omega) hpos
  have sp2 := sz_lt h B4
  have M3 := mean_spec h (tW t w) (f := T n t f) (fun j hj => (B4 j hj).mono (by omega)) sp1 sp2
  have cr := gc_cross (ip n (T n t f) (lw n (tW t w) (T n t f) n)) (sz n (T n t f)) sp1
  have q1 : 1 ≤ sz n (T n t f) / gc (ip n (T n t f) (lw n (tW t w) (T n t f) n)) (sz n (T n t f)) := Int.le_ediv_of_mul_le (gc_pos sp1) (by rw [Int.one_mul]; exact gc_le sp1)
  have q2 : sz n (T n t f) / gc (ip n (T n t f) (lw n (tW t w) (T n t f) n)) (sz n (T n t f)) ≤ sz n (T n t f) := Int.ediv_le_self _ (by omega)
  have tl := tS_lt t w
  have se := sgi_add hs0 tl
  have s1l : (s0 + tS t w) % 2 < 2 := Nat.mod_lt _ (by omega)
  have I0 := sgi_at hs0
  have I1 := sgi_at s1l
  have eqm : ip n f (lw n w f n) * sgi s0 * tw t = ip n (T n t f) (lw n (tW t w) (T n t f) n) * sgi ((s0 + tS t w) % 2) := by
    rw [se, Int.mul_comm (ip n f _) (sgi s0), Int.mul_assoc, Int.mul_comm (ip n f _), ← hm]
    simp only [Int.mul_comm, Int.mul_left_comm, Int.mul_assoc]
  obtain ⟨v, f4, d4, F4⟩ := letters_drawn hn F3
  have A1 := lagree_spec hn w v
  have G1 := lsigned_spec hn w v s0 1
  have T2 := turned_spec hn ht (wp w v) (s0 := (s0 + 1 + pw w v n % 4 / 2) % 2) (Nat.mod_lt _ (by omega))
  have T3 := turned_spec hn ht v (s0 := 1) (by omega)
  have G2 := lsigned_spec hn (tW t w) (tW t v) ((s0 + tS t w) % 2) ((1 + tS t v) % 2)
  rw [(tW_mul (n := n) ht w v).1] at G2
  have sm := sign_mul (s0 := s0) ht w v
  have bs := back_spec t
  have T4 := turned_spec hn (bk_ok ht) (tW t w) s1l
  obtain ⟨b1, b2⟩ := tW_bk ht w
  rw [bk_pl, b1] at T4
  have b3 : ((s0 + tS t w) % 2 + tS (bk t) (tW t w)) % 2 = s0 := by omega
  rw [b3] at T4
  have S4 := dEq_refl (rp_shaped (s0 : Int) n w)
  have E1 := fun a : Int => dNe_refl (rp_shaped a n (tW t (wp w v)))
  refine ⟨f4, ?_, F4⟩
  have d3 : m__law_draw f2 [.int 2] = some (nI s0, f3) := d3
  have c1 : ((1 : Nat) : Int) = 1 := rfl
  have mn := many8 h3
  have w1 := sgi_bd s0
  have w2 := sgi_bd ((s0 + tS t w) % 2)
  have lm : (n : Int) ≤ 1000000 := by omega
  have r1 : ((2 ^ n : Nat) : Int) ≤ 1000000 := by
    have : ((2 ^ n : Nat) : Int) ≤ ((32 : Nat) : Int) := Int.ofNat_le.mpr N
    generalize ((2 ^ n : Nat) : Int) = z at *
    omega
  have r2 : (-1000000 : Int) ≤ ((2 ^ n : Nat) : Int) := Int.le_trans (by decide) (Int.natCast_nonneg _)
  clear hm se
  generalize ip n (T n t f) (lw n (tW t w) (T n t f) n) / gc (ip n (T n t f) (lw n (tW t w) (T n t f) n)) (sz n (T n t f)) = p at *
  generalize sz n (T n t f) / gc (ip n (T n t f) (lw n (tW t w) (T n t f) n)) (sz n (T n t f)) = q at *
  generalize ip n (T n t f) (lw n (tW t w) (T n t f) n) = m2 at *
  generalize ip n f (lw n w f n) = m1 at *
  have z1 : -18446744073709551616 < sz n (T n t f) := by omega
  have z2 : sz n (T n t f) < 18446744073709551616 := by omega
  have q3 : -18446744073709551616 < q := by omega
  have q4 : q < 18446744073709551616 := by omega
  have q5 : ¬ q < 1 := by omega
  have t3 : -18446744073709551616 < tw t := by omega
  have t4 : tw t < 18446744073709551616 := by omega
  generalize sz n (T n t f) = z at *
  generalize tw t = k at *
  by_cases hu : ul w v n % 2 = 0
  · have sm := sm hu
    rw [← sm] at G2
    clear sm
    generalize (s0 + tS t w) % 2 = s1 at *
    generalize (1 + tS t v) % 2 = s2 at *
    generalize (s0 + 1 + pw w v n % 4 / 2) % 2 = s3 at *
    generalize (s3 + tS t (wp w v)) % 2 = s4 at *
    rcases hcase with ⟨hz, e0⟩ | ⟨hz, e0⟩
    · simp only [m__law_led, fnT, mb__law_led, startM, nI, c1] at *
      simp [-Int.natCast_pow, mn, dRg_n, r1, r2, xLc_ap, K0, S0, hz, e0, Np, ix0, d2, d3, T1, V1, V2, V3, tn, M1, M2, M3, I0, I1, w1, w2, t3, t4, eqm, S1, q3, q4, q5, z1, z2, cr, d4, A1, hu, G1, G2, T2, T3, E1, bs, T4, S4, outT]
    · subst e0
      simp only [m__law_led, fnT, mb__law_led, startM, nI, c1] at *
      simp [-Int.natCast_pow, mn, dRg_n, r1, r2, xLc_ap, K0, S0, hz, Np, ix0, d2, d3, T1, V1, V2, V3, tn, M1, M2, M3, I0, I1, w1, w2, t3, t4, eqm, S1, q3, q4, q5, z1, z2, cr, d4, A1, hu, G1, G2, T2, T3, E1, bs, T4, S4, outT]
  · clear sm
    generalize (s0 + tS t w) % 2 = s1 at *
    rcases hcase with ⟨hz, e0⟩ | ⟨hz, e0⟩
    · simp only [m__law_led, fnT, mb__law_led, startM, nI, c1] at *
      simp [-Int.natCast_pow, mn, dRg_n, r1, r2, xLc_ap, K0, S0, hz, e0, Np, ix0, d2, d3, T1, V1, V2, V3, tn, M1, M2, M3, I0, I1, w1, w2, t3, t4, eqm, S1, q3, q4, q5, z1, z2, cr, d4, A1, hu, G1, G2, T2, T3, E1, bs, T4, S4, outT]
    · subst e0
      simp only [m__law_led, fnT, mb__law_led, startM, nI, c1] at *
      simp [-Int.natCast_pow, mn, dRg_n, r1, r2, xLc_ap, K0, S0, hz, Np, ix0, d2, d3, T1, V1, V2, V3, tn, M1, M2, M3, I0, I1, w1, w2, t3, t4, eqm, S1, q3, q4, q5, z1, z2, cr, d4, A1, hu, G1, G2, T2, T3, E1, bs, T4, S4, outT]
end Tk00
end Z


namespace Z
open PySem PySem.Spec PyProof.Rows L2
namespace Tk00
/-! ## the law -/
theorem two_in1 (k : S1) : dIn false (.str (Str.ofString (nm1 k))) (.list [.str (Str.ofString "cx"), .str (Str.ofString "cz"), .str (Str.ofString "sw")]) = some (.bool false) := by
  rw [dIn_t3]
  cases k <;> simp [nm1]
theorem two_in2 (k : S2) : dIn false (.str (Str.ofString (nm2 k))) (.list [.str (Str.ofString "cx"), .str (Str.ofString "cz"), .str (Str.ofString "sw")]) = some (.bool true) := by
  rw [dIn_t3]
  cases k <;> simp [nm2]
theorem law_one (k : S1) (a : Option D) {fs : List D} (hfs : FeedOk fs) : ∃ fs', FeedOk fs' ∧ (mForget [3, 4, 5, 6, 7] (mSeq (mSet 4 (xOp dAdd (xC (.int 1)) (xFn dInt (xaCons (xOp (dIn false) (xVar 3) (xLst (xDisp (xaCons (xC (.str "cx")) (xaCons (xC (.str "cz")) (xaCons (xC (.str "sw")) xaNil)))))) xaNil)))) (mSeq (mSet 5 (xOp dAdd (xVar 4) (xCallT 1 m__law_draw (xaCons (xOp dSub (xC (.int 4)) (xVar 4)) xaNil)))) (mSeq (mSetF 6 (xLc (xRg1 (xVar 5)) [9] (bName 9) xYes (xVar 9))) (mSeq (mSet 7 (xLst (xLc (xRg1 (xVar 4)) [9] (bName 9) xYes (xPopAt 6 (xCallT 1 m__law_draw (xaCons (xFn dLen (xaCons (xVar 6) xaNil)) xaNil)))))) (mIf (xOr (xT (xOp dNe (xFn (okX m_turn_size) (xaCons (xVar 3) xaNil)) (xVar 4))) (xNot (xTru (xCallT 1 m__law_led (xaCons (xVar 3) (xaCons (xVar 5) (xaCons (xVar 7) xaNil))))))) (mRet (xC (.bool false))) mSkip)))))) [a, some (.list fs), none, some (.str (nm1 k)), none, none, none, none, none, none, none] = some (.nx [a, some (.list fs'), none, none, none, none, none, none, none, none, none]) := by
  obtain ⟨r, f1, d1, hr, F1⟩ := draw_n hfs (n := 3) (by omega) (by omega)
  obtain ⟨p, f2, d2, hp, F2⟩ := draw_n F1 (n := 1 + r) (by omega) (by omega)
  obtain ⟨f3, d3, F3⟩ := led_spec (n := 1 + r) (by omega) (by omega) (t := .one k p) hp F2
  refine ⟨f3, F3, ?_⟩
  have T := two_in1 k
  have S := size1 k
  have d1 : m__law_draw fs [.int 3] = some (.int r, f1) := d1
  simp only [nI, nmT, plT] at *
  have : r = 0 ∨ r = 1 ∨ r = 2 := by omega
  rcases this with rfl | rfl | rfl
  · have : p = 0 := by omega
    subst this
    simp at d2 d3 d1
    simp [T, S, d1, xLc_ap, kLc, lcL, dRg_map, show rgI 0 1 = [0] from rfl, d2, d3, popO]
  · have : p = 0 ∨ p = 1 := by omega
    rcases this with rfl | rfl
    all_goals
      simp at d2 d3 d1
      simp [T, S, d1, xLc_ap, kLc, lcL, dRg_map, show rgI 0 1 = [0] from rfl, show rgI 0 2 = [0, 1] from rfl, d2, d3, popO]
  · have : p = 0 ∨ p = 1 ∨ p = 2 := by omega
    rcases this with rfl | rfl | rfl
    all_goals
      simp at d2 d3 d1
      simp [T, S, d1, xLc_ap, kLc, lcL, dRg_map, show rgI 0 1 = [0] from rfl, show rgI 0 3 = [0, 1, 2] from rfl, d2, d3, popO]
theorem law_two (k : S2) (a : Option D) {fs : List D} (hfs : FeedOk fs) : ∃ fs', FeedOk fs' ∧ (mForget [3, 4, 5, 6, 7] (mSeq (mSet 4 (xOp dAdd (xC (.int 1)) (xFn dInt (xaCons (xOp (dIn false) (xVar 3) (xLst (xDisp (xaCons (xC (.str "cx")) (xaCons (xC (.str "cz")) (xaCons (xC (.str "sw")) xaNil)))))) xaNil)))) (mSeq (mSet 5 (xOp dAdd (xVar 4) (xCallT 1 m__law_draw (xaCons (xOp dSub (xC (.int 4)) (xVar 4)) xaNil)))) (mSeq (mSetF 6 (xLc (xRg1 (xVar 5)) [9] (bName 9) xYes (xVar 9))) (mSeq (mSet 7 (xLst (xLc (xRg1 (xVar 4)) [9] (bName 9) xYes (xPopAt 6 (xCallT 1 m__law_draw (xaCons (xFn dLen (xaCons (xVar 6) xaNil)) xaNil)))))) (mIf (xOr (xT (xOp dNe (xFn (okX m_turn_size) (xaCons (xVar 3) xaNil)) (xVar 4))) (xNot (xTru (xCallT 1 m__law_led (xaCons (xVar 3) (xaCons (xVar 5) (xaCons (xVar 7) xaNil))))))) (mRet (xC (.bool false))) mSkip)))))) [a, some (.list fs), none, some (.str (nm2 k)), none, none, none, none, none, none, none] = some (.nx [a, some (.list fs'), none, none, none, none, none, none, none, none, none]) := by
  obtain ⟨r, f1, d1, hr, F1⟩ := draw_n hfs (n := 2) (by omega) (by omega)
  obtain ⟨p, f2, d2, hp, F2⟩ := draw_n F1 (n := 2 + r) (by omega) (by omega)
  obtain ⟨q, f3, d3, hq, F3⟩ := draw_n F2 (n := 1 + r) (by omega) (by omega)
  have L := fun x y hx hy hxy => led_spec (n := 2 + r) (by omega) (by omega) (t := .two k x y) ⟨hx, hy, hxy⟩ F3
  have T := two_in2 k
  have S := size2 k
  have d1 : m__law_draw fs [.int 2] = some (.int r, f1) := d1
  simp only [nI, nmT, plT] at *
  have : r = 0 ∨ r = 1 := by omega
  rcases this with rfl | rfl
  · have hq0 : q = 0 := by omega
    subst hq0
    have : p = 0 ∨ p = 1 := by omega
    rcases this with rfl | rfl
    · obtain ⟨f4, d4, F4⟩ := L 0 1 (by omega) (by omega) (by omega)
      refine ⟨f4, F4, ?_⟩
      simp at d2 d3 d1 d4
      simp [T, S, d1, xLc_ap, kLc, lcL, dRg_map, show rgI 0 2 = [0, 1] from rfl, d2, d3, d4, popO]
    · obtain ⟨f4, d4, F4⟩ := L 1 0 (by omega) (by omega) (by omega)
      refine ⟨f4, F4, ?_⟩
      simp at d2 d3 d1 d4
      simp [T, S, d1, xLc_ap, kLc, lcL, dRg_map, show rgI 0 2 = [0, 1] from rfl, d2, d3, d4, popO]
  · have : p = 0 ∨ p = 1 ∨ p = 2 := by omega
    have cq : q = 0 ∨ q = 1 := by omega
    rcases this with rfl | rfl | rfl <;> rcases cq with rfl | rfl
    · obtain ⟨f4, d4, F4⟩ := L 0 1 (by omega) (by omega) (by omega)
      refine ⟨f4, F4, ?_⟩
      simp at d2 d3 d1 d4
      simp [T, S, d1, xLc_ap, kLc, lcL, dRg_map, show rgI 0 2 = [0, 1] from rfl, show rgI 0 3 = [0, 1, 2] from rfl, d2, d3, d4, popO]
    · obtain ⟨f4, d4, F4⟩ := L 0 2 (by omega) (by omega) (by omega)
      refine ⟨f4, F4, ?_⟩
      simp at d2 d3 d1 d4
      simp [T, S, d1, xLc_ap, kLc, lcL, dRg_map, show rgI 0 2 = [0, 1] from rfl, show rgI 0 3 = [0, 1, 2] from rfl, d2, d3, d4, popO]
    · obtain ⟨f4, d4, F4⟩ := L 1 0 (by omega) (by omega) (by omega)
      refine ⟨f4, F4, ?_⟩
      simp at d2 d3 d1 d4
      simp [T, S, d1, xLc_ap, kLc, lcL, dRg_map, show rgI 0 2 = [0, 1] from rfl, show rgI 0 3 = [0, 1, 2] from rfl, d2, d3, d4, popO]
    · obtain ⟨f4, d4, F4⟩ := L 1 2 (by omega) (by omega) (by omega)
      refine ⟨f4, F4, ?_⟩
      simp at d2 d3 d1 d4
      simp [T, S, d1, xLc_ap, kLc, lcL, dRg_map, show rgI 0 2 = [0, 1] from rfl, show rgI 0 3 = [0, 1, 2] from rfl, d2, d3, d4, popO]
    · obtain ⟨f4, d4, F4⟩ := L 2 0 (by omega) (by omega) (by omega)
      refine ⟨f4, F4, ?_⟩
      simp at d2 d3 d1 d4
      simp [T, S, d1, xLc_ap, kLc, lcL, dRg_map, show rgI 0 2 = [0, 1] from rfl, show rgI 0 3 = [0, 1, 2] from rfl, d2, d3, d4, popO]
    · obtain ⟨f4, d4, F4⟩ := L 2 1 (by omega) (by omega) (by omega)
      refine ⟨f4, F4, ?_⟩
      simp at d2 d3 d1 d4
      simp [T, S, d1, xLc_ap, kLc, lcL, dRg_map, show rgI 0 2 = [0, 1] from rfl, show rgI 0 3 = [0, 1, 2] from rfl, d2, d3, d4, popO]
def nmQ : S1 ⊕ S2 → String
  | .inl k => nm1 k
  | .inr k => nm2 k
theorem law_names (a : Option D) {fs : List D} (hfs : FeedOk fs) : ∃ fs', forL (bName 3) (mForget [3, 4, 5, 6, 7] (mSeq (mSet 4 (xOp dAdd (xC (.int 1)) (xFn dInt (xaCons (xOp (dIn false) (xVar 3) (xLst (xDisp (xaCons (xC (.str "cx")) (xaCons (xC (.str "cz")) (xaCons (xC (.str "sw")) xaNil)))))) xaNil)))) (mSeq (mSet 5 (xOp dAdd (xVar 4) (xCallT 1 m__law_draw (xaCons (xOp dSub (xC (.int 4)) (xVar 4)) xaNil)))) (mSeq (mSetF 6 (xLc (xRg1 (xVar 5)) [9] (bName 9) xYes (xVar 9))) (mSeq (mSet 7 (xLst (xLc (xRg1 (xVar 4)) [9] (bName 9) xYes (xPopAt 6 (xCallT 1 m__law_draw (xaCons (xFn dLen (xaCons (xVar 6) xaNil)) xaNil)))))) (mIf (xOr (xT (xOp dNe (xFn (okX m_turn_size) (xaCons (xVar 3) xaNil)) (xVar 4))) (xNot (xTru (xCallT 1 m__law_led (xaCons (xVar 3) (xaCons (xVar 5) (xaCons (xVar 7) xaNil))))))) (mRet (xC (.bool false))) mSkip)))))) [.str "h", .str "s", .str "r", .str "x", .str "y", .str "z", .str "cx", .str "cz", .str "sw"] [a, some (.list fs), none, none, none, none, none, none, none, none, none] = some (.nx [a, some (.list fs'), none, none, none, none, none, none, none, none, none]) := by
  obtain ⟨s', e, fs', h1, h2⟩ := for_ind (b := (bName 3)) (m := (mForget [3, 4, 5, 6, 7] (mSeq (mSet 4 (xOp dAdd (xC (.int 1)) (xFn dInt (xaCons (xOp (dIn false) (xVar 3) (xLst (xDisp (xaCons (xC (.str "cx")) (xaCons (xC (.str "cz")) (xaCons (xC (.str "sw")) xaNil)))))) xaNil)))) (mSeq (mSet 5 (xOp dAdd (xVar 4) (xCallT 1 m__law_draw (xaCons (xOp dSub (xC (.int 4)) (xVar 4)) xaNil)))) (mSeq (mSetF 6 (xLc (xRg1 (xVar 5)) [9] (bName 9) xYes (xVar 9))) (mSeq (mSet 7 (xLst (xLc (xRg1 (xVar 4)) [9] (bName 9) xYes (xPopAt 6 (xCallT 1 m__law_draw (xaCons (xFn dLen (xaCons (xVar 6) xaNil)) xaNil)))))) (mIf (xOr (xT (xOp dNe (xFn (okX m_turn_size) (xaCons (xVar 3) xaNil)) (xVar 4))) (xNot (xTru (xCallT 1 m__law_led (xaCons (xVar 3) (xaCons (xVar 5) (xaCons (xVar 7) xaNil))))))) (mRet (xC (.bool false))) mSkip))))))) (fun q => PyData.str (nmQ q)) (fun d s => ∃ fs', FeedOk fs' ∧ s = [a, some (.list fs'), none, none, none, none, none, none, none, none, none]) [.inl .h, .inl .s, .inl .r, .inl .x, .inl .y, .inl .z, .inr .cx, .inr .cz, .inr .sw] [] _ ⟨fs, hfs, rfl⟩ fun d x r s e hi => by
    obtain ⟨f1, g1, g2⟩ := hi
    subst g2
    cases x with
    | inl k =>
      obtain ⟨f2, k1, k2⟩ := law_one k a g1
      exact ⟨_, _, rfl, .inl k2, f2, k1, rfl⟩
    | inr k =>
      obtain ⟨f2, k1, k2⟩ := law_two k a g1
      exact ⟨_, _, rfl, .inl k2, f2, k1, rfl⟩
  subst h2
  exact ⟨fs', e⟩
theorem law_prods (a : Option D) {fs : List D} (hfs : FeedOk fs) : ∃ fs', FeedOk fs' ∧ forL (bName 2) (mForget [2] (mIf (xNot (xTru (xCallT 1 m__law_products xaNil))) (mRet (xC (.bool false))) mSkip)) [.int 0, .int 1, .int 2, .int 3] [a, some (.list fs), none, none, none, none, none, none, none, none, none] = some (.nx [a, some (.list fs'), none, none, none, none, none, none, none, none, none]) := by
  obtain ⟨s', e, fs', h1, h2⟩ := for_ind (b := (bName 2)) (m := (mForget [2] (mIf (xNot (xTru (xCallT 1 m__law_products xaNil))) (mRet (xC (.bool false))) mSkip))) PyData.int (fun d s => ∃ fs', FeedOk fs' ∧ s = [a, some (.list fs'), none, none, none, none, none, none, none, none, none]) [0, 1, 2, 3] [] _ ⟨fs, hfs, rfl⟩ fun d x r s e hi => by
    obtain ⟨f1, g1, g2⟩ := hi
    subst g2
    obtain ⟨f2, k1, k2⟩ := products_spec g1
    refine ⟨_, [a, some (.list f2), none, none, none, none, none, none, none, none, none], rfl, .inl ?_, f2, k2, rfl⟩
    simp [k1]
  subst h2
  exact ⟨fs', h1, e⟩
/-! ## names that are refused -/
theorem refused_spec (nm : String) (l : dEq (.int nm.length) (.int 1) = some (.bool false) ∨ dInS false (.str (Str.ofString nm)) c_ONE_WIRE = some (.bool false)) (h2 : nm ≠ "cx" ∧ nm ≠ "cz" ∧ nm ≠ "sw") (h3 : nm.length ≤ 1000) : m__law_refused [.str nm] = some (.bool true) := by
  have L : dLen [.str (Str.ofString nm)] = some (.int nm.length) := by
    simp only [dLen, len_os]
    rw [if_pos (Nat.le_trans h3 (by decide))]
  have I : dIn false (.str (Str.ofString nm)) c_TWO_WIRES = some (.bool false) := by
    have := dIn_t3 nm "cx" "cz" "sw"
    have e : dIn false (.str (Str.ofString nm)) c_TWO_WIRES = dIn false (.str (Str.ofString nm)) (.list [.str (Str.ofString "cx"), .str (Str.ofString "cz"), .str (Str.ofString "sw")]) := rfl
    rw [e, this]
    simp [h2]
  have W : m_turn_size [.str (Str.ofString nm)] = some (.inr ⟨"NoTurn", [("name", .str (Str.ofString nm))]⟩) := by
    simp only [m_turn_size, fnX, mb_turn_size, startM]
    rcases l with l | l
    · simp at l
      simp [L, l, I, mRaise_ap, outX]
    · by_cases e : (nm.length : Int) = 1
      · simp [L, e, l, I, mRaise_ap, outX]
      · simp [L, e, I, mRaise_ap, outX]
  simp only [m__law_refused, fnP, mb__law_refused, startM]
  simp [mTry_ap, mDropC_ap, xCall_ap, W, mSui_ap, dAttr_ap, dIsX_ap, lookup_os, outP]
end Tk00
end Z


namespace Z
open PySem PySem.Spec PyProof.Rows L2
namespace Tk00
theorem one_wire_no (nm : String) (c : Nat) (h : (Str.ofString nm).cps.toList = [c]) (hc : c ∉ [104, 115, 114, 120, 121, 122]) : dInS false (.str (Str.ofString nm)) c_ONE_WIRE = some (.bool false) := by
  have e2 : (Str.ofString "hsrxyz").cps.toList = [104, 115, 114, 120, 121, 122] := by
    show tl _ = _; rw [tl_os]; decide
  show dInS false (.str (Str.ofString nm)) (.str (Str.ofString "hsrxyz")) = _
  unfold dInS
  simp only [h, e2]
  simp [hc]
theorem ref_all (a : Option D) (fs : List D) : forL (bName 3) (mForget [3] (mIf (xNot (xTru (xFn m__law_refused (xaCons (xVar 3) xaNil)))) (mRet (xC (.bool false))) mSkip)) [.str (Str.ofString ""), .str (Str.ofString "t"), .str (Str.ofString "hs"), .str (Str.ofString "H"), .str (Str.ofString "cy"), .str (Str.ofString "swap"), .str (Str.ofString "xx")] [a, some (.list fs), none, none, none, none, none, none, none, none, none] = some (.nx [a, some (.list fs), none, none, none, none, none, none, none, none, none]) := by
  have r1 := refused_spec "" (.inl (by rw [dEq_ii]; rfl)) (by decide) (by decide)
  have r2 := refused_spec "t" (.inr (one_wire_no "t" 116 (by show tl _ = _; rw [tl_os]; decide) (by decide))) (by decide) (by decide)
  have r3 := refused_spec "hs" (.inl (by rw [dEq_ii]; rfl)) (by decide) (by decide)
  have r4 := refused_spec "H" (.inr (one_wire_no "H" 72 (by show tl _ = _; rw [tl_os]; decide) (by decide))) (by decide) (by decide)
  have r5 := refused_spec "cy" (.inl (by rw [dEq_ii]; rfl)) (by decide) (by decide)
  have r6 := refused_spec "swap" (.inl (by rw [dEq_ii]; rfl)) (by decide) (by decide)
  have r7 := refused_spec "xx" (.inl (by rw [dEq_ii]; rfl)) (by decide) (by decide)
  simp [forL_n, forL_c, r1, r2, r3, r4, r5, r6, r7]
theorem kk1 : kitB "int" "int" = some true := by decide +kernel
theorem kk2 : kitB "int" "bool" = some false := by decide +kernel
theorem kk3 : kitB "bool" "int" = some true := by decide +kernel
theorem kk4 : kitB "NoneType" "int" = some false := by decide +kernel
theorem kk5 : kitB "str" "int" = some false := by decide +kernel
theorem kk6 : kitB "list" "int" = some false := by decide +kernel
theorem kk7 : kitB "tuple" "int" = some false := by decide +kernel
theorem iw_int (i : Int) : m_is_whole [.int i] = some (.bool true) := by
  simp [m_is_whole, fnP, mb_is_whole, startM, outP, tyD, kk1, kk2]
theorem iw_bool (b : Bool) : m_is_whole [.bool b] = some (.bool false) := by
  simp [m_is_whole, fnP, mb_is_whole, startM, outP, tyD, kk3, kb_bool]
theorem iw_none : m_is_whole [.none] = some (.bool false) := by
  simp [m_is_whole, fnP, mb_is_whole, startM, outP, tyD, kk4]
theorem iw_str (z : Str) : m_is_whole [.str z] = some (.bool false) := by
  simp [m_is_whole, fnP, mb_is_whole, startM, outP, tyD, kk5]
theorem iw_list (z : List D) : m_is_whole [.list z] = some (.bool false) := by
  simp [m_is_whole, fnP, mb_is_whole, startM, outP, tyD, kk6]
theorem iw_tuple (z : List D) : m_is_whole [.tuple z] = some (.bool false) := by
  simp [m_is_whole, fnP, mb_is_whole, startM, outP, tyD, kk7]
theorem wS_str {n : Nat} {s : String} (w : Nat → L4) (h : (List.range n).map (fun k => code (w k)) = tl (Str.ofString s)) : wS n w = Str.ofString s := tl_ext h
def w3 (a b c : L4) : Nat → L4 := fun k => if k = 0 then a else if k = 1 then b else c
theorem end1 : m_turned [.str "cx", .list [.int 0, .int 1], .tuple [.str "YY", .int 0]] = some (.tuple [.str "XZ", .int 1]) := by
  have := turned_spec (n := 2) (by omega) (t := .two .cx 0 1) ⟨by omega, by omega, by omega⟩ (w2 .Y .Y) (s0 := 0) (by omega)
  have e1 : wS 2 (w2 .Y .Y) = Str.ofString "YY" := pS_os .Y .Y
  have e2 : wS 2 (tW (.two .cx 0 1) (w2 .Y .Y)) = Str.ofString "XZ" := wS_str _ (by rw [tl_os]; decide)
  have e3 : ((0 + tS (.two .cx 0 1) (w2 .Y .Y)) % 2) = 1 := by decide
  rw [e1, e2, e3] at this
  exact this
theorem end2 : m_letter_product [.str "XYZ", .str "YZX"] = some (.tuple [.int 3, .str "ZXY"]) := by
  have := lprod_spec (m := 3) (by omega) (w3 .X .Y .Z) (w3 .Y .Z .X)
  have e1 : wS 3 (w3 .X .Y .Z) = Str.ofString "XYZ" := wS_str _ (by rw [tl_os]; decide)
  have e2 : wS 3 (w3 .Y .Z .X) = Str.ofString "YZX" := wS_str _ (by rw [tl_os]; decide)
  have e3 : wS 3 (wp (w3 .X .Y .Z) (w3 .Y .Z .X)) = Str.ofString "ZXY" := wS_str _ (by rw [tl_os]; decide)
  have e4 : pw (w3 .X .Y .Z) (w3 .Y .Z .X) 3 % 4 = 3 := by decide
  rw [e1, e2, e3, e4] at this
  exact this
theorem law_true (ns : List Int) (_ : ns.length ≤ 63) : m_law [.list (ns.map PyData.int)] = some (.bool true) := by
  obtain ⟨fs, d0, F0⟩ := feed_spec ns
  obtain ⟨f1, F1, L1⟩ := law_prods (some (.list (ns.map .int))) F0
  obtain ⟨f2, L2⟩ := law_names (some (.list (ns.map .int))) F1
  have L3 := ref_all (some (.list (ns.map .int))) f2
  have b1 := back_spec (.one .s 0)
  have b2 := back_spec (.one .r 0)
  have b3 := back_spec (.one .h 0)
  have b4 := back_spec (.two .cx 0 1)
  have s1 : dEq (.tuple [.str (Str.ofString "XZ"), .int 1]) (.tuple [.str (Str.ofString "XZ"), .int 1]) = some (.bool true) := dEq_refl (by simp [SeqAt.shaped, PyData.canLay0, PyData.canLayAll0, PyData.depth, PyData.depthAll, strOk_os])
  have s2 : dEq (.tuple [.int 3, .str (Str.ofString "ZXY")]) (.tuple [.int 3, .str (Str.ofString "ZXY")]) = some (.bool true) := dEq_refl (by simp [SeqAt.shaped, PyData.canLay0, PyData.canLayAll0, PyData.depth, PyData.depthAll, strOk_os])
  have s3 : dEq (.list [.str (Str.ofString "r"), .str (Str.ofString "s"), .str (Str.ofString "h"), .str (Str.ofString "cx")]) (.list [.str (Str.ofString "r"), .str (Str.ofString "s"), .str (Str.ofString "h"), .str (Str.ofString "cx")]) = some (.bool true) := dEq_refl (by simp [SeqAt.shaped, PyData.canLay0, PyData.canLayAll0, PyData.depth, PyData.depthAll, strOk_os])
  simp only [nmT, nm1, nm2, bk] at b1 b2 b3 b4
  simp only [m_law, fnP, mb_law, startM]
  simp [d0, mFor_ap, kFor_ap, dRg_map, show rgI 0 4 = [0, 1, 2, 3] from rfl, L1, L2, L3, forL_n, forL_c, iw_int, iw_bool, iw_none, iw_str, iw_list, iw_tuple, dNotB, end1, end2, xLc_ap, kLc, lcL, b1, b2, b3, b4, s1, s2, s3, outP]
end Tk00
end Z


namespace Z
open PySem PySem.Spec PyProof.Rows L2
namespace Tk00
def fns : List He.DefD := [defD "single_product" s_single_product, defD "letter_product" s_letter_product, defD "do_agree" s_do_agree, defD "signed_product" s_signed_product, defD "weight_of" s_weight_of, defD "letters_at" s_letters_at, defD "with_letters" s_with_letters, defD "turn_size" s_turn_size, defD "back_turn" s_back_turn, defD "parts_of" s_parts_of, defD "turned_pair" s_turned_pair, defD "turned_letter" s_turned_letter, defD "turned" s_turned, defD "is_whole" s_is_whole, defD "times_i" s_times_i, defD "sum_of" s_sum_of, defD "figure" s_figure, defD "flipped" s_flipped, defD "single_goals" s_single_goals, defD "double_goals" s_double_goals, defD "turn_vector" s_turn_vector, defD "size_of" s_size_of, defD "lowest" s_lowest, defD "mean_of" s_mean_of, defD "_law_feed" s__law_feed, defD "_law_draw" s__law_draw, defD "_law_letters" s__law_letters, defD "_law_product" s__law_product, defD "_law_agree" s__law_agree, defD "_law_signed" s__law_signed, defD "_law_times_i" s__law_times_i, defD "_law_turn" s__law_turn, defD "_law_size" s__law_size, defD "_law_mean" s__law_mean, defD "_law_refused" s__law_refused, defD "_law_products" s__law_products, defD "_law_led" s__law_led, defD "law" s_law, initD "NoTurn" "NoTurn.__init__" (initOf (top 3))]
theorem sci_NoTurn : FnScope ["self", "name"] ["self", "name"] (defScope (initOf (top 3))) := ⟨rfl, rfl, rfl, by decide +kernel, rfl, by decide +kernel, by decide +kernel⟩
def fas : List He.Fa := [.glo "single_product", .glo "letter_product", .glo "do_agree", .glo "signed_product", .glo "weight_of", .glo "letters_at", .glo "with_letters", .glo "turn_size", .glo "back_turn", .glo "parts_of", .glo "turned_pair", .glo "turned_letter", .glo "turned", .glo "is_whole", .glo "times_i", .glo "sum_of", .glo "figure", .glo "flipped", .glo "single_goals", .glo "double_goals", .glo "turn_vector", .glo "size_of", .glo "lowest", .glo "mean_of", .glo "_law_feed", .glo "_law_draw", .glo "_law_letters", .glo "_law_product", .glo "_law_agree", .glo "_law_signed", .glo "_law_times_i", .glo "_law_turn", .glo "_law_size", .glo "_law_mean", .glo "_law_refused", .glo "_law_products", .glo "_law_led", .glo "law", .free "zip", .free "len", .free "list", .free "enumerate", .free "int", .free "isinstance", .free "bool", .free "range", .free "max", .free "min", .free "sum", .free "abs", .glo "NoTurn", .glo "WireError", .glo "BadGroup", .glo "PHASES", .glo "SINGLES", .glo "PARTS", .glo "BACKS", .glo "LETTER_TURNS"]
def tabs : List He.Tab := [(fun K => He.ga K "PHASES", ["XY", "YZ", "ZX", "YX", "ZY", "XZ"]), (fun K => He.ga K "SINGLES", ["hX", "hY", "hZ", "sX", "sY", "sZ", "rX", "rY", "rZ", "xX", "xY", "xZ", "yX", "yY", "yZ", "zX", "zY", "zZ"]), (fun K => He.ga K "PARTS", ["cxXI", "cxZI", "cxIX", "cxIZ", "czXI", "czZI", "czIX", "czIZ", "swXI", "swZI", "swIX", "swIZ"]), (fun K => He.ga K "BACKS", ["s", "r"]), (fun K => He.ga K "LETTER_TURNS", ["X", "Y", "Z"])]
def exB (K : PySem.W.Frag) : Bool := true && (cvG K "PLAIN" cv_PLAIN) && (cvT K (He.ga K "PHASES") kv_PHASES) && (cvT K (He.ga K "SINGLES") kv_SINGLES) && (cvT K (He.ga K "PARTS") kv_PARTS) && (cvG K "ONE_WIRE" cv_ONE_WIRE) && (cvG K "TWO_WIRES" cv_TWO_WIRES) && (cvT K (He.ga K "BACKS") kv_BACKS) && (cvG K "NOTHING" cv_NOTHING) && (cvT K (He.ga K "LETTER_TURNS") kv_LETTER_TURNS) && (rzB K "NoTurn" ["name"]) && (bfB K "gcd" "math.gcd") && (subB K "NoTurn" [("NoTurn", true)]) && (atB K ["NoTurn"] "name") && (isB K "WireError" [("NoTurn", true)]) && (isB K "BadGroup" [("NoTurn", false)])
abbrev R : PySem.W.OpenRow := PySem.W.OpenLaw.row PySem.Challenge.rw_steadywires_k00_whole_letters_turns_and
abbrev hk : PySem.W.Hook := He.hookX 5 fas fns tabs [] exB
def ob (s : PySem.W.SharedT) : He.AlX := He.obsX 5 fas fns tabs [] exB (HandSHeadRun.getT s)
theorem ob_eq (s : PySem.W.SharedT) : ob s = hk.obs s.abs := He.obsX_eq (HandSHeadRun.getT_eq s)
def loose0 : List Str := ["gcd", "WireError", "NoTurn", "BadGroup", "PLAIN", "PHASES", "single_product", "letter_product", "do_agree", "signed_product", "weight_of", "letters_at", "with_letters", "SINGLES", "PARTS", "ONE_WIRE", "TWO_WIRES", "BACKS", "turn_size", "back_turn"]
def loose1 : List Str := ["parts_of", "turned_pair", "turned_letter", "turned", "is_whole", "NOTHING", "LETTER_TURNS", "times_i", "sum_of", "figure", "flipped", "single_goals", "double_goals", "turn_vector", "size_of", "lowest", "mean_of", "_law_feed", "_law_draw", "_law_letters"]
def loose2 : List Str := ["_law_product", "_law_agree", "_law_signed", "_law_times_i", "_law_turn", "_law_size", "_law_mean", "_law_refused", "_law_products", "_law_led"]
def loose : List Str := loose0 ++ loose1 ++ loose2
theorem facts {P : Program} {w : World} {K : PySem.W.Frag} {h : Heap} {mg : Str → Option Value} {f : Addr} (X : K.In h) (G : h.Ns mainGlobals mg) (hfa : mg ("law" : Str) = some (.ref f)) (c : He.SaysX fas fns tabs [] exB w h K) :
    ∃ fd : FuncData, (∀ (s : Shared) (v : Value), BindsTo s fd ⟨[v], []⟩ [("script", v)]) ∧ ∀ base : Heap, K.In base → base.Ns mainGlobals mg → FnOk P w K mg base CX0 6 f fd ["script"] (spP K m_law) := by
  obtain ⟨fd_single_product, O_single_product⟩ := c.t.d.def_ 0 (d := defD "single_product" s_single_product) rfl
  have P_single_product : FnP K "single_product" "single_product" s_single_product (He.ga K "single_product") fd_single_product := O_single_product
  have hm_single_product := He.glo_ok X G (c.t.d.fact 0 (f := .glo "single_product") rfl)
  obtain ⟨fd_letter_product, O_letter_product⟩ := c.t.d.def_ 1 (d := defD "letter_product" s_letter_product) rfl
  have P_letter_product : FnP K "letter_product" "letter_product" s_letter_product (He.ga K "letter_product") fd_letter_product := O_letter_product
  have hm_letter_product := He.glo_ok X G (c.t.d.fact 1 (f := .glo "letter_product") rfl)
  obtain ⟨fd_do_agree, O_do_agree⟩ := c.t.d.def_ 2 (d := defD "do_agree" s_do_agree) rfl
  have P_do_agree : FnP K "do_agree" "do_agree" s_do_agree (He.ga K "do_agree") fd_do_agree := O_do_agree
  have hm_do_agree := He.glo_ok X G (c.t.d.fact 2 (f := .glo "do_agree") rfl)
  obtain ⟨fd_signed_product, O_signed_product⟩ := c.t.d.def_ 3 (d := defD "signed_product" s_signed_product) rfl
  have P_signed_product : FnP K "signed_product" "signed_product" s_signed_product (He.ga K "signed_product") fd_signed_product := O_signed_product
  have hm_signed_product := He.glo_ok X G (c.t.d.fact 3 (f := .glo "signed_product") rfl)
  obtain ⟨fd_weight_of, O_weight_of⟩ := c.t.d.def_ 4 (d := defD "weight_of" s_weight_of) rfl
  have P_weight_of : FnP K "weight_of" "weight_of" s_weight_of (He.ga K "weight_of") fd_weight_of := O_weight_of
  have hm_weight_of := He.glo_ok X G (c.t.d.fact 4 (f := .glo "weight_of") rfl)
  obtain ⟨fd_letters_at, O_letters_at⟩ := c.t.d.def_ 5 (d := defD "letters_at" s_letters_at) rfl
  have P_letters_at : FnP K "letters_at" "letters_at" s_letters_at (He.ga K "letters_at") fd_letters_at := O_letters_at
  have hm_letters_at := He.glo_ok X G (c.t.d.fact 5 (f := .glo "letters_at") rfl)
  obtain ⟨fd_with_letters, O_with_letters⟩ := c.t.d.def_ 6 (d := defD "with_letters" s_with_letters) rfl
  have P_with_letters : FnP K "with_letters" "with_letters" s_with_letters (He.ga K "with_letters") fd_with_letters := O_with_letters
  have hm_with_letters := He.glo_ok X G (c.t.d.fact 6 (f := .glo "with_letters") rfl)
  obtain ⟨fd_turn_size, O_turn_size⟩ := c.t.d.def_ 7 (d := defD "turn_size" s_turn_size) rfl
  have P_turn_size : FnP K "turn_size" "turn_size" s_turn_size (He.ga K "turn_size") fd_turn_size := O_turn_size
  have hm_turn_size := He.glo_ok X G (c.t.d.fact 7 (f := .glo "turn_size") rfl)
  obtain ⟨fd_back_turn, O_back_turn⟩ := c.t.d.def_ 8 (d := defD "back_turn" s_back_turn) rfl
  have P_back_turn : FnP K "back_turn" "back_turn" s_back_turn (He.ga K "back_turn") fd_back_turn := O_back_turn
  have hm_back_turn := He.glo_ok X G (c.t.d.fact 8 (f := .glo "back_turn") rfl)
  obtain ⟨fd_parts_of, O_parts_of⟩ := c.t.d.def_ 9 (d := defD "parts_of" s_parts_of) rfl
  have P_parts_of : FnP K "parts_of" "parts_of" s_parts_of (He.ga K "parts_of") fd_parts_of := O_parts_of
  have hm_parts_of := He.glo_ok X G (c.t.d.fact 9 (f := .glo "parts_of") rfl)
  obtain ⟨fd_turned_pair, O_turned_pair⟩ := c.t.d.def_ 10 (d := defD "turned_pair" s_turned_pair) rfl
  have P_turned_pair : FnP K "turned_pair" "turned_pair" s_turned_pair (He.ga K "turned_pair") fd_turned_pair := O_turned_pair
  have hm_turned_pair := He.glo_ok X G (c.t.d.fact 10 (f := .glo "turned_pair") rfl)
  obtain ⟨fd_turned_letter, O_turned_letter⟩ := c.t.d.def_ 11 (d := defD "turned_letter" s_turned_letter) rfl
  have P_turned_letter : FnP K "turned_letter" "turned_letter" s_turned_letter (He.ga K "turned_letter") fd_turned_letter := O_turned_letter
  have hm_turned_letter := He.glo_ok X G (c.t.d.fact 11 (f := .glo "turned_letter") rfl)
  obtain ⟨fd_turned, O_turned⟩ := c.t.d.def_ 12 (d := defD "turned" s_turned) rfl
  have P_turned : FnP K "turned" "turned" s_turned (He.ga K "turned") fd_turned := O_turned
  have hm_turned := He.glo_ok X G (c.t.d.fact 12 (f := .glo "turned") rfl)
  obtain ⟨fd_is_whole, O_is_whole⟩ := c.t.d.def_ 13 (d := defD "is_whole" s_is_whole) rfl
  have P_is_whole : FnP K "is_whole" "is_whole" s_is_whole (He.ga K "is_whole") fd_is_whole := O_is_whole
  have hm_is_whole := He.glo_ok X G (c.t.d.fact 13 (f := .glo "is_whole") rfl)
  obtain ⟨fd_times_i, O_times_i⟩ := c.t.d.def_ 14 (d := defD "times_i" s_times_i) rfl
  have P_times_i : FnP K "times_i" "times_i" s_times_i (He.ga K "times_i") fd_times_i := O_times_i
  have hm_times_i := He.glo_ok X G (c.t.d.fact 14 (f := .glo "times_i") rfl)
  obtain ⟨fd_sum_of, O_sum_of⟩ := c.t.d.def_ 15 (d := defD "sum_of" s_sum_of) rfl
  have P_sum_of : FnP K "sum_of" "sum_of" s_sum_of (He.ga K "sum_of") fd_sum_of := O_sum_of
  have hm_sum_of := He.glo_ok X G (c.t.d.fact 15 (f := .glo "sum_of") rfl)
  obtain ⟨fd_figure, O_figure⟩ := c.t.d.def_ 16 (d := defD "figure" s_figure) rfl
  have P_figure : FnP K "figure" "figure" s_figure (He.ga K "figure") fd_figure := O_figure
  have hm_figure := He.glo_ok X G (c.t.d.fact 16 (f := .glo "figure") rfl)
  obtain ⟨fd_flipped, O_flipped⟩ := c.t.d.def_ 17 (d := defD "flipped" s_flipped) rfl
  have P_flipped : FnP K "flipped" "flipped" s_flipped (He.ga K "flipped") fd_flipped := O_flipped
  have hm_flipped := He.glo_ok X G (c.t.d.fact 17 (f := .glo "flipped") rfl)
  obtain ⟨fd_single_goals, O_single_goals⟩ := c.t.d.def_ 18 (d := defD "single_goals" s_single_goals) rfl
  have P_single_goals : FnP K "single_goals" "single_goals" s_single_goals (He.ga K "single_goals") fd_single_goals := O_single_goals
  have hm_single_goals := He.glo_ok X G (c.t.d.fact 18 (f := .glo "single_goals") rfl)
  obtain ⟨fd_double_goals, O_double_goals⟩ := c.t.d.def_ 19 (d := defD "double_goals" s_double_goals) rfl
  have P_double_goals : FnP K "double_goals" "double_goals" s_double_goals (He.ga K "double_goals") fd_double_goals := O_double_goals
  have hm_double_goals := He.glo_ok X G (c.t.d.fact 19 (f := .glo "double_goals") rfl)
  obtain ⟨fd_turn_vector, O_turn_vector⟩ := c.t.d.def_ 20 (d := defD "turn_vector" s_turn_vector) rfl
  have P_turn_vector : FnP K "turn_vector" "turn_vector" s_turn_vector (He.ga K "turn_vector") fd_turn_vector := O_turn_vector
  have hm_turn_vector := He.glo_ok X G (c.t.d.fact 20 (f := .glo "turn_vector") rfl)
  obtain ⟨fd_size_of, O_size_of⟩ := c.t.d.def_ 21 (d := defD "size_of" s_size_of) rfl
  have P_size_of : FnP K "size_of" "size_of" s_size_of (He.ga K "size_of") fd_size_of := O_size_of
  have hm_size_of := He.glo_ok X G (c.t.d.fact 21 (f := .glo "size_of") rfl)
  obtain ⟨fd_lowest, O_lowest⟩ := c.t.d.def_ 22 (d := defD "lowest" s_lowest) rfl
  have P_lowest : FnP K "lowest" "lowest" s_lowest (He.ga K "lowest") fd_lowest := O_lowest
  have hm_lowest := He.glo_ok X G (c.t.d.fact 22 (f := .glo "lowest") rfl)
  obtain ⟨fd_mean_of, O_mean_of⟩ := c.t.d.def_ 23 (d := defD "mean_of" s_mean_of) rfl
  have P_mean_of : FnP K "mean_of" "mean_of" s_mean_of (He.ga K "mean_of") fd_mean_of := O_mean_of
  have hm_mean_of := He.glo_ok X G (c.t.d.fact 23 (f := .glo "mean_of") rfl)
  obtain ⟨fd__law_feed, O__law_feed⟩ := c.t.d.def_ 24 (d := defD "_law_feed" s__law_feed) rfl
  have P__law_feed : FnP K "_law_feed" "_law_feed" s__law_feed (He.ga K "_law_feed") fd__law_feed := O__law_feed
  have hm__law_feed := He.glo_ok X G (c.t.d.fact 24 (f := .glo "_law_feed") rfl)
  obtain ⟨fd__law_draw, O__law_draw⟩ := c.t.d.def_ 25 (d := defD "_law_draw" s__law_draw) rfl
  have P__law_draw : FnP K "_law_draw" "_law_draw" s__law_draw (He.ga K "_law_draw") fd__law_draw := O__law_draw
  have hm__law_draw := He.glo_ok X G (c.t.d.fact 25 (f := .glo "_law_draw") rfl)
  obtain ⟨fd__law_letters, O__law_letters⟩ := c.t.d.def_ 26 (d := defD "_law_letters" s__law_letters) rfl
  have P__law_letters : FnP K "_law_letters" "_law_letters" s__law_letters (He.ga K "_law_letters") fd__law_letters := O__law_letters
  have hm__law_letters := He.glo_ok X G (c.t.d.fact 26 (f := .glo "_law_letters") rfl)
  obtain ⟨fd__law_product, O__law_product⟩ := c.t.d.def_ 27 (d := defD "_law_product" s__law_product) rfl
  have P__law_product : FnP K "_law_product" "_law_product" s__law_product (He.ga K "_law_product") fd__law_product := O__law_product
  have hm__law_product := He.glo_ok X G (c.t.d.fact 27 (f := .glo "_law_product") rfl)
  obtain ⟨fd__law_agree, O__law_agree⟩ := c.t.d.def_ 28 (d := defD "_law_agree" s__law_agree) rfl
  have P__law_agree : FnP K "_law_agree" "_law_agree" s__law_agree (He.ga K "_law_agree") fd__law_agree := O__law_agree
  have hm__law_agree := He.glo_ok X G (c.t.d.fact 28 (f := .glo "_law_agree") rfl)
  obtain ⟨fd__law_signed, O__law_signed⟩ := c.t.d.def_ 29 (d := defD "_law_signed" s__law_signed) rfl
  have P__law_signed : FnP K "_law_signed" "_law_signed" s__law_signed (He.ga K "_law_signed") fd__law_signed := O__law_signed
  have hm__law_signed := He.glo_ok X G (c.t.d.fact 29 (f := .glo "_law_signed") rfl)
  obtain ⟨fd__law_times_i, O__law_times_i⟩ := c.t.d.def_ 30 (d := defD "_law_times_i" s__law_times_i) rfl
  have P__law_times_i : FnP K "_law_times_i" "_law_times_i" s__law_times_i (He.ga K "_law_times_i") fd__law_times_i := O__law_times_i
  have hm__law_times_i := He.glo_ok X G (c.t.d.fact 30 (f := .glo "_law_times_i") rfl)
  obtain ⟨fd__law_turn, O__law_turn⟩ := c.t.d.def_ 31 (d := defD "_law_turn" s__law_turn) rfl
  have P__law_turn : FnP K "_law_turn" "_law_turn" s__law_turn (He.ga K "_law_turn") fd__law_turn := O__law_turn
  have hm__law_turn := He.glo_ok X G (c.t.d.fact 31 (f := .glo "_law_turn") rfl)
  obtain ⟨fd__law_size, O__law_size⟩ := c.t.d.def_ 32 (d := defD "_law_size" s__law_size) rfl
  have P__law_size : FnP K "_law_size" "_law_size" s__law_size (He.ga K "_law_size") fd__law_size := O__law_size
  have hm__law_size := He.glo_ok X G (c.t.d.fact 32 (f := .glo "_law_size") rfl)
  obtain ⟨fd__law_mean, O__law_mean⟩ := c.t.d.def_ 33 (d := defD "_law_mean" s__law_mean) rfl
  have P__law_mean : FnP K "_law_mean" "_law_mean" s__law_mean (He.ga K "_law_mean") fd__law_mean := O__law_mean
  have hm__law_mean := He.glo_ok X G (c.t.d.fact 33 (f := .glo "_law_mean") rfl)
  obtain ⟨fd__law_refused, O__law_refused⟩ := c.t.d.def_ 34 (d := defD "_law_refused" s__law_refused) rfl
  have P__law_refused : FnP K "_law_refused" "_law_refused" s__law_refused (He.ga K "_law_refused") fd__law_refused := O__law_refused
  have hm__law_refused := He.glo_ok X G (c.t.d.fact 34 (f := .glo "_law_refused") rfl)
  obtain ⟨fd__law_products, O__law_products⟩ := c.t.d.def_ 35 (d := defD "_law_products" s__law_products) rfl
  have P__law_products : FnP K "_law_products" "_law_products" s__law_products (He.ga K "_law_products") fd__law_products := O__law_products
  have hm__law_products := He.glo_ok X G (c.t.d.fact 35 (f := .glo "_law_products") rfl)
  obtain ⟨fd__law_led, O__law_led⟩ := c.t.d.def_ 36 (d := defD "_law_led" s__law_led) rfl
  have P__law_led : FnP K "_law_led" "_law_led" s__law_led (He.ga K "_law_led") fd__law_led := O__law_led
  have hm__law_led := He.glo_ok X G (c.t.d.fact 36 (f := .glo "_law_led") rfl)
  obtain ⟨fd_law, O_law⟩ := c.t.d.def_ 37 (d := defD "law" s_law) rfl
  have P_law : FnP K "law" "law" s_law (He.ga K "law") fd_law := O_law
  have hm_law := He.glo_ok X G (c.t.d.fact 37 (f := .glo "law") rfl)
  have b_zip := He.free_ok X G (c.t.d.fact 38 (f := .free "zip") rfl)
  have b_len := He.free_ok X G (c.t.d.fact 39 (f := .free "len") rfl)
  have b_list := He.free_ok X G (c.t.d.fact 40 (f := .free "list") rfl)
  have b_enumerate := He.free_ok X G (c.t.d.fact 41 (f := .free "enumerate") rfl)
  have b_int := He.free_ok X G (c.t.d.fact 42 (f := .free "int") rfl)
  have b_isinstance := He.free_ok X G (c.t.d.fact 43 (f := .free "isinstance") rfl)
  have b_bool := He.free_ok X G (c.t.d.fact 44 (f := .free "bool") rfl)
  have b_range := He.free_ok X G (c.t.d.fact 45 (f := .free "range") rfl)
  have b_max := He.free_ok X G (c.t.d.fact 46 (f := .free "max") rfl)
  have b_min := He.free_ok X G (c.t.d.fact 47 (f := .free "min") rfl)
  have b_sum := He.free_ok X G (c.t.d.fact 48 (f := .free "sum") rfl)
  have b_abs := He.free_ok X G (c.t.d.fact 49 (f := .free "abs") rfl)
  have ex := c.more
  unfold exB at ex
  simp only [Bool.and_eq_true] at ex
  have ex0 := ex.1.1.1.1.1.1.1.1.1.1.1.1.1.1.2
  have ex1 := ex.1.1.1.1.1.1.1.1.1.1.1.1.1.2
  have ex2 := ex.1.1.1.1.1.1.1.1.1.1.1.1.2
  have ex3 := ex.1.1.1.1.1.1.1.1.1.1.1.2
  have ex4 := ex.1.1.1.1.1.1.1.1.1.1.2
  have ex5 := ex.1.1.1.1.1.1.1.1.1.2
  have ex6 := ex.1.1.1.1.1.1.1.1.2
  have ex7 := ex.1.1.1.1.1.1.1.2
  have ex8 := ex.1.1.1.1.1.1.2
  have ex9 := ex.1.1.1.1.1.2
  have ex10 := ex.1.1.1.1.2
  have ex11 := ex.1.1.1.2
  have ex12 := ex.1.1.2
  have ex13 := ex.1.2
  have ex14 := ex.2
  obtain ⟨u_PLAIN, v_PLAIN, g_PLAIN⟩ := gc_cv (c := cv_PLAIN) X G ex0
  have g_PHASES := And.intro (He.glo_ok X G (c.t.d.fact 53 (f := .glo "PHASES") rfl)) (kdg_of (c.t.tab 0 (t := (fun K => He.ga K "PHASES", ["XY", "YZ", "ZX", "YX", "ZY", "XZ"])) rfl) (tabW c.t 0 (t := (fun K => He.ga K "PHASES", ["XY", "YZ", "ZX", "YX", "ZY", "XZ"])) rfl) ex1 : KDg K w (He.ga K "PHASES") d_PHASES)
  have g_SINGLES := And.intro (He.glo_ok X G (c.t.d.fact 54 (f := .glo "SINGLES") rfl)) (kdg_of (c.t.tab 1 (t := (fun K => He.ga K "SINGLES", ["hX", "hY", "hZ", "sX", "sY", "sZ", "rX", "rY", "rZ", "xX", "xY", "xZ", "yX", "yY", "yZ", "zX", "zY", "zZ"])) rfl) (tabW c.t 1 (t := (fun K => He.ga K "SINGLES", ["hX", "hY", "hZ", "sX", "sY", "sZ", "rX", "rY", "rZ", "xX", "xY", "xZ", "yX", "yY", "yZ", "zX", "zY", "zZ"])) rfl) ex2 : KDg K w (He.ga K "SINGLES") d_SINGLES)
  have g_PARTS := And.intro (He.glo_ok X G (c.t.d.fact 55 (f := .glo "PARTS") rfl)) (kdg_of (c.t.tab 2 (t := (fun K => He.ga K "PARTS", ["cxXI", "cxZI", "cxIX", "cxIZ", "czXI", "czZI", "czIX", "czIZ", "swXI", "swZI", "swIX", "swIZ"])) rfl) (tabW c.t 2 (t := (fun K => He.ga K "PARTS", ["cxXI", "cxZI", "cxIX", "cxIZ", "czXI", "czZI", "czIX", "czIZ", "swXI", "swZI", "swIX", "swIZ"])) rfl) ex3 : KDg K w (He.ga K "PARTS") d_PARTS)
  obtain ⟨u_ONE_WIRE, v_ONE_WIRE, g_ONE_WIRE⟩ := gc_cv (c := cv_ONE_WIRE) X G ex4
  obtain ⟨u_TWO_WIRES, v_TWO_WIRES, g_TWO_WIRES⟩ := gc_cv (c := cv_TWO_WIRES) X G ex5
  have g_BACKS := And.intro (He.glo_ok X G (c.t.d.fact 56 (f := .glo "BACKS") rfl)) (kdg_of (c.t.tab 3 (t := (fun K => He.ga K "BACKS", ["s", "r"])) rfl) (tabW c.t 3 (t := (fun K => He.ga K "BACKS", ["s", "r"])) rfl) ex6 : KDg K w (He.ga K "BACKS") d_BACKS)
  obtain ⟨u_NOTHING, v_NOTHING, g_NOTHING⟩ := gc_cv (c := cv_NOTHING) X G ex7
  have g_LETTER_TURNS := And.intro (He.glo_ok X G (c.t.d.fact 57 (f := .glo "LETTER_TURNS") rfl)) (kdg_of (c.t.tab 4 (t := (fun K => He.ga K "LETTER_TURNS", ["X", "Y", "Z"])) rfl) (tabW c.t 4 (t := (fun K => He.ga K "LETTER_TURNS", ["X", "Y", "Z"])) rfl) ex8 : KDg K w (He.ga K "LETTER_TURNS") d_LETTER_TURNS)
  have hc_NoTurn := He.glo_ok X G (c.t.d.fact 50 (f := .glo "NoTurn") rfl)
  have hc_WireError := He.glo_ok X G (c.t.d.fact 51 (f := .glo "WireError") rfl)
  have hc_BadGroup := He.glo_ok X G (c.t.d.fact 52 (f := .glo "BadGroup") rfl)
  obtain ⟨fdI_NoTurn, OI_NoTurn⟩ := c.t.d.def_ 38 (d := initD "NoTurn" "NoTurn.__init__" (initOf (top 3))) rfl
  have PI_NoTurn : FnP K "__init__" "NoTurn.__init__" (initOf (top 3)) (He.ma K (He.ga K "NoTurn") "__init__") fdI_NoTurn := OI_NoTurn
  have e := hfa.symm.trans hm_law
  cases e
  have bl := FunD.bindsA (ps := ["script"]) O_law fun _ _ _ _ _ _ us hl => match us, hl with | [_], _ => rfl
  refine ⟨fd_law, fun s v => bl s [v] rfl, fun base _ _ => ?_⟩
  have rz_NoTurn := rzB_ok ex9
  have R_NoTurn : RzOk P w K mg base "NoTurn" ["name"] ["self", "name"] := ⟨⟨_, fdI_NoTurn, rz_NoTurn.1, rz_NoTurn.2.1, rz_NoTurn.2.2.1, fun k => init_1 rz_NoTurn.1 PI_NoTurn sci_NoTurn rfl (rz_NoTurn.2.2.2 _ (by simp)) rfl rfl rfl rfl rfl, PI_NoTurn.bindsN fun _ _ _ _ _ _ us hl => match us, hl with | [_, _], _ => rfl⟩, hc_NoTurn⟩
  have F_single_product : FnAt P w K mg base 1 "single_product" ["one", "other"] (spP K m_single_product) := fnAtD (st := s_single_product) P_single_product (ok_single_product P_single_product g_PLAIN g_PHASES) hm_single_product fun _ _ _ _ _ _ us hl => match us, hl with | [_, _], _ => rfl
  have F_letter_product : FnAt P w K mg base 2 "letter_product" ["one", "other"] (spP K m_letter_product) := fnAtD (st := s_letter_product) P_letter_product (ok_letter_product P_letter_product b_zip F_single_product) hm_letter_product fun _ _ _ _ _ _ us hl => match us, hl with | [_, _], _ => rfl
  have F_do_agree : FnAt P w K mg base 1 "do_agree" ["one", "other"] (spP K m_do_agree) := fnAtD (st := s_do_agree) P_do_agree (ok_do_agree P_do_agree b_zip g_PLAIN) hm_do_agree fun _ _ _ _ _ _ us hl => match us, hl with | [_, _], _ => rfl
  have F_signed_product : FnAt P w K mg base 3 "signed_product" ["one", "other"] (spP K m_signed_product) := fnAtD (st := s_signed_product) P_signed_product (ok_signed_product P_signed_product F_letter_product) hm_signed_product fun _ _ _ _ _ _ us hl => match us, hl with | [_, _], _ => rfl
  have F_weight_of : FnAt P w K mg base 1 "weight_of" ["letters"] (spP K m_weight_of) := fnAtD (st := s_weight_of) P_weight_of (ok_weight_of P_weight_of b_len g_PLAIN) hm_weight_of fun _ _ _ _ _ _ us hl => match us, hl with | [_], _ => rfl
  have F_letters_at : FnAt P w K mg base 1 "letters_at" ["letters", "wires"] (spP K m_letters_at) := fnAtD (st := s_letters_at) P_letters_at (ok_letters_at P_letters_at) hm_letters_at fun _ _ _ _ _ _ us hl => match us, hl with | [_, _], _ => rfl
  have F_with_letters : FnAt P w K mg base 1 "with_letters" ["letters", "wires", "others"] (spP K m_with_letters) := fnAtD (st := s_with_letters) P_with_letters (ok_with_letters P_with_letters b_list b_zip) hm_with_letters fun _ _ _ _ _ _ us hl => match us, hl with | [_, _, _], _ => rfl
  have F_turn_size : FnAtX P w K mg base 3 "turn_size" ["name"] (spX K m_turn_size) := fnAtXD (st := s_turn_size) P_turn_size (ok_turn_size P_turn_size b_len g_ONE_WIRE g_TWO_WIRES R_NoTurn) hm_turn_size fun _ _ _ _ _ _ us hl => match us, hl with | [_], _ => rfl
  have F_back_turn : FnAt P w K mg base 1 "back_turn" ["name"] (spP K m_back_turn) := fnAtD (st := s_back_turn) P_back_turn (ok_back_turn P_back_turn g_BACKS) hm_back_turn fun _ _ _ _ _ _ us hl => match us, hl with | [_], _ => rfl
  have F_parts_of : FnAt P w K mg base 2 "parts_of" ["letters"] (spP K m_parts_of) := fnAtD (st := s_parts_of) P_parts_of (ok_parts_of P_parts_of b_enumerate g_PLAIN F_with_letters) hm_parts_of fun _ _ _ _ _ _ us hl => match us, hl with | [_], _ => rfl
  have F_turned_pair : FnAt P w K mg base 3 "turned_pair" ["name", "letters"] (spP K m_turned_pair) := fnAtD (st := s_turned_pair) P_turned_pair (ok_turned_pair P_turned_pair g_PLAIN g_PARTS F_parts_of F_letter_product) hm_turned_pair fun _ _ _ _ _ _ us hl => match us, hl with | [_, _], _ => rfl
  have F_turned_letter : FnAt P w K mg base 1 "turned_letter" ["name", "letter"] (spP K m_turned_letter) := fnAtD (st := s_turned_letter) P_turned_letter (ok_turned_letter P_turned_letter b_int g_PLAIN g_SINGLES) hm_turned_letter fun _ _ _ _ _ _ us hl => match us, hl with | [_, _], _ => rfl
  have F_turned : FnAt P w K mg base 4 "turned" ["name", "wires", "signed"] (spP K m_turned) := fnAtD (st := s_turned) P_turned (ok_turned P_turned F_letters_at F_turn_size F_turned_letter F_turned_pair F_with_letters) hm_turned fun _ _ _ _ _ _ us hl => match us, hl with | [_, _, _], _ => rfl
  have F_is_whole : FnAt P w K mg base 1 "is_whole" ["value"] (spP K m_is_whole) := fnAtD (st := s_is_whole) P_is_whole (ok_is_whole P_is_whole b_isinstance b_int b_bool) hm_is_whole fun _ _ _ _ _ _ us hl => match us, hl with | [_], _ => rfl
  have F_times_i : FnAt P w K mg base 1 "times_i" ["pair", "k"] (spP K m_times_i) := fnAtD (st := s_times_i) P_times_i (ok_times_i P_times_i b_range) hm_times_i fun _ _ _ _ _ _ us hl => match us, hl with | [_, _], _ => rfl
  have F_sum_of : FnAt P w K mg base 1 "sum_of" ["one", "other"] (spP K m_sum_of) := fnAtD (st := s_sum_of) P_sum_of (ok_sum_of P_sum_of) hm_sum_of fun _ _ _ _ _ _ us hl => match us, hl with | [_, _], _ => rfl
  have F_figure : FnAt P w K mg base 1 "figure" ["n", "index", "place"] (spP K m_figure) := fnAtD (st := s_figure) P_figure (ok_figure P_figure) hm_figure fun _ _ _ _ _ _ us hl => match us, hl with | [_, _, _], _ => rfl
  have F_flipped : FnAt P w K mg base 1 "flipped" ["n", "index", "place"] (spP K m_flipped) := fnAtD (st := s_flipped) P_flipped (ok_flipped P_flipped) hm_flipped fun _ _ _ _ _ _ us hl => match us, hl with | [_, _, _], _ => rfl
  have F_single_goals : FnAt P w K mg base 2 "single_goals" ["n", "index", "name", "place"] (spL K m_single_goals) := fnAtD (st := s_single_goals) P_single_goals (ok_single_goals P_single_goals b_max b_min F_figure F_flipped) hm_single_goals fun _ _ _ _ _ _ us hl => match us, hl with | [_, _, _, _], _ => rfl
  have F_double_goals : FnAt P w K mg base 2 "double_goals" ["n", "index", "name", "places"] (spL K m_double_goals) := fnAtD (st := s_double_goals) P_double_goals (ok_double_goals P_double_goals F_figure F_flipped) hm_double_goals fun _ _ _ _ _ _ us hl => match us, hl with | [_, _, _, _], _ => rfl
  have F_turn_vector : FnAt P w K mg base 3 "turn_vector" ["n", "vector", "name", "places"] (spL K m_turn_vector) := fnAtD (st := s_turn_vector) P_turn_vector (ok_turn_vector P_turn_vector b_len b_enumerate g_NOTHING F_single_goals F_double_goals F_sum_of F_times_i) hm_turn_vector fun _ _ _ _ _ _ us hl => match us, hl with | [_, _, _, _], _ => rfl
  have F_size_of : FnAt P w K mg base 1 "size_of" ["vector"] (spP K m_size_of) := fnAtD (st := s_size_of) P_size_of (ok_size_of P_size_of b_sum) hm_size_of fun _ _ _ _ _ _ us hl => match us, hl with | [_], _ => rfl
  have F_lowest : FnAt P w K mg base 1 "lowest" ["a", "b"] (spP K m_lowest) := fnAtD (st := s_lowest) P_lowest (ok_lowest P_lowest (bfB_ok X G ex10)) hm_lowest fun _ _ _ _ _ _ us hl => match us, hl with | [_, _], _ => rfl
  have F_mean_of : FnAt P w K mg base 4 "mean_of" ["n", "vector", "letters"] (spP K m_mean_of) := fnAtD (st := s_mean_of) P_mean_of (ok_mean_of P_mean_of b_list b_enumerate b_sum b_zip g_LETTER_TURNS F_turn_vector F_lowest F_size_of) hm_mean_of fun _ _ _ _ _ _ us hl => match us, hl with | [_, _, _], _ => rfl
  have F__law_feed : FnAt P w K mg base 1 "_law_feed" ["script"] (spL K m__law_feed) := fnAtD (st := s__law_feed) P__law_feed (ok__law_feed P__law_feed b_list) hm__law_feed fun _ _ _ _ _ _ us hl => match us, hl with | [_], _ => rfl
  have F__law_draw : FnAt P w K mg base 1 "_law_draw" ["feed", "many"] (spT K m__law_draw) := fnAtD (st := s__law_draw) P__law_draw (ok__law_draw P__law_draw b_len b_abs b_int) hm__law_draw fun _ _ _ _ _ _ us hl => match us, hl with | [_, _], _ => rfl
  have F__law_letters : FnAt P w K mg base 2 "_law_letters" ["feed", "m"] (spT K m__law_letters) := fnAtD (st := s__law_letters) P__law_letters (ok__law_letters P__law_letters b_range F__law_draw) hm__law_letters fun _ _ _ _ _ _ us hl => match us, hl with | [_, _], _ => rfl
  have F__law_product : FnAt P w K mg base 1 "_law_product" ["one", "other"] (spP K m__law_product) := fnAtD (st := s__law_product) P__law_product (ok__law_product P__law_product b_range b_len b_int) hm__law_product fun _ _ _ _ _ _ us hl => match us, hl with | [_, _], _ => rfl
  have F__law_agree : FnAt P w K mg base 1 "_law_agree" ["one", "other"] (spP K m__law_agree) := fnAtD (st := s__law_agree) P__law_agree (ok__law_agree P__law_agree b_len b_range) hm__law_agree fun _ _ _ _ _ _ us hl => match us, hl with | [_, _], _ => rfl
  have F__law_signed : FnAt P w K mg base 2 "_law_signed" ["one", "other"] (spP K m__law_signed) := fnAtD (st := s__law_signed) P__law_signed (ok__law_signed P__law_signed b_int F__law_product) hm__law_signed fun _ _ _ _ _ _ us hl => match us, hl with | [_, _], _ => rfl
  have F__law_times_i : FnAt P w K mg base 1 "_law_times_i" ["z", "k"] (spP K m__law_times_i) := fnAtD (st := s__law_times_i) P__law_times_i (ok__law_times_i P__law_times_i b_range) hm__law_times_i fun _ _ _ _ _ _ us hl => match us, hl with | [_, _], _ => rfl
  have F__law_turn : FnAt P w K mg base 2 "_law_turn" ["n", "vector", "name", "places"] (spL K m__law_turn) := fnAtD (st := s__law_turn) P__law_turn (ok__law_turn P__law_turn b_range b_len b_int F__law_times_i) hm__law_turn fun _ _ _ _ _ _ us hl => match us, hl with | [_, _, _, _], _ => rfl
  have F__law_size : FnAt P w K mg base 1 "_law_size" ["vector"] (spP K m__law_size) := fnAtD (st := s__law_size) P__law_size (ok__law_size P__law_size b_sum) hm__law_size fun _ _ _ _ _ _ us hl => match us, hl with | [_], _ => rfl
  have F__law_mean : FnAt P w K mg base 3 "_law_mean" ["n", "vector", "letters"] (spP K m__law_mean) := fnAtD (st := s__law_mean) P__law_mean (ok__law_mean P__law_mean b_range b_len F__law_turn) hm__law_mean fun _ _ _ _ _ _ us hl => match us, hl with | [_, _, _], _ => rfl
  have F__law_refused : FnAt P w K mg base 4 "_law_refused" ["name"] (spP K m__law_refused) := fnAtD (st := s__law_refused) P__law_refused (ok__law_refused P__law_refused b_isinstance F_turn_size ⟨subB_ok ex11, hc_NoTurn⟩ (atB_ok ex12) ⟨isB_ok ex13, hc_WireError⟩ ⟨isB_ok ex14, hc_BadGroup⟩) hm__law_refused fun _ _ _ _ _ _ us hl => match us, hl with | [_], _ => rfl
  have F__law_products : FnAt P w K mg base 4 "_law_products" ["feed"] (spT K m__law_products) := fnAtD (st := s__law_products) P__law_products (ok__law_products P__law_products b_len b_isinstance b_bool b_range F__law_draw F__law_letters F_letter_product F__law_product F_weight_of F_do_agree F__law_agree F_signed_product F__law_signed F_with_letters F_letters_at) hm__law_products fun _ _ _ _ _ _ us hl => match us, hl with | [_], _ => rfl
  have F__law_led : FnAt P w K mg base 5 "_law_led" ["feed", "name", "n", "wires"] (spT K m__law_led) := fnAtD (st := s__law_led) P__law_led (ok__law_led P__law_led b_range b_list b_int F__law_draw F__law_size F__law_letters F_turned F__law_turn F_turn_vector F__law_mean F_mean_of F__law_agree F__law_signed F_back_turn) hm__law_led fun _ _ _ _ _ _ us hl => match us, hl with | [_, _, _, _], _ => rfl
  exact ok_law P_law b_range b_int b_len F__law_feed F__law_products F__law_draw F_turn_size F__law_led F__law_refused F_is_whole F_turned F_letter_product F_back_turn
end Tk00
end Z
open PySem PySem.W PySem.Calls PyProof.Rows
set_option maxRecDepth 100000 in
set_option maxHeartbeats 0 in
theorem PySem.Challenge.cw_steadywires_k00_whole_letters_turns_and_holds : PySem.Challenge.rw_steadywires_k00_whole_letters_turns_and.Holds := by
  w_on; o_law
  o_head Z.Tk00.hk
  case hw => w_witness2
  case hc =>
    refine L2.walk_ofE (l := PySem.Challenge.rw_steadywires_k00_whole_letters_turns_and) (n := 63) (k := 6) (x := "script") (CX := L2.CX0) rfl (by decide) (by kernel_rfl) ⟨rfl, by decide, by decide⟩ ?F (fun _ _ _ _ z => z)
    intro w mg fa h Y G hmg0
    obtain ⟨K, KX, c⟩ := Y
    have hmg : mg ("law" : PySem.Str) = some (.ref fa) := by
      have e : (HandSHeadRun.topDef (OpenLaw.row PySem.Challenge.rw_steadywires_k00_whole_letters_turns_and).prog 56).name = ("law" : PySem.Str) := by kernel_rfl
      rw [← e]
      exact hmg0
    obtain ⟨fd, hb, hF⟩ := Z.Tk00.facts (P := (PySem.Challenge.rw_steadywires_k00_whole_letters_turns_and).prog) (w := w) KX G hmg c
    exact ⟨K, fd, Z.spLaw K, KX, hb, fun H a ns hl _ hS => ⟨a, ns, rfl, hS, hl, fun _ => rfl⟩, fun base h1 h2 => Z.law_of (hF base h1 h2) Z.Tk00.law_true⟩


