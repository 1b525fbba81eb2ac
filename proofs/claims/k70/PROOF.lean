import PyProof.Rows.All
import Wide.All
import OpenK.AllK
import Wide.FinOn
import HandS.ForMost
import HandS.SortInts
import HandS.Conv
import HandS.Zip
import HandS.Style
import HandS.More
import HandS.HeadHook1
import HandS.Exc
import HandS.Defaults
import HandS.TryMany
import HandS.Head0
import HandS.Head1
import HandS.Head2
import HandS.HeadEnd
import HandS.HeadHook2
import HandS.HeadHook3
import HandS.HeadHook4
import HandS.Text
import HandS.Codes
import HandS.IsInst
import KE.GoesZip
import KE.GoesMore
import PyProof.ListStr
import HandS.ExcOwn
import HandS.ExcField
import HandS.TryOnly
import HandS.ExcIs
import HandS.ExcInit
import PyProof.ExcBaseAll.ValueError
import KE.SortData
import HandS.SortRule
import HandS.Gcd
import HandS.Replace
import HandS.ReplaceLit
import PyProof.MeetsStr3
import PyProof.ToksMono
import HandS.Comp
import HandS.SortKw
import HandS.Iter
import PyProof.WalkInts
import PyProof.Rows.StrMul
import HandS.Dict
import HandS.Deep
import HandS.WordsDict
import PySem.Challenge.RW_steadywires_k70_whole_steps_of_rows
set_option Elab.async false
set_option linter.all false
set_option maxRecDepth 100000
set_option maxHeartbeats 4000000
namespace Z
open PySem PySem.Spec PyProof.Rows L2

/-! ## heaps, masks, data -/
abbrev D := PyData
abbrev MS := List (Option D)
def Ex (H H' : Hp) : Prop := ∀ a o, H a = some o → H' a = some o
theorem Ex.refl (H : Hp) : Ex H H := fun _ _ h => h
theorem Ex.trans {H H1 H2 : Hp} (a : Ex H H1) (b : Ex H1 H2) : Ex H H2 := fun x o h => b x o (a x o h)
theorem ex_upd {H : Hp} {p : Addr} {o : HO} (h : H p = none) : Ex H (upd H p o) := fun a u e => by
  rw [upd_ne (ne_of_none e h)]; exact e
theorem rd_ex {H H' : Hp} {a : Addr} {u : HO} (e : Ex H H') (h : Rd H a u) : Rd H' a u := by
  rcases h with h | ⟨o, h⟩
  · exact .inl (e _ _ h)
  · exact .inr ⟨o, e _ _ h⟩
theorem sql_ex {K : PySem.W.Frag} {H H' : Hp} {a : Addr} {xs : List V} (e : Ex H H') (h : SqL K H a xs) : SqL K H' a xs := by
  rcases h with (h | ⟨o, h⟩) | h
  · exact .inl (.inl (e _ _ h))
  · exact .inl (.inr ⟨o, e _ _ h⟩)
  · exact .inr h
theorem sqt_ex {K : PySem.W.Frag} {H H' : Hp} {a : Addr} {xs : List V} (e : Ex H H') (h : SqT K H a xs) : SqT K H' a xs := by
  rcases h with (h | ⟨o, h⟩) | h
  · exact .inl (.inl (e _ _ h))
  · exact .inl (.inr ⟨o, e _ _ h⟩)
  · exact .inr h
mutual
/-- plain data as it lies: lists that are tracked (or locked), tuples that stand -/
inductive Rp (K : PySem.W.Frag) (H : Hp) : V → PyData → Prop
  | non : Rp K H .non .none
  | bl (b : Bool) : Rp K H (.bl b) (.bool b)
  | int (i : Int) : Rp K H (.int i) (.int i)
  | str (x : Str) : Rp K H (.str x) (.str x)
  | lst {a : Addr} {xs : List V} {ds : List PyData} : SqL K H a xs → RpAll K H xs ds → Rp K H (.ref a) (.list ds)
  | tup {a : Addr} {xs : List V} {ds : List PyData} : SqT K H a xs → RpAll K H xs ds → Rp K H (.ref a) (.tuple ds)
inductive RpAll (K : PySem.W.Frag) (H : Hp) : List V → List PyData → Prop
  | nil : RpAll K H [] []
  | cons {v : V} {vs : List V} {d : PyData} {ds : List PyData} : Rp K H v d → RpAll K H vs ds → RpAll K H (v :: vs) (d :: ds)
end
mutual
theorem Rp.dp {K : PySem.W.Frag} {H : Hp} : ∀ {v : V} {d : PyData}, Rp K H v d → L2.Dp K H v d
  | _, _, .non => .non
  | _, _, .bl b => .bl b
  | _, _, .int i => .int i
  | _, _, .str x => .str x
  | _, _, .lst h a => .lst h (RpAll.dp a)
  | _, _, .tup h a => .tup h (RpAll.dp a)
theorem RpAll.dp {K : PySem.W.Frag} {H : Hp} : ∀ {vs : List V} {ds : List PyData}, RpAll K H vs ds → L2.DpAll K H vs ds
  | _, _, .nil => .nil
  | _, _, .cons h a => .cons (Rp.dp h) (RpAll.dp a)
end
mutual
theorem dp_ex {K : PySem.W.Frag} {H H' : Hp} (e : Ex H H') : ∀ {v : V} {d : PyData}, Rp K H v d → Rp K H' v d
  | _, _, .non => .non
  | _, _, .bl b => .bl b
  | _, _, .int i => .int i
  | _, _, .str x => .str x
  | _, _, .lst h a => .lst (sql_ex e h) (dpa_ex e a)
  | _, _, .tup h a => .tup (sqt_ex e h) (dpa_ex e a)
theorem dpa_ex {K : PySem.W.Frag} {H H' : Hp} (e : Ex H H') : ∀ {vs : List V} {ds : List PyData}, RpAll K H vs ds → RpAll K H' vs ds
  | _, _, .nil => .nil
  | _, _, .cons h a => .cons (dp_ex e h) (dpa_ex e a)
end
section
variable {K : PySem.W.Frag} {H : Hp}
theorem dpa_len : ∀ {vs : List V} {ds : List PyData}, RpAll K H vs ds → vs.length = ds.length
  | _, _, .nil => rfl
  | _, _, .cons _ a => congrArg (· + 1) (dpa_len a)
theorem dpa_app : ∀ {vs ws : List V} {ds es : List PyData}, RpAll K H vs ds → RpAll K H ws es → RpAll K H (vs ++ ws) (ds ++ es)
  | _, _, _, _, .nil, b => b
  | _, _, _, _, .cons h a, b => .cons h (dpa_app a b)
theorem dpa_get : ∀ {vs : List V} {ds : List PyData} {i : Nat} {d : PyData}, RpAll K H vs ds → ds[i]? = some d → ∃ v, vs[i]? = some v ∧ Rp K H v d
  | _, _, _, _, .nil, e => by simp at e
  | _, _, 0, _, .cons h a, e => by
    simp at e; subst e; exact ⟨_, rfl, h⟩
  | _, _, i + 1, _, .cons h a, e => by
    obtain ⟨v, h1, h2⟩ := dpa_get (i := i) a (by simpa using e)
    exact ⟨v, by simpa using h1, h2⟩
theorem dpa_drop : ∀ {vs : List V} {ds : List PyData} (n : Nat), RpAll K H vs ds → RpAll K H (vs.drop n) (ds.drop n)
  | _, _, 0, a => a
  | _, _, _ + 1, .nil => .nil
  | _, _, n + 1, .cons h a => dpa_drop n a
theorem dpa_take : ∀ {vs : List V} {ds : List PyData} (n : Nat), RpAll K H vs ds → RpAll K H (vs.take n) (ds.take n)
  | _, _, 0, _ => .nil
  | _, _, _ + 1, .nil => .nil
  | _, _, n + 1, .cons h a => .cons h (dpa_take n a)
theorem dpa_set {v : V} {d : PyData} (h : Rp K H v d) : ∀ {vs : List V} {ds : List PyData} (n : Nat), RpAll K H vs ds → RpAll K H (vs.set n v) (ds.set n d)
  | _, _, _, .nil => .nil
  | _, _, 0, .cons _ a => .cons h a
  | _, _, n + 1, .cons h' a => .cons h' (dpa_set h n a)
theorem dpa_erase : ∀ {vs : List V} {ds : List PyData} (n : Nat), RpAll K H vs ds → RpAll K H (vs.eraseIdx n) (ds.eraseIdx n)
  | _, _, _, .nil => .nil
  | _, _, 0, .cons _ a => a
  | _, _, n + 1, .cons h' a => .cons h' (dpa_erase n a)
theorem dpa_rev : ∀ {vs : List V} {ds : List PyData}, RpAll K H vs ds → RpAll K H vs.reverse ds.reverse
  | _, _, .nil => .nil
  | _, _, .cons h a => by
    rw [List.reverse_cons, List.reverse_cons]
    exact dpa_app (dpa_rev a) (.cons h .nil)
theorem dpa_ints : ∀ ns : List Int, RpAll K H (ns.map V.int) (ns.map PyData.int)
  | [] => .nil
  | n :: ns => .cons (.int n) (dpa_ints ns)
theorem dpa_strs : ∀ ns : List Str, RpAll K H (ns.map V.str) (ns.map PyData.str)
  | [] => .nil
  | n :: ns => .cons (.str n) (dpa_strs ns)
theorem of_ints : ∀ {vs : List V} {ns : List Int}, RpAll K H vs (ns.map PyData.int) → vs = ns.map V.int
  | _, [], .nil => rfl
  | _, n :: ns, .cons h a => by cases h; rw [of_ints a]; rfl
theorem of_strs : ∀ {vs : List V} {ns : List Str}, RpAll K H vs (ns.map PyData.str) → vs = ns.map V.str
  | _, [], .nil => rfl
  | _, n :: ns, .cons h a => by cases h; rw [of_strs a]; rfl
end

/-- the heap without what A tells -/
noncomputable def hide (A : Addr → Prop) (H : Hp) : Hp := fun a => @ite _ (A a) (Classical.propDecidable _) none (H a)
section
variable {A B : Addr → Prop} {H H' : Hp} {a p : Addr} {o : HO}
theorem hide_of (n : ¬ A a) (h : H a = some o) : hide A H a = some o := by unfold hide; rw [if_neg n]; exact h
theorem hide_no (n : A a) : hide A H a = none := by unfold hide; rw [if_pos n]
theorem of_hide (h : hide A H a = some o) : ¬ A a ∧ H a = some o := by
  unfold hide at h
  split at h
  · cases h
  · rename_i n; exact ⟨n, h⟩
theorem ex_hide_sub (h : ∀ a, A a → B a) : Ex (hide B H) (hide A H) := fun a o e => by
  obtain ⟨n, q⟩ := of_hide e
  exact hide_of (fun z => n (h a z)) q
theorem ex_hide (e : Ex H H') : Ex (hide A H) (hide A H') := fun a o q => by
  obtain ⟨n, q⟩ := of_hide q
  exact hide_of n (e a o q)
theorem ex_hide0 : Ex (hide A H) H := fun a o q => (of_hide q).2
theorem ex_hide_up (h : A p) : Ex (hide A H) (hide A (upd H p o)) := fun a u q => by
  obtain ⟨n, q⟩ := of_hide q
  refine hide_of n ?_
  rw [upd_ne (by intro e; subst e; exact n h)]; exact q
theorem hide_upd (h : H p = none) : hide (· = p) (upd H p o) = H := by
  funext b
  by_cases e : b = p
  · unfold hide; rw [if_pos e, e, h]
  · unfold hide; rw [if_neg e, upd_ne e]
/-- more may be hidden than what changed -/
theorem ex_wide (hs : ∀ a, A a → B a) (e : Ex (hide A H) (hide A H')) : Ex (hide B H) (hide B H') := fun a o q => by
  obtain ⟨n, q⟩ := of_hide q
  exact hide_of n (of_hide (e a o (hide_of (fun z => n (hs a z)) q))).2
end

/-! ## what is owned, and the relation of slots -/
def Own (O : List Nat) (σ : L2.St) : Addr → Prop := fun a => ∃ i, i ∈ O ∧ σ[i]? = some (some (.ref a))
theorem own_sub {L O : List Nat} {σ : L2.St} (h : ∀ i ∈ L, i ∈ O) : ∀ a, Own L σ a → Own O σ a := fun a ⟨i, hi, e⟩ => ⟨i, h i hi, e⟩
/-- the caller's: what it hides (C), the slots that it lends (Th) as they stood at the entry (τ) -/
structure Cn where
  C : Addr → Prop
  Th : List Nat
  τ : L2.St
def Cn.msk (c : Cn) (L : List Nat) (σ : L2.St) : Addr → Prop := fun a => c.C a ∨ Own L σ a
theorem msk_sub {c : Cn} {L O : List Nat} {σ : L2.St} (h : ∀ i ∈ L, i ∈ O) : ∀ a, c.msk L σ a → c.msk O σ a := fun a q => q.imp id (own_sub h a)

/-- keys of dicts, as data -/
def keyD : Key → D
  | .inl i => .int i
  | .inr z => .str z
def isDct : D → Bool
  | .dict _ => true
  | _ => false
inductive KvAll (K : PySem.W.Frag) (H : Hp) : List (Key × V) → List (D × D) → Prop
  | nil : KvAll K H [] []
  | cons {k : Key} {v : V} {d : D} {r : List (Key × V)} {r' : List (D × D)} : Rp K H v d → KvAll K H r r' → KvAll K H ((k, v) :: r) ((keyD k, d) :: r')
/-- an owned object: a list, a dict -/
inductive OwO (K : PySem.W.Frag) (H : Hp) : HO → D → Prop
  | lst {vs : List V} {ds : List D} : RpAll K H vs ds → OwO K H (.lst vs) (.list ds)
  | dk {kvs : List (Key × V)} {ps : List (D × D)} : KvAll K H kvs ps → OwO K H (.dK kvs) (.dict ps)
theorem kva_ex {K : PySem.W.Frag} {H H' : Hp} (e : Ex H H') : ∀ {kvs : List (Key × V)} {ps : List (D × D)}, KvAll K H kvs ps → KvAll K H' kvs ps
  | _, _, .nil => .nil
  | _, _, .cons h r => .cons (dp_ex e h) (kva_ex e r)
theorem owo_ex {K : PySem.W.Frag} {H H' : Hp} {o : HO} {d : D} (e : Ex H H') (h : OwO K H o d) : OwO K H' o d := by
  cases h with
  | lst a => exact .lst (dpa_ex e a)
  | dk a => exact .dk (kva_ex e a)
structure R (K : PySem.W.Frag) (c : Cn) (O : List Nat) (s : MS) (σ : L2.St) (H : Hp) : Prop where
  len : s.length = σ.length
  sh : ∀ (i : Nat) (d : D), i ∉ O → s[i]? = some (some d) → isDct d = false → ∃ v, σ[i]? = some (some v) ∧ Rp K (hide (c.msk O σ) H) v d
  ow : ∀ i : Nat, i ∈ O → ∃ (p : Addr) (o : HO) (d : D), σ[i]? = some (some (.ref p)) ∧ s[i]? = some (some d) ∧ H p = some o ∧ OwO K (hide (c.msk O σ) H) o d ∧ ¬ c.C p
  nd : ∀ (i j : Nat) (p : Addr), i ∈ O → j ∈ O → σ[i]? = some (some (.ref p)) → σ[j]? = some (some (.ref p)) → i = j
  cs : ∀ p, c.C p → ∃ o, H p = some o
  th : ∀ i : Nat, i ∈ c.Th → i ∈ O ∧ σ[i]? = c.τ[i]?
  tl : ∀ i : Nat, i ∈ c.Th → ∃ ds : List D, s[i]? = some (some (.list ds))
section
variable {K : PySem.W.Frag} {c : Cn} {O L W : List Nat} {s s' : MS} {σ : L2.St} {H H' : Hp}
theorem R.ex (r : R K c O s σ H) (e : Ex H H') : R K c O s σ H' where
  len := r.len
  sh := fun i d hi h hd => let ⟨v, h1, h2⟩ := r.sh i d hi h hd; ⟨v, h1, dp_ex (ex_hide e) h2⟩
  ow := fun i hi => let ⟨p, vs, ds, h1, h2, h3, h4, h5⟩ := r.ow i hi; ⟨p, vs, ds, h1, h2, e _ _ h3, owo_ex (ex_hide e) h4, h5⟩
  nd := r.nd
  cs := fun p h => let ⟨o, q⟩ := r.cs p h; ⟨o, e _ _ q⟩
  th := r.th
  tl := r.tl
/-- an owned list -/
theorem R.owl (r : R K c O s σ H) {i : Nat} {ds : List D} (hi : i ∈ O) (hs : s[i]? = some (some (.list ds))) : ∃ (p : Addr) (vs : List V), σ[i]? = some (some (.ref p)) ∧ H p = some (.lst vs) ∧ RpAll K (hide (c.msk O σ) H) vs ds ∧ ¬ c.C p := by
  obtain ⟨p, o, d, h1, h2, h3, h4, h5⟩ := r.ow i hi
  rw [hs] at h2
  cases h2
  cases h4 with
  | lst a => exact ⟨p, _, h1, h3, a, h5⟩
/-- a value in the i-th slot, read while L is hidden -/
theorem R.get (r : R K c O s σ H) (hL : ∀ j ∈ L, j ∈ O) {i : Nat} {d : D} (hi : i ∉ L) (h : s[i]? = some (some d)) (hd : isDct d = false) : ∃ v, σ[i]? = some (some v) ∧ Rp K (hide (c.msk L σ) H) v d := by
  by_cases ho : i ∈ O
  · obtain ⟨p, vs, ds, h1, h2, h3, h4, h5⟩ := r.ow i ho
    rw [h2] at h
    cases h
    cases h4 with
    | dk a => cases hd
    | lst a =>
      refine ⟨_, h1, .lst (.inl (.inl (hide_of (fun z => ?_) h3))) (dpa_ex (ex_hide_sub (msk_sub hL)) a)⟩
      rcases z with z | ⟨j, hj, z⟩
      · exact h5 z
      · exact hi (r.nd i j p ho (hL j hj) h1 z ▸ hj)
  · obtain ⟨v, h1, h2⟩ := r.sh i d ho h hd
    exact ⟨v, h1, dp_ex (ex_hide_sub (msk_sub hL)) h2⟩
/-- a slot takes a value that leans on nothing owned -/
theorem R.set (r : R K c O s σ H) {i : Nat} {v : V} {d : D} (hd : Rp K (hide (c.msk O σ) H) v d) (ht : i ∉ c.Th) (hi : i < σ.length) : R K c (O.filter (· ≠ i)) (s.set i (some d)) (σ.set i (some v)) H ∧ Ex (hide (Own O σ) H) (hide (Own (O.filter (· ≠ i)) (σ.set i (some v))) H) := by
  have own : ∀ a, Own (O.filter (· ≠ i)) (σ.set i (some v)) a → Own O σ a := fun a ⟨j, hj, e⟩ => by
    have hj' := List.mem_filter.mp hj
    have hne : j ≠ i := by simpa using hj'.2
    rw [List.getElem?_set_ne (Ne.symm hne)] at e
    exact ⟨j, hj'.1, e⟩
  have msk : ∀ a, c.msk (O.filter (· ≠ i)) (σ.set i (some v)) a → c.msk O σ a := fun a q => q.imp id (own a)
  refine ⟨⟨by simpa using r.len, fun j e hj h hd' => ?_, fun j hj => ?_, fun j k p hj hk h1 h2 => ?_, r.cs, fun j hj => ?_, fun j hj => ?_⟩, ex_hide_sub own⟩
  · by_cases e1 : j = i
    · subst e1
      rw [List.getElem?_set_self (by rw [r.len]; exact hi)] at h
      cases h
      exact ⟨v, List.getElem?_set_self hi, dp_ex (ex_hide_sub msk) hd⟩
    · rw [List.getElem?_set_ne (Ne.symm e1)] at h
      have hj' : j ∉ O := fun z => hj (List.mem_filter.mpr ⟨z, by simpa using e1⟩)
      obtain ⟨v', h1, h2⟩ := r.sh j e hj' h hd'
      exact ⟨v', by rw [List.getElem?_set_ne (Ne.symm e1)]; exact h1, dp_ex (ex_hide_sub msk) h2⟩
  · have hj' := List.mem_filter.mp hj
    have hne : j ≠ i := by simpa using hj'.2
    obtain ⟨p, vs, ds, h1, h2, h3, h4, h5⟩ := r.ow j hj'.1
    exact ⟨p, vs, ds, by rw [List.getElem?_set_ne (Ne.symm hne)]; exact h1, by rw [List.getElem?_set_ne (Ne.symm hne)]; exact h2, h3, owo_ex (ex_hide_sub msk) h4, h5⟩
  · have hj' := List.mem_filter.mp hj
    have hk' := List.mem_filter.mp hk
    have hne : j ≠ i := by simpa using hj'.2
    have hne' : k ≠ i := by simpa using hk'.2
    rw [List.getElem?_set_ne (Ne.symm hne)] at h1
    rw [List.getElem?_set_ne (Ne.symm hne')] at h2
    exact r.nd j k p hj'.1 hk'.1 h1 h2
  · have hne : j ≠ i := fun e => ht (e ▸ hj)
    obtain ⟨h1, h2⟩ := r.th j hj
    exact ⟨List.mem_filter.mpr ⟨h1, by simpa using hne⟩, by rw [List.getElem?_set_ne (Ne.symm hne)]; exact h2⟩
  · have hne : j ≠ i := fun e => ht (e ▸ hj)
    obtain ⟨ds, h1⟩ := r.tl j hj
    exact ⟨ds, by rw [List.getElem?_set_ne (Ne.symm hne)]; exact h1⟩
/-- a slot takes a new object: H hides it at p, H' shows it -/
theorem R.setOwnO {p : Addr} {o0 : HO} {d0 : D} (r : R K c O s σ (hide (· = p) H')) {i : Nat} (hp : H' p = some o0) (hd : OwO K (hide (c.msk O σ) (hide (· = p) H')) o0 d0) (ht : i ∉ c.Th) (hi : i < σ.length) :
    R K c (i :: O.filter (· ≠ i)) (s.set i (some d0)) (σ.set i (some (.ref p))) H' ∧ Ex (hide (Own O σ) (hide (· = p) H')) (hide (Own (i :: O.filter (· ≠ i)) (σ.set i (some (.ref p)))) H') := by
  have hn : ¬ c.C p := fun z => by
    obtain ⟨o, q⟩ := r.cs p z
    exact (of_hide q).1 rfl
  have own : ∀ a, Own (i :: O.filter (· ≠ i)) (σ.set i (some (.ref p))) a → a = p ∨ Own O σ a := fun a ⟨j, hj, e⟩ => by
    rcases List.mem_cons.mp hj with rfl | hj
    · rw [List.getElem?_set_self hi] at e
      cases e; exact .inl rfl
    · have hj' := List.mem_filter.mp hj
      have hne : j ≠ i := by simpa using hj'.2
      rw [List.getElem?_set_ne (Ne.symm hne)] at e
      exact .inr ⟨j, hj'.1, e⟩
  have big : Ex (hide (c.msk O σ) (hide (· = p) H')) (hide (c.msk (i :: O.filter (· ≠ i)) (σ.set i (some (.ref p)))) H') := fun a o q => by
    obtain ⟨n1, q⟩ := of_hide q
    obtain ⟨n2, q⟩ := of_hide q
    refine hide_of (fun z => ?_) q
    rcases z with z | z
    · exact n1 (.inl z)
    · rcases own a z with z | z
      · exact n2 z
      · exact n1 (.inr z)
  have pn : ∀ j ∈ O, σ[j]? ≠ some (some (.ref p)) := fun j hj e => by
    obtain ⟨p', _, _, h1, _, h3, _⟩ := r.ow j hj
    rw [e] at h1
    cases h1
    exact (of_hide h3).1 rfl
  refine ⟨⟨by simpa using r.len, fun j e hj h hd' => ?_, fun j hj => ?_, fun j k q hj hk h1 h2 => ?_, fun q h => ?_, fun j hj => ?_, fun j hj => ?_⟩, fun a o q => ?_⟩
  · have e1 : j ≠ i := fun z => hj (by rw [z]; exact List.mem_cons_self)
    rw [List.getElem?_set_ne (Ne.symm e1)] at h
    have hj' : j ∉ O := fun z => hj (List.mem_cons_of_mem _ (List.mem_filter.mpr ⟨z, by simpa using e1⟩))
    obtain ⟨v', h1, h2⟩ := r.sh j e hj' h hd'
    exact ⟨v', by rw [List.getElem?_set_ne (Ne.symm e1)]; exact h1, dp_ex big h2⟩
  · rcases List.mem_cons.mp hj with rfl | hj
    · exact ⟨p, o0, d0, List.getElem?_set_self hi, List.getElem?_set_self (by rw [r.len]; exact hi), hp, owo_ex big hd, hn⟩
    · have hj' := List.mem_filter.mp hj
      have hne : j ≠ i := by simpa using hj'.2
      obtain ⟨p', vs', ds', h1, h2, h3, h4, h5⟩ := r.ow j hj'.1
      exact ⟨p', vs', ds', by rw [List.getElem?_set_ne (Ne.symm hne)]; exact h1, by rw [List.getElem?_set_ne (Ne.symm hne)]; exact h2, (of_hide h3).2, owo_ex big h4, h5⟩
  · have two : ∀ j, j ∈ i :: O.filter (· ≠ i) → (σ.set i (some (.ref p)))[j]? = some (some (.ref q)) → (j = i ∧ q = p) ∨ (j ∈ O ∧ σ[j]? = some (some (.ref q)) ∧ q ≠ p) := fun j hj e => by
      rcases List.mem_cons.mp hj with rfl | hj
      · rw [List.getElem?_set_self hi] at e
        cases e; exact .inl ⟨rfl, rfl⟩
      · have hj' := List.mem_filter.mp hj
        have hne : j ≠ i := by simpa using hj'.2
        rw [List.getElem?_set_ne (Ne.symm hne)] at e
        exact .inr ⟨hj'.1, e, fun z => pn j hj'.1 (z ▸ e)⟩
    rcases two j hj h1 with ⟨a1, a2⟩ | ⟨a1, a2, a3⟩
    · rcases two k hk h2 with ⟨b1, b2⟩ | ⟨b1, b2, b3⟩
      · rw [a1, b1]
      · exact absurd a2 b3
    · rcases two k hk h2 with ⟨b1, b2⟩ | ⟨b1, b2, b3⟩
      · exact absurd b2 a3
      · exact r.nd j k q a1 b1 a2 b2
  · obtain ⟨o, q'⟩ := r.cs q h
    exact ⟨o, (of_hide q').2⟩
  · have hne : j ≠ i := fun e => ht (e ▸ hj)
    obtain ⟨h1, h2⟩ := r.th j hj
    exact ⟨List.mem_cons_of_mem _ (List.mem_filter.mpr ⟨h1, by simpa using hne⟩), by rw [List.getElem?_set_ne (Ne.symm hne)]; exact h2⟩
  · have hne : j ≠ i := fun e => ht (e ▸ hj)
    obtain ⟨ds, h1⟩ := r.tl j hj
    exact ⟨ds, by rw [List.getElem?_set_ne (Ne.symm hne)]; exact h1⟩
  · obtain ⟨n1, q⟩ := of_hide q
    obtain ⟨n2, q⟩ := of_hide q
    exact hide_of (fun z => (own a z).elim n2 n1) q
theorem R.setOwn {p : Addr} {vs : List V} {ds : List D} (r : R K c O s σ (hide (· = p) H')) {i : Nat} (hp : H' p = some (.lst vs)) (hd : RpAll K (hide (c.msk O σ) (hide (· = p) H')) vs ds) (ht : i ∉ c.Th) (hi : i < σ.length) :
    R K c (i :: O.filter (· ≠ i)) (s.set i (some (.list ds))) (σ.set i (some (.ref p))) H' ∧ Ex (hide (Own O σ) (hide (· = p) H')) (hide (Own (i :: O.filter (· ≠ i)) (σ.set i (some (.ref p)))) H') := r.setOwnO hp (.lst hd) ht hi
/-- an owned slot is let go -/
theorem R.free (r : R K c O s σ H) (hL : ∀ j ∈ L, j ∈ O) (ht : ∀ j ∈ c.Th, j ∈ L) : R K c L s σ H ∧ Ex (hide (Own O σ) H) (hide (Own L σ) H) := by
  refine ⟨⟨r.len, fun j e hj h hd => r.get hL hj h hd, fun j hj => ?_, fun j k p hj hk => r.nd j k p (hL j hj) (hL k hk), r.cs, fun j hj => ⟨ht j hj, (r.th j hj).2⟩, r.tl⟩, ex_hide_sub (own_sub hL)⟩
  obtain ⟨p, vs, ds, h1, h2, h3, h4, h5⟩ := r.ow j (hL j hj)
  exact ⟨p, vs, ds, h1, h2, h3, owo_ex (ex_hide_sub (msk_sub hL)) h4, h5⟩
/-- slots are forgotten -/
theorem R.forget (r : R K c O s σ H) {i : Nat} (hi : i ∉ O) : R K c O (s.set i none) σ H where
  len := by simpa using r.len
  sh := fun j d hj h hd => by
    by_cases e : j = i
    · subst e
      by_cases hl : j < s.length
      · rw [List.getElem?_set_self hl] at h; cases h
      · rw [List.getElem?_eq_none (by simp; omega)] at h; cases h
    · rw [List.getElem?_set_ne (Ne.symm e)] at h
      exact r.sh j d hj h hd
  ow := fun j hj => by
    have e : j ≠ i := fun z => hi (z ▸ hj)
    obtain ⟨p, vs, ds, h1, h2, h3⟩ := r.ow j hj
    exact ⟨p, vs, ds, h1, by rw [List.getElem?_set_ne (Ne.symm e)]; exact h2, h3⟩
  nd := r.nd
  cs := r.cs
  th := r.th
  tl := fun j hj => by
    have e : j ≠ i := fun z => hi (z ▸ (r.th j hj).1)
    obtain ⟨ds, h1⟩ := r.tl j hj
    exact ⟨ds, by rw [List.getElem?_set_ne (Ne.symm e)]; exact h1⟩
/-- an owned slot is let go and forgotten -/
theorem R.drop (r : R K c O s σ H) {i : Nat} (ht : i ∉ c.Th) : R K c (O.filter (· ≠ i)) (s.set i none) σ H ∧ Ex (hide (Own O σ) H) (hide (Own (O.filter (· ≠ i)) σ) H) := by
  have hL : ∀ j ∈ O.filter (· ≠ i), j ∈ O := fun j hj => (List.mem_filter.mp hj).1
  obtain ⟨r1, x1⟩ := r.free hL fun j hj => List.mem_filter.mpr ⟨(r.th j hj).1, by simpa using fun e : j = i => ht (e ▸ hj)⟩
  exact ⟨r1.forget fun z => by simpa using (List.mem_filter.mp z).2, x1⟩
/-- an owned object is changed -/
theorem R.chgO (r : R K c O s σ H) {i : Nat} {p : Addr} {o0 : HO} {d0 : D} (hi : i ∈ O) (hp : σ[i]? = some (some (.ref p))) (hd : OwO K (hide (c.msk O σ) H) o0 d0) (htl : i ∈ c.Th → ∃ ds : List D, d0 = .list ds) : R K c O (s.set i (some d0)) σ (upd H p o0) ∧ Ex (hide (Own [i] σ) H) (hide (Own [i] σ) (upd H p o0)) := by
  have hm : c.msk O σ p := .inr ⟨i, hi, hp⟩
  have e0 : Ex (hide (c.msk O σ) H) (hide (c.msk O σ) (upd H p o0)) := ex_hide_up hm
  have hl : i < s.length := by
    rw [r.len]
    exact (List.getElem?_eq_some_iff.mp hp).1
  refine ⟨⟨by simpa using r.len, fun j e hj h hd' => ?_, fun j hj => ?_, r.nd, fun q h => ?_, r.th, fun j hj => ?_⟩, ex_hide_up ⟨i, by simp, hp⟩⟩
  · have hne : j ≠ i := fun z => hj (z ▸ hi)
    rw [List.getElem?_set_ne (Ne.symm hne)] at h
    obtain ⟨v, h1, h2⟩ := r.sh j e hj h hd'
    exact ⟨v, h1, dp_ex e0 h2⟩
  · obtain ⟨p', vs', ds', h1, h2, h3, h4, h5⟩ := r.ow j hj
    by_cases hne : j = i
    · subst hne
      rw [hp] at h1
      cases h1
      exact ⟨p, o0, d0, hp, List.getElem?_set_self hl, upd_same, owo_ex e0 hd, h5⟩
    · have hpp : p' ≠ p := fun z => hne (r.nd j i p hj hi (z ▸ h1) hp)
      exact ⟨p', vs', ds', h1, by rw [List.getElem?_set_ne (Ne.symm hne)]; exact h2, by rw [upd_ne hpp]; exact h3, owo_ex e0 h4, h5⟩
  · by_cases e : q = p
    · exact ⟨_, by rw [e]; exact upd_same⟩
    · obtain ⟨o, z⟩ := r.cs q h
      exact ⟨o, by rw [upd_ne e]; exact z⟩
  · by_cases hne : j = i
    · subst hne
      obtain ⟨ds, e⟩ := htl hj
      exact ⟨ds, by rw [List.getElem?_set_self hl, e]⟩
    · obtain ⟨ds, h1⟩ := r.tl j hj
      exact ⟨ds, by rw [List.getElem?_set_ne (Ne.symm hne)]; exact h1⟩
theorem R.chg (r : R K c O s σ H) {i : Nat} {p : Addr} {vs : List V} {ds : List D} (hi : i ∈ O) (hp : σ[i]? = some (some (.ref p))) (hd : RpAll K (hide (c.msk O σ) H) vs ds) : R K c O (s.set i (some (.list ds))) σ (upd H p (.lst vs)) ∧ Ex (hide (Own [i] σ) H) (hide (Own [i] σ) (upd H p (.lst vs))) := r.chgO hi hp (.lst hd) fun _ => ⟨ds, rfl⟩
end
end Z


namespace Z
open PySem PySem.Spec PyProof.Rows L2

/-! ## mirrors: combinators over plain data -/
abbrev ME := MS → Option (D × MS)
abbrev MF := MS → Option (List D × MS)
abbrev MT := MS → Option (Bool × MS)
/-- an exception of an own class: the class's name, the fields -/
structure Exn where
  cls : Str
  fs : List (Str × D)
inductive Out where
  | nx (s : MS) | rt (d : D) (s : MS) | bk (s : MS) | ct (s : MS) | ex (x : Exn) (s : MS)
abbrev MM := MS → Option Out

/-- a value that is no dict -/
def nd (o : Option D) : Option D := o.bind fun d => if isDct d = true then none else some d
theorem nd_of {o : Option D} {d : D} (h : nd o = some d) : o = some d ∧ isDct d = false := by
  unfold nd at h
  cases o with
  | none => cases h
  | some d' =>
    simp only [Option.bind_some] at h
    split at h
    · cases h
    · rename_i n
      cases h
      exact ⟨rfl, by simpa using n⟩
def xVar (i : Nat) : ME := fun s => (nd (s.getD i none)).map fun d => (d, s)
def xC (d : D) : ME := fun s => some (d, s)
def xOp (f : D → D → Option D) (a b : ME) : ME := fun s => (a s).bind fun p => (b p.2).bind fun q => (f p.1 q.1).map fun z => (z, q.2)
def xUn (f : D → Option D) (a : ME) : ME := fun s => (a s).bind fun p => (f p.1).map fun z => (z, p.2)
def xaNil : MF := fun s => some ([], s)
def xaCons (a : ME) (r : MF) : MF := fun s => (a s).bind fun p => (r p.2).map fun q => (p.1 :: q.1, q.2)
def xFn (f : List D → Option D) (as : MF) : ME := fun s => (as s).bind fun p => (f p.1).map fun z => (z, p.2)
def xfFn (f : List D → Option (List D)) (as : MF) : MF := fun s => (as s).bind fun p => (f p.1).map fun z => (z, p.2)
def xLst (m : MF) : ME := fun s => (m s).map fun p => (.list p.1, p.2)
def xTup (m : MF) : ME := fun s => (m s).bind fun p => if p.1.length ≤ 1000 then some (.tuple p.1, p.2) else none
def xT (a : ME) : MT := fun s => (a s).bind fun p => match p.1 with
  | .bool b => some (b, p.2)
  | _ => none
def xB (t : MT) : ME := fun s => (t s).map fun p => (.bool p.1, p.2)
def xAnd (a b : MT) : MT := fun s => (a s).bind fun p => if p.1 = true then b p.2 else some (false, p.2)
def xOr (a b : MT) : MT := fun s => (a s).bind fun p => if p.1 = true then some (true, p.2) else b p.2
def xNot (a : MT) : MT := fun s => (a s).map fun p => (!p.1, p.2)
def xIf (c : MT) (a b : ME) : ME := fun s => (c s).bind fun p => if p.1 = true then a p.2 else b p.2

/-! ## contexts by what is fixed -/
structure G where
  P : Program
  w : World
  K : PySem.W.Frag
  mg : Str → Option Value
  base : Heap
  A : Around
  N : List Str
  sc : Scope
  fnc : Str → Bool
  calm : Bool := true
  ox : List Nat := []
structure InG (Γ : G) (X : Cx) : Prop where
  prog : X.prog = Γ.P
  w : X.w = Γ.w
  K : X.K = Γ.K
  mg : X.mg = Γ.mg
  base : X.base = Γ.base
  A : X.A = Γ.A
  N : X.N = Γ.N
  sc : X.env.scope = Γ.sc
  fnc : X.fn = Γ.fnc
  nd : Γ.N.Nodup
  calm : X.calm = Γ.calm
  xe : X.xe = fun _ _ => False
theorem InG.mgn {Γ : G} {X : Cx} {x : Str} {o : Option Value} (h : InG Γ X) (e : Γ.mg x = o) : X.mg x = o := by rw [h.mg]; exact e
theorem InG.nx {Γ : G} {X : Cx} {i : Nat} {x : Str} (h : InG Γ X) (e : Γ.N[i]? = some x) : X.N[i]? = some x := by rw [h.N]; exact e
theorem InG.cm {Γ : G} {X : Cx} (h : InG Γ X) (e : Γ.calm = true) : X.calm = true := h.calm.trans e
theorem InG.ndX {Γ : G} {X : Cx} (h : InG Γ X) : X.N.Nodup := by rw [h.N]; exact h.nd
def visB (sc : Scope) (x : Str) : Bool := match sc.names.lookup x with
  | some .local => true
  | some .cell => true
  | some .free => true
  | _ => false
theorem InG.vis {Γ : G} {X : Cx} {x : Str} (h : InG Γ X) (e : visB Γ.sc x = true) : Vis X.env.scope x := by
  rw [h.sc]
  unfold visB at e
  unfold Vis
  split at e
  · exact .inl ‹_›
  · exact .inr (.inl ‹_›)
  · exact .inr (.inr ‹_›)
  · cases e
theorem InG.gl {Γ : G} {X : Cx} {x : Str} (h : InG Γ X) (e : Γ.sc.names.lookup x = some .globalImplicit) : Gl X x := by
  show X.env.scope.names.lookup x = _
  rw [h.sc]; exact e

/-! ## judgements -/
def Sq (K : PySem.W.Frag) (H : Hp) (p : Addr) (vs : List V) : Prop := SqL K H p vs ∨ SqT K H p vs
theorem Sq.sq {K : PySem.W.Frag} {H : Hp} {p : Addr} {vs : List V} (h : Sq K H p vs) : SqL K H p vs ∨ SqT K H p vs := h
theorem sq_ex {K : PySem.W.Frag} {H H' : Hp} {a : Addr} {xs : List V} (e : Ex H H') (h : Sq K H a xs) : Sq K H' a xs := h.imp (sql_ex e) (sqt_ex e)
section
variable (K : PySem.W.Frag) (O L W : List Nat)
def SimE (t : TE) (m : ME) : Prop := ∀ (c : Cn) (σ : L2.St) (H : Hp) (s : MS), R K c O s σ H → ∀ d s', m s = some (d, s') → ∀ Q : VK,
  (∀ v H', R K c O s' σ H' → Ex (hide (Own W σ) H) (hide (Own W σ) H') → Rp K (hide (c.msk L σ) H') v d → Q v H') → t σ H Q
def SimF (t : TE) (m : MF) : Prop := ∀ (c : Cn) (σ : L2.St) (H : Hp) (s : MS), R K c O s σ H → ∀ ds s', m s = some (ds, s') → ∀ Q : VK,
  (∀ p vs H', H p = none → R K c O s' σ (hide (· = p) H') → Ex (hide (Own W σ) H) (hide (Own W σ) (hide (· = p) H')) → H' p = some (.lst vs) → RpAll K (hide (c.msk L σ) (hide (· = p) H')) vs ds → Q (.ref p) H') → t σ H Q
/-- a list or tuple that is read: what stands in it -/
def SimL (t : TE) (m : MF) : Prop := ∀ (c : Cn) (σ : L2.St) (H : Hp) (s : MS), R K c O s σ H → ∀ ds s', m s = some (ds, s') → ∀ Q : VK,
  (∀ p vs H', R K c O s' σ H' → Ex (hide (Own W σ) H) (hide (Own W σ) H') → Sq K H' p vs → RpAll K (hide (c.msk L σ) H') vs ds → Q (.ref p) H') → t σ H Q
def SimA (t : TA) (m : MF) : Prop := ∀ (c : Cn) (σ : L2.St) (H : Hp) (s : MS), R K c O s σ H → ∀ ds s', m s = some (ds, s') → ∀ Q : List V → Hp → Prop,
  (∀ vs H', R K c O s' σ H' → Ex (hide (Own W σ) H) (hide (Own W σ) H') → RpAll K (hide (c.msk L σ) H') vs ds → Q vs H') → t σ H Q
def SimT (t : TT) (m : MT) : Prop := ∀ (c : Cn) (σ : L2.St) (H : Hp) (s : MS), R K c O s σ H → ∀ b s', m s = some (b, s') → ∀ Q : Bool → Hp → Prop,
  (∀ H', R K c O s' σ H' → Ex (hide (Own W σ) H) (hide (Own W σ) H') → Q b H') → t σ H Q
end
section
variable (Γ : G) (O L W : List Nat)
def TrE (e : Expr) (m : ME) : Prop := ∃ t, (∀ X, InG Γ X → PE X e t) ∧ SimE Γ.K O L W t m
def TrF (e : Expr) (m : MF) : Prop := ∃ t, (∀ X, InG Γ X → PE X e t) ∧ SimF Γ.K O L W t m
def TrL (e : Expr) (m : MF) : Prop := ∃ t, (∀ X, InG Γ X → PE X e t) ∧ SimL Γ.K O L W t m
def TrA (es : List Expr) (m : MF) : Prop := ∃ t, (∀ X, InG Γ X → PA X es t) ∧ SimA Γ.K O L W t m
def TrT (e : Expr) (m : MT) : Prop := ∃ t, (∀ X, InG Γ X → PT X e t) ∧ SimT Γ.K O W t m
def TrW (e : Expr) (m : MT) : Prop := ∃ t, (∀ X, InG Γ X → PW X e t) ∧ SimT Γ.K O W t m
end

/-- between two steps nothing hidden by L is leaned on -/
theorem keep {c : Cn} {σ : L2.St} {L W : List Nat} {H H' : Hp} (hW : ∀ j ∈ W, j ∈ L) (e : Ex (hide (Own W σ) H) (hide (Own W σ) H')) : Ex (hide (c.msk L σ) H) (hide (c.msk L σ) H') :=
  ex_wide (fun a z => .inr (own_sub hW a z)) e
theorem msk_there {K : PySem.W.Frag} {c : Cn} {O L : List Nat} {s : MS} {σ : L2.St} {H : Hp} (r : R K c O s σ H) (hL : ∀ j ∈ L, j ∈ O) : ∀ a, c.msk L σ a → ∃ o, H a = some o := fun a z => by
  rcases z with z | ⟨i, hi, e⟩
  · exact r.cs a z
  · obtain ⟨p, vs, _, h1, _, h3, _⟩ := r.ow i (hL i hi)
    rw [e] at h1
    cases h1
    exact ⟨_, h3⟩

/-! ### weakenings -/
section
variable {Γ : G} {O L L' W W' : List Nat} {e : Expr} {m : ME}
theorem SimF.toE {K : PySem.W.Frag} {t : TE} {m : MF} (hL : ∀ j ∈ L, j ∈ O) (h : SimF K O L W t m) : SimE K O L W t (xLst m) := fun c σ H s r d s' e Q q => by
  unfold xLst at e
  cases e1 : m s with
  | none => rw [e1] at e; cases e
  | some p =>
    rw [e1] at e
    cases e
    refine h c σ H s r p.1 p.2 e1 Q fun a vs H' hp r' ex ha hd => q _ _ (r'.ex ex_hide0) (ex.trans (ex_hide ex_hide0)) (.lst (.inl (.inl (hide_of (fun z => ?_) ha))) (dpa_ex (ex_hide ex_hide0) hd))
    obtain ⟨o, z⟩ := msk_there r' hL a z
    exact (of_hide z).1 rfl
theorem tr_F {m : MF} (hL : ∀ j ∈ L, j ∈ O) (h : TrF Γ O L W e m) : TrE Γ O L W e (xLst m) := by
  obtain ⟨t, p, q⟩ := h
  exact ⟨t, p, q.toE hL⟩
/-- what stands in a list or tuple -/
def seqOf : D → Option (List D)
  | .list ds => some ds
  | .tuple ds => some ds
  | _ => none
def xSeq (m : ME) : MF := fun s => (m s).bind fun p => (seqOf p.1).map fun ds => (ds, p.2)
theorem xSeq_of {m : ME} {s s' : MS} {ds : List D} (h : xSeq m s = some (ds, s')) : ∃ d, m s = some (d, s') ∧ seqOf d = some ds := by
  unfold xSeq at h
  cases e : m s with
  | none => rw [e] at h; cases h
  | some p =>
    obtain ⟨d, s1⟩ := p
    rw [e] at h
    simp only [Option.bind_some] at h
    cases e2 : seqOf d with
    | none => rw [e2] at h; cases h
    | some es => rw [e2] at h; cases h; exact ⟨d, rfl, e2⟩
theorem seq_dp {K : PySem.W.Frag} {A : Addr → Prop} {H : Hp} {v : V} {d : D} {ds : List D} (h : Rp K (hide A H) v d) (e : seqOf d = some ds) : ∃ p vs, v = .ref p ∧ Sq K (hide A H) p vs ∧ RpAll K (hide A H) vs ds := by
  cases h <;> first | (cases e) | skip
  · exact ⟨_, _, rfl, .inl ‹_›, ‹_›⟩
  · exact ⟨_, _, rfl, .inr ‹_›, ‹_›⟩
theorem tl_E (h : TrE Γ O L W e m) : TrL Γ O L W e (xSeq m) := by
  obtain ⟨t, p, q⟩ := h
  refine ⟨t, p, fun c σ H s r ds s' e Q k => ?_⟩
  obtain ⟨d, e1, e2⟩ := xSeq_of e
  refine q c σ H s r _ _ e1 Q fun v H' r' ex hd => ?_
  obtain ⟨a, vs, rfl, h1, h2⟩ := seq_dp hd e2
  exact k _ _ H' r' ex (sq_ex ex_hide0 h1) h2
end

/-! ### names, constants -/
section
variable {Γ : G} {O L W : List Nat} {pos : Pos}
theorem refl_hide {A : Addr → Prop} {H : Hp} : Ex (hide A H) (hide A H) := Ex.refl _
theorem tr_var {i : Nat} {x : Str} (hN : Γ.N[i]? = some x) (hv : visB Γ.sc x = true) (hi : i ∉ L) (hL : ∀ j ∈ L, j ∈ O) (hd : (x == ("__debug__" : Str)) = false := by decide) (hcd : (x == ("__classdict__" : Str)) = false := by decide) : TrE Γ O L W (.Name x pos) (xVar i) := by
  refine ⟨tVar i, fun X h => pe_var (h.nx hN) (h.vis hv) hd hcd, fun c σ H s r d s' e Q q => ?_⟩
  unfold xVar at e
  cases e1 : nd (s.getD i none) with
  | none => rw [e1] at e; cases e
  | some d0 =>
    rw [e1] at e
    cases e
    obtain ⟨e1, hnd⟩ := nd_of e1
    have e2 : s[i]? = some (some d) := by
      rw [List.getD_eq_getElem?_getD] at e1
      cases e3 : s[i]? with
      | none => rw [e3] at e1; cases e1
      | some o => rw [e3] at e1; exact congrArg some e1
    obtain ⟨v, h1, h2⟩ := r.get hL hi e2 hnd
    exact ⟨v, h1, q v H r refl_hide h2⟩
/-- the list of an owned slot, its items -/
def xOwn (i : Nat) : MF := fun s => match s.getD i none with
  | some (.list ds) => some (ds, s)
  | _ => none
theorem xOwn_of {i : Nat} {s s' : MS} {ds : List D} (h : xOwn i s = some (ds, s')) : s[i]? = some (some (.list ds)) ∧ s' = s := by
  unfold xOwn at h
  split at h
  · rename_i e
    cases h
    rw [List.getD_eq_getElem?_getD] at e
    cases e3 : s[i]? with
    | none => rw [e3] at e; cases e
    | some o => rw [e3] at e; exact ⟨congrArg some e, rfl⟩
  · cases h
theorem tl_own {i : Nat} {x : Str} (hN : Γ.N[i]? = some x) (hv : visB Γ.sc x = true) (hi : i ∈ O) (hd : (x == ("__debug__" : Str)) = false := by decide) (hcd : (x == ("__classdict__" : Str)) = false := by decide) : TrL Γ O O W (.Name x pos) (xOwn i) := by
  refine ⟨tVar i, fun X h => pe_var (h.nx hN) (h.vis hv) hd hcd, fun c σ H s r ds s' e Q q => ?_⟩
  obtain ⟨e1, rfl⟩ := xOwn_of e
  obtain ⟨p, vs, h1, h3, h4, _⟩ := r.owl hi e1
  exact ⟨_, h1, q p vs H r refl_hide (.inl (.inl (.inl h3))) h4⟩
theorem tr_int {i : Int} {j : Nat} : TrE Γ O L W (.Constant (.int i) j pos) (xC (.int i)) := ⟨_, fun _ _ => pe_int, fun c σ H s r d s' e Q q => by cases e; exact q _ H r refl_hide (.int i)⟩
theorem tr_bl {i : Bool} {j : Nat} : TrE Γ O L W (.Constant (.bool i) j pos) (xC (.bool i)) := ⟨_, fun _ _ => pe_bl, fun c σ H s r d s' e Q q => by cases e; exact q _ H r refl_hide (.bl i)⟩
theorem tr_non {j : Nat} : TrE Γ O L W (.Constant .none j pos) (xC .none) := ⟨_, fun _ _ => pe_non, fun c σ H s r d s' e Q q => by cases e; exact q _ H r refl_hide .non⟩
theorem tr_str {i : Str} {j : Nat} : TrE Γ O L W (.Constant (.str i) j pos) (xC (.str i)) := ⟨_, fun _ _ => pe_str, fun c σ H s r d s' e Q q => by cases e; exact q _ H r refl_hide (.str i)⟩
end

/-! ### operations by values -/
/-- scalars out: they lean on nothing -/
def RS (K : PySem.W.Frag) (r : R2) (f : D → D → Option D) : Prop := ∀ (H : Hp) (x y : V) (dx dy dz : D), Rp K H x dx → Rp K H y dy → f dx dy = some dz → ∀ Q : VK, (∀ v, (∀ M, Rp K M v dz) → Q v H) → r x y H Q
/-- anything out, at the same mask -/
def RG (K : PySem.W.Frag) (r : R2) (f : D → D → Option D) : Prop := ∀ (H : Hp) (A : Addr → Prop) (x y : V) (dx dy dz : D), (∀ a, A a → ∃ o, H a = some o) → Rp K (hide A H) x dx → Rp K (hide A H) y dy → f dx dy = some dz → ∀ Q : VK,
  (∀ v H', Ex H H' → Rp K (hide A H') v dz → Q v H') → r x y H Q
theorem RS.g {K : PySem.W.Frag} {r : R2} {f : D → D → Option D} (h : RS K r f) : RG K r f := fun H A x y dx dy dz _ hx hy e Q q =>
  h H x y dx dy dz (dp_ex ex_hide0 hx) (dp_ex ex_hide0 hy) e Q fun v hv => q v H (Ex.refl H) (hv _)
theorem xOp_of {f : D → D → Option D} {a b : ME} {s s' : MS} {d : D} (h : xOp f a b s = some (d, s')) : ∃ x s1 y, a s = some (x, s1) ∧ b s1 = some (y, s') ∧ f x y = some d := by
  unfold xOp at h
  cases e1 : a s with
  | none => rw [e1] at h; cases h
  | some p =>
    rw [e1] at h
    simp only [Option.bind_some] at h
    cases e2 : b p.2 with
    | none => rw [e2] at h; cases h
    | some q =>
      rw [e2] at h
      simp only [Option.bind_some] at h
      cases e3 : f p.1 q.1 with
      | none => rw [e3] at h; cases h
      | some z =>
        rw [e3] at h
        cases h
        exact ⟨p.1, p.2, q.1, rfl, e2, e3⟩
theorem xUn_of {f : D → Option D} {a : ME} {s s' : MS} {d : D} (h : xUn f a s = some (d, s')) : ∃ x, a s = some (x, s') ∧ f x = some d := by
  unfold xUn at h
  cases e1 : a s with
  | none => rw [e1] at h; cases h
  | some p =>
    rw [e1] at h
    simp only [Option.bind_some] at h
    cases e3 : f p.1 with
    | none => rw [e3] at h; cases h
    | some z =>
      rw [e3] at h
      cases h
      exact ⟨p.1, rfl, e3⟩
section
variable {K : PySem.W.Frag} {O L L0 W : List Nat} {ta tb : TE} {ma mb : ME} {r : R2} {f : D → D → Option D}
theorem sim_opS (hr : RS K r f) (ha : SimE K O L0 W ta ma) (hb : SimE K O L0 W tb mb) (hW : ∀ j ∈ W, j ∈ L0) : SimE K O L W (tOp r ta tb) (xOp f ma mb) := fun c σ H s r0 d s' e Q q => by
  obtain ⟨x, s1, y, e1, e2, e3⟩ := xOp_of e
  refine ha c σ H s r0 x s1 e1 _ fun v H1 r1 x1 d1 => ?_
  refine hb c σ H1 s1 r1 y s' e2 _ fun u H2 r2 x2 d2 => ?_
  exact hr H2 v u x y d (dp_ex ex_hide0 (dp_ex (keep hW x2) d1)) (dp_ex ex_hide0 d2) e3 Q fun z hz => q z H2 r2 (x1.trans x2) (hz _)
theorem sim_opG (hr : RG K r f) (ha : SimE K O L W ta ma) (hb : SimE K O L W tb mb) (hW : ∀ j ∈ W, j ∈ L) (hL : ∀ j ∈ L, j ∈ O) : SimE K O L W (tOp r ta tb) (xOp f ma mb) := fun c σ H s r0 d s' e Q q => by
  obtain ⟨x, s1, y, e1, e2, e3⟩ := xOp_of e
  refine ha c σ H s r0 x s1 e1 _ fun v H1 r1 x1 d1 => ?_
  refine hb c σ H1 s1 r1 y s' e2 _ fun u H2 r2 x2 d2 => ?_
  exact hr H2 _ v u x y d (msk_there r2 hL) (dp_ex (keep hW x2) d1) d2 e3 Q fun z H3 x3 hz => q z H3 (r2.ex x3) ((x1.trans x2).trans (ex_hide x3)) hz
end
section
variable {Γ : G} {O L L0 W : List Nat} {a b : Expr} {ma mb : ME} {r : R2} {f : D → D → Option D} {pos : Pos}
theorem tr_opS {op : Operator} (ho : ∀ X, InG Γ X → OpR X (binaryOp op) r) (hr : RS Γ.K r f) (ha : TrE Γ O L0 W a ma) (hb : TrE Γ O L0 W b mb) (hW : ∀ j ∈ W, j ∈ L0) : TrE Γ O L W (.BinOp a op b pos) (xOp f ma mb) := by
  obtain ⟨ta, pa, sa⟩ := ha
  obtain ⟨tb, pb, sb⟩ := hb
  exact ⟨tOp r ta tb, fun X h => pe_op (ho X h) (pa X h) (pb X h), sim_opS hr sa sb hW⟩
theorem tr_opG {op : Operator} (ho : ∀ X, InG Γ X → OpR X (binaryOp op) r) (hr : RG Γ.K r f) (ha : TrE Γ O L W a ma) (hb : TrE Γ O L W b mb) (hW : ∀ j ∈ W, j ∈ L) (hL : ∀ j ∈ L, j ∈ O) : TrE Γ O L W (.BinOp a op b pos) (xOp f ma mb) := by
  obtain ⟨ta, pa, sa⟩ := ha
  obtain ⟨tb, pb, sb⟩ := hb
  exact ⟨tOp r ta tb, fun X h => pe_op (ho X h) (pa X h) (pb X h), sim_opG hr sa sb hW hL⟩
theorem tr_cmp {op : CmpOp} (ho : ∀ X, InG Γ X → OpR X (compareOp op) r) (hr : RS Γ.K r f) (ha : TrE Γ O L0 W a ma) (hb : TrE Γ O L0 W b mb) (hW : ∀ j ∈ W, j ∈ L0) (hm : behindInMarks op b = false) : TrE Γ O L W (.Compare a [op] [b] pos) (xOp f ma mb) := by
  obtain ⟨ta, pa, sa⟩ := ha
  obtain ⟨tb, pb, sb⟩ := hb
  exact ⟨tOp r ta tb, fun X h => pe_cmpR (ho X h) (pa X h) (pb X h) hm, sim_opS hr sa sb hW⟩
theorem xT_of {m : ME} {s s' : MS} {b : Bool} (h : xT m s = some (b, s')) : m s = some (.bool b, s') := by
  unfold xT at h
  cases e : m s with
  | none => rw [e] at h; cases h
  | some p =>
    obtain ⟨d, s1⟩ := p
    rw [e] at h
    cases d <;> first | (cases h; rfl) | (cases h)
theorem sim_test {K : PySem.W.Frag} {t : TE} {m : ME} (h : SimE K O L W t m) : SimT K O W (tTest t) (xT m) := fun c σ H s r b s' e Q q => by
  refine h c σ H s r _ _ (xT_of e) _ fun v H' r' x' d' => ?_
  cases d'
  exact ⟨b, rfl, q H' r' x'⟩
theorem tt_cmp {op : CmpOp} (ho : ∀ X, InG Γ X → OpR X (compareOp op) r) (hr : RS Γ.K r f) (ha : TrE Γ O L0 W a ma) (hb : TrE Γ O L0 W b mb) (hW : ∀ j ∈ W, j ∈ L0) (hm : behindInMarks op b = false) : TrT Γ O W (.Compare a [op] [b] pos) (xT (xOp f ma mb)) := by
  obtain ⟨ta, pa, sa⟩ := ha
  obtain ⟨tb, pb, sb⟩ := hb
  exact ⟨tTest (tOp r ta tb), fun X h => pt_cmpR (ho X h) (pa X h) (pb X h) hm, sim_test (L := []) (sim_opS hr sa sb hW)⟩
/-- an expression that gives a bool, as a test -/
theorem tt_val {e : Expr} {m : ME} (h : TrE Γ O L W e m) (he : ∀ (env : Env) whole, isTrue e env whole = (do let v ← whole; standAt e.pos; holding [v] (truthy v)) := by intro _ _; rfl) : TrT Γ O W e (xT m) := by
  obtain ⟨t, p, q⟩ := h
  exact ⟨tB t, fun X h => pt_val (p X h) (he X.env), sim_test q⟩
end
end Z


namespace Z
open PySem PySem.Spec PyProof.Rows L2

/-! ### plain operations -/
def dAdd : D → D → Option D
  | .int a, .int b => some (.int (a + b))
  | .str a, .str b => if a.length + b.length ≤ sizeLine then some (.str (a ++ b)) else none
  | .int a, .bool b => some (.int (a + b2i b))
  | _, _ => none
def dSub : D → D → Option D
  | .int a, .int b => some (.int (a - b))
  | _, _ => none
def dMul : D → D → Option D
  | .int a, .int b => if (-(2 ^ 64) < a ∧ a < 2 ^ 64) ∨ (-(2 ^ 64) < b ∧ b < 2 ^ 64) then some (.int (a * b)) else none
  | _, _ => none
def dMod : D → D → Option D
  | .int a, .int b => if 0 < b then some (.int (a % b)) else none
  | _, _ => none
def dDiv : D → D → Option D
  | .int a, .int b => if 0 < b ∧ b < 1073741824 then some (.int (a / b)) else none
  | _, _ => none
def dPow : D → D → Option D
  | .int a, .int b => if 0 ≤ b ∧ b ≤ 1000000 ∧ a.natAbs < 2 ^ 64 then some (.int (a ^ b.toNat)) else none
  | _, _ => none
def dEq (x y : D) : Option D := if SeqAt.shaped x = true ∧ SeqAt.shaped y = true then some (.bool (PyData.eqv x y)) else none
def dNe (x y : D) : Option D := if SeqAt.shaped x = true ∧ SeqAt.shaped y = true then some (.bool (!PyData.eqv x y)) else none
def dLt : D → D → Option D
  | .int a, .int b => some (.bool (decide (a < b)))
  | _, _ => none
def dLe : D → D → Option D
  | .int a, .int b => some (.bool (decide (a ≤ b)))
  | _, _ => none
def dGt : D → D → Option D
  | .int a, .int b => some (.bool (decide (a > b)))
  | _, _ => none
def dGe : D → D → Option D
  | .int a, .int b => some (.bool (decide (a ≥ b)))
  | _, _ => none
def flatD : D → Bool
  | .none => true
  | .bool _ => true
  | .int _ => true
  | .str _ => true
  | _ => false
def inD (x : D) (xs : List D) : Bool := xs.any fun y => PyData.eqv y x
def dIn (neg : Bool) (x y : D) : Option D := (seqOf y).bind fun ys => if flatD x = true ∧ ys.all flatD = true then some (.bool (if neg then !inD x ys else inD x ys)) else none
def dIx : D → D → Option D
  | .list xs, .int i => atI xs i
  | .tuple xs, .int i => atI xs i
  | .str z, .int i => if z.length ≤ sizeLine then (atI z.cps.toList i).map fun c => .str ⟨#[c]⟩ else none
  | _, _ => none

section
variable {K : PySem.W.Frag}
def rAddA : R2 := fun x y H Q => (rI0 (fun i j => .int (i + j)) x y H Q ∨ (∃ i j, x = .str i ∧ y = .str j ∧ i.length + j.length ≤ sizeLine ∧ Q (.str (i ++ j)) H)) ∨ (∃ i k, x = .int i ∧ y = .bl k ∧ Q (.int (i + b2i k)) H)
theorem op_addA {X : Cx} : OpR X (binaryOp .Add) rAddA := (op_add.or op_add_str).or op_add_ib
theorem rs_add : RS K rAddA dAdd := fun H x y dx dy dz hx hy e Q q => by
  cases hx <;> cases hy <;> first | (cases e; done) | skip
  · cases e; exact .inr ⟨_, _, rfl, rfl, q _ fun M => .int _⟩
  · cases e; exact .inl (.inl ⟨_, _, rfl, rfl, q _ fun M => .int _⟩)
  · simp only [dAdd] at e
    split at e
    · cases e
      exact .inl (.inr ⟨_, _, rfl, rfl, ‹_›, q _ fun M => .str _⟩)
    · cases e
theorem rs_int {C : Int → Int → Prop} {g : Int → Int → Int} {f : D → D → Option D} (hf : ∀ dx dy dz, f dx dy = some dz → ∃ i j, dx = .int i ∧ dy = .int j ∧ C i j ∧ dz = .int (g i j)) : RS K (rI C fun i j => .int (g i j)) f := fun H x y dx dy dz hx hy e Q q => by
  obtain ⟨i, j, rfl, rfl, hc, rfl⟩ := hf _ _ _ e
  cases hx; cases hy
  exact ⟨i, j, rfl, rfl, hc, q _ fun M => .int _⟩
theorem rs_cmp {g : Int → Int → Bool} {f : D → D → Option D} (hf : ∀ dx dy dz, f dx dy = some dz → ∃ i j, dx = .int i ∧ dy = .int j ∧ dz = .bool (g i j)) : RS K (rI0 fun i j => .bl (g i j)) f := fun H x y dx dy dz hx hy e Q q => by
  obtain ⟨i, j, rfl, rfl, rfl⟩ := hf _ _ _ e
  cases hx; cases hy
  exact ⟨i, j, rfl, rfl, q _ fun M => .bl _⟩
theorem rs_sub : RS K (rI0 fun i j => .int (i - j)) dSub := fun H x y dx dy dz hx hy e Q q => by
  cases hx <;> cases hy <;> cases e
  exact ⟨_, _, rfl, rfl, q _ fun M => .int _⟩
theorem rs_mul : RS K (rI CMul fun i j => .int (i * j)) dMul := rs_int fun dx dy dz e => by
  cases dx <;> cases dy <;> first | (cases e; done) | skip
  simp only [dMul] at e; split at e
  · cases e; exact ⟨_, _, rfl, rfl, ‹_›, rfl⟩
  · cases e
theorem rs_mod : RS K (rI (fun _ j => 0 < j) fun i j => .int (i % j)) dMod := rs_int fun dx dy dz e => by
  cases dx <;> cases dy <;> first | (cases e; done) | skip
  simp only [dMod] at e; split at e
  · cases e; exact ⟨_, _, rfl, rfl, ‹_›, rfl⟩
  · cases e
theorem rs_div : RS K (rI CDiv fun i j => .int (i / j)) dDiv := rs_int fun dx dy dz e => by
  cases dx <;> cases dy <;> first | (cases e; done) | skip
  simp only [dDiv] at e; split at e
  · cases e; exact ⟨_, _, rfl, rfl, ‹_›, rfl⟩
  · cases e
theorem rs_pow : RS K (rI CPow fun i j => .int (i ^ j.toNat)) dPow := rs_int fun dx dy dz e => by
  cases dx <;> cases dy <;> first | (cases e; done) | skip
  simp only [dPow] at e; split at e
  · cases e; exact ⟨_, _, rfl, rfl, ‹_›, rfl⟩
  · cases e
theorem rs_lt : RS K (rI0 fun i j => .bl (decide (i < j))) dLt := rs_cmp fun dx dy dz e => by cases dx <;> cases dy <;> cases e; exact ⟨_, _, rfl, rfl, rfl⟩
theorem rs_le : RS K (rI0 fun i j => .bl (decide (i ≤ j))) dLe := rs_cmp fun dx dy dz e => by cases dx <;> cases dy <;> cases e; exact ⟨_, _, rfl, rfl, rfl⟩
theorem rs_gt : RS K (rI0 fun i j => .bl (decide (i > j))) dGt := rs_cmp fun dx dy dz e => by cases dx <;> cases dy <;> cases e; exact ⟨_, _, rfl, rfl, rfl⟩
theorem rs_ge : RS K (rI0 fun i j => .bl (decide (i ≥ j))) dGe := rs_cmp fun dx dy dz e => by cases dx <;> cases dy <;> cases e; exact ⟨_, _, rfl, rfl, rfl⟩
theorem rs_eq : RS K (rEqD K) dEq := fun H x y dx dy dz hx hy e Q q => by
  unfold dEq at e; split at e
  · rename_i h; cases e; exact ⟨_, _, hx.dp, hy.dp, h.1, h.2, q _ fun M => .bl _⟩
  · cases e
theorem rs_ne : RS K (rNeD K) dNe := fun H x y dx dy dz hx hy e Q q => by
  unfold dNe at e; split at e
  · rename_i h; cases e; exact ⟨_, _, hx.dp, hy.dp, h.1, h.2, q _ fun M => .bl _⟩
  · cases e
theorem flat_dp {H : Hp} {v : V} {d : D} (h : Rp K H v d) (f : flatD d = true) : flatV v = true := by cases h <;> first | rfl | cases f
theorem flat_any {H H' : Hp} {v : V} {d : D} (h : Rp K H v d) (f : flatD d = true) : Rp K H' v d := by
  cases h <;> first | (cases f; done) | skip
  · exact .non
  · exact .bl _
  · exact .int _
  · exact .str _
theorem eqv_dp {H : Hp} {v u : V} {d e : D} (h : Rp K H v d) (g : Rp K H u e) (f1 : flatD d = true) (f2 : flatD e = true) : eqV v u = PyData.eqv d e := by
  cases h <;> cases g <;> first | (cases f1; done) | (cases f2; done) | skip
  all_goals (simp only [eqV, PyData.eqv])
theorem flat_all {H : Hp} : ∀ {vs : List V} {ds : List D}, RpAll K H vs ds → ds.all flatD = true → vs.all flatV = true
  | _, _, .nil, _ => rfl
  | _, _, .cons h a, f => by
    rw [List.all_cons, Bool.and_eq_true] at f ⊢
    exact ⟨flat_dp h f.1, flat_all a f.2⟩
theorem in_dp {H : Hp} {x : V} {dx : D} (hx : Rp K H x dx) (fx : flatD dx = true) : ∀ {vs : List V} {ds : List D}, RpAll K H vs ds → ds.all flatD = true → inV x vs = inD dx ds
  | _, _, .nil, _ => rfl
  | _, _, .cons h a, f => by
    rw [List.all_cons, Bool.and_eq_true] at f
    have ih := in_dp hx fx a f.2
    unfold inV inD at ih ⊢
    rw [List.any_cons, List.any_cons, ih, eqv_dp h hx f.1 fx]
theorem seq_dp' {H : Hp} {v : V} {d : D} {ds : List D} (h : Rp K H v d) (e : seqOf d = some ds) : ∃ p vs, v = .ref p ∧ Sq K H p vs ∧ RpAll K H vs ds := by
  cases h <;> first | (cases e) | skip
  · exact ⟨_, _, rfl, .inl ‹_›, ‹_›⟩
  · exact ⟨_, _, rfl, .inr ‹_›, ‹_›⟩
theorem rs_in (neg : Bool) : RS K (rIn K neg) (dIn neg) := fun H x y dx dy dz hx hy e Q q => by
  unfold dIn at e
  cases e1 : seqOf dy with
  | none => rw [e1] at e; cases e
  | some ys =>
    rw [e1] at e
    simp only [Option.bind_some] at e
    split at e
    · rename_i h
      cases e
      obtain ⟨p, vs, rfl, h1, h2⟩ := seq_dp' hy e1
      refine ⟨p, vs, rfl, h1.sq, flat_dp hx h.1, flat_all h2 h.2, ?_⟩
      rw [in_dp hx h.1 h2 h.2]
      exact q _ fun M => .bl _
    · cases e
theorem dpa_at {H : Hp} {vs : List V} {ds : List D} {i : Int} {d : D} (a : RpAll K H vs ds) (e : atI ds i = some d) : ∃ v, atI vs i = some v ∧ Rp K H v d := by
  unfold atI at e ⊢
  rw [dpa_len a]
  cases e1 : ixN ds.length i with
  | none => rw [e1] at e; cases e
  | some j =>
    rw [e1] at e
    obtain ⟨v, h1, h2⟩ := dpa_get (i := j) a e
    exact ⟨v, h1, h2⟩
theorem rg_ix : RG K (rIx K) dIx := fun H A x y dx dy dz hA hx hy e Q q => by
  unfold dIx at e
  split at e
  · rename_i xs i
    cases hy
    cases hx with
    | lst h a =>
      obtain ⟨v, h1, h2⟩ := dpa_at a e
      exact .inl ⟨_, _, i, v, rfl, rfl, sql_ex ex_hide0 h, h1, q v H (Ex.refl H) h2⟩
  · rename_i xs i
    cases hy
    cases hx with
    | tup h a =>
      obtain ⟨v, h1, h2⟩ := dpa_at a e
      exact .inr (.inl ⟨_, _, i, v, rfl, rfl, sqt_ex ex_hide0 h, h1, q v H (Ex.refl H) h2⟩)
  · rename_i z i
    cases hy
    cases hx
    split at e
    · cases e1 : atI z.cps.toList i with
      | none => rw [e1] at e; cases e
      | some c =>
        rw [e1] at e
        cases e
        exact .inr (.inr ⟨z, i, c, rfl, rfl, ‹_›, e1, q _ H (Ex.refl H) (.str _)⟩)
    · cases e
  · cases e
end

/-! ### subscripts -/
section
variable {Γ : G} {O L L0 W : List Nat} {a b e : Expr} {ma mb : ME} {pos : Pos}
theorem tr_ix (ha : TrE Γ O L W a ma) (hb : TrE Γ O L W b mb) (hW : ∀ j ∈ W, j ∈ L) (hL : ∀ j ∈ L, j ∈ O) (hs : PlainIx b := by exact fun _ _ => rfl) : TrE Γ O L W (.Subscript a b pos) (xOp dIx ma mb) := by
  obtain ⟨ta, pa, sa⟩ := ha
  obtain ⟨tb, pb, sb⟩ := hb
  exact ⟨tOp (rIx Γ.K) ta tb, fun X h => by rw [← h.K]; exact pe_ix ix_seq (pa X h) (pb X h) hs, sim_opG rg_ix sa sb hW hL⟩
/-- an item of an owned list -/
def xIxOwn (i : Nat) (b : ME) : ME := fun s => (b s).bind fun q => match q.1, q.2.getD i none with
  | .int k, some (.list ds) => (atI ds k).map fun z => (z, q.2)
  | _, _ => none
theorem xIxOwn_of {i : Nat} {b : ME} {s s' : MS} {d : D} (h : xIxOwn i b s = some (d, s')) : ∃ k ds, b s = some (.int k, s') ∧ s'[i]? = some (some (.list ds)) ∧ atI ds k = some d := by
  unfold xIxOwn at h
  cases e : b s with
  | none => rw [e] at h; cases h
  | some q =>
    rw [e] at h
    simp only [Option.bind_some] at h
    split at h
    · rename_i k ds e1 e2
      cases e3 : atI ds k with
      | none => rw [e3] at h; cases h
      | some z =>
        rw [e3] at h
        cases h
        refine ⟨k, ds, by rw [← e1], ?_, e3⟩
        rw [List.getD_eq_getElem?_getD] at e2
        cases e4 : q.2[i]? with
        | none => rw [e4] at e2; cases e2
        | some o => rw [e4] at e2; exact congrArg some e2
    · cases h
theorem tr_ixOwn {i : Nat} {x : Str} {px : Pos} (hN : Γ.N[i]? = some x) (hv : visB Γ.sc x = true) (hi : i ∈ O) (hL : ∀ j ∈ L, j ∈ O) (hb : TrE Γ O L0 W b mb) (hs : PlainIx b := by exact fun _ _ => rfl) (hd : (x == ("__debug__" : Str)) = false := by decide) (hcd : (x == ("__classdict__" : Str)) = false := by decide) :
    TrE Γ O L W (.Subscript (.Name x px) b pos) (xIxOwn i mb) := by
  obtain ⟨tb, pb, sb⟩ := hb
  refine ⟨tOp (rIx Γ.K) (tVar i) tb, fun X h => by rw [← h.K]; exact pe_ix ix_seq (pe_var (h.nx hN) (h.vis hv) hd hcd) (pb X h) hs, fun c σ H s r d s' e Q q => ?_⟩
  obtain ⟨k, ds, e1, e2, e3⟩ := xIxOwn_of e
  obtain ⟨p, vs, _, h1, _⟩ := r.ow i hi
  refine ⟨.ref p, h1, ?_⟩
  refine sb c σ H s r _ _ e1 _ fun u H1 r1 x1 d1 => ?_
  cases d1
  obtain ⟨p', vs', k1, k3, k4, _⟩ := r1.owl hi e2
  rw [h1] at k1
  cases k1
  obtain ⟨v, g1, g2⟩ := dpa_at k4 e3
  exact .inl ⟨p, vs', k, v, rfl, rfl, .inl (.inl k3), g1, q v H1 r1 x1 (dp_ex (ex_hide_sub (msk_sub hL)) g2)⟩
end
end Z


namespace Z
open PySem PySem.Spec PyProof.Rows L2

/-! ## lists that are read: L (list or tuple), B (a list); they stay while W is written -/
def SimQ (K : PySem.W.Frag) (O L W : List Nat) (t : TE) (m : MF) : Prop := ∀ (c : Cn) (σ : L2.St) (H : Hp) (s : MS), R K c O s σ H → ∀ ds s', m s = some (ds, s') → ∀ Q : VK,
  (∀ p vs H', R K c O s' σ H' → Ex (hide (Own W σ) H) (hide (Own W σ) H') → Sq K (hide (Own W σ) H') p vs → RpAll K (hide (c.msk L σ) H') vs ds → Q (.ref p) H') → t σ H Q
def SimB (K : PySem.W.Frag) (O L W : List Nat) (t : TE) (m : MF) : Prop := ∀ (c : Cn) (σ : L2.St) (H : Hp) (s : MS), R K c O s σ H → ∀ ds s', m s = some (ds, s') → ∀ Q : VK,
  (∀ p vs H', R K c O s' σ H' → Ex (hide (Own W σ) H) (hide (Own W σ) H') → SqL K (hide (Own W σ) H') p vs → RpAll K (hide (c.msk L σ) H') vs ds → Q (.ref p) H') → t σ H Q
section
variable (Γ : G) (O L W : List Nat)
def TrQ (e : Expr) (m : MF) : Prop := ∃ t, (∀ X, InG Γ X → PE X e t) ∧ SimQ Γ.K O L W t m
def TrB (e : Expr) (m : MF) : Prop := ∃ t, (∀ X, InG Γ X → PE X e t) ∧ SimB Γ.K O L W t m
end
def xList (m : ME) : MF := fun s => (m s).bind fun p => match p.1 with
  | .list ds => some (ds, p.2)
  | _ => none
theorem xList_of {m : ME} {s s' : MS} {ds : List D} (h : xList m s = some (ds, s')) : m s = some (.list ds, s') := by
  unfold xList at h
  cases e : m s with
  | none => rw [e] at h; cases h
  | some p =>
    obtain ⟨d, s1⟩ := p
    rw [e] at h
    cases d <;> first | (cases h; rfl) | (cases h)
section
variable {Γ : G} {O L W : List Nat} {e : Expr} {m : ME} {pos : Pos}
theorem own_msk {c : Cn} {σ : L2.St} (hW : ∀ j ∈ W, j ∈ L) : ∀ a, Own W σ a → c.msk L σ a := fun a z => .inr (own_sub hW a z)
theorem tq_E (hW : ∀ j ∈ W, j ∈ L) (h : TrE Γ O L W e m) : TrQ Γ O L W e (xSeq m) := by
  obtain ⟨t, p, q⟩ := h
  refine ⟨t, p, fun c σ H s r ds s' e Q k => ?_⟩
  obtain ⟨d, e1, e2⟩ := xSeq_of e
  refine q c σ H s r _ _ e1 Q fun v H' r' ex hd => ?_
  obtain ⟨a, vs, rfl, h1, h2⟩ := seq_dp hd e2
  exact k _ _ H' r' ex (sq_ex (ex_hide_sub (own_msk hW)) h1) h2
theorem tb_E (hW : ∀ j ∈ W, j ∈ L) (h : TrE Γ O L W e m) : TrB Γ O L W e (xList m) := by
  obtain ⟨t, p, q⟩ := h
  refine ⟨t, p, fun c σ H s r ds s' e Q k => q c σ H s r _ _ (xList_of e) Q fun v H' r' ex hd => ?_⟩
  cases hd with
  | lst h a => exact k _ _ H' r' ex (sql_ex (ex_hide_sub (own_msk hW)) h) a
theorem tq_B {m : MF} (h : TrB Γ O L W e m) : TrQ Γ O L W e m := by
  obtain ⟨t, p, q⟩ := h
  exact ⟨t, p, fun c σ H s r ds s' e Q k => q c σ H s r _ _ e Q fun v vs H' r' ex hd => k v vs H' r' ex (.inl hd)⟩
theorem tb_own {i : Nat} {x : Str} (hN : Γ.N[i]? = some x) (hv : visB Γ.sc x = true) (hi : i ∈ O) (hW : ∀ j ∈ W, j ∈ O) (hiW : i ∉ W) (hd : (x == ("__debug__" : Str)) = false := by decide) (hcd : (x == ("__classdict__" : Str)) = false := by decide) : TrB Γ O O W (.Name x pos) (xOwn i) := by
  refine ⟨tVar i, fun X h => pe_var (h.nx hN) (h.vis hv) hd hcd, fun c σ H s r ds s' e Q q => ?_⟩
  obtain ⟨e1, rfl⟩ := xOwn_of e
  obtain ⟨p, vs, h1, h3, h4, _⟩ := r.owl hi e1
  exact ⟨_, h1, q p vs H r refl_hide (.inl (.inl (hide_of (fun ⟨j, hj, e⟩ => hiW (r.nd i j p hi (hW j hj) h1 e ▸ hj)) h3))) h4⟩
theorem tb_F {m : MF} (hW : ∀ j ∈ W, j ∈ O) (h : TrF Γ O L W e m) : TrB Γ O L W e m := by
  obtain ⟨t, p, q⟩ := h
  refine ⟨t, p, fun c σ H s r ds s' e Q k => q c σ H s r _ _ e Q fun p vs H' hp r' ex ha hd => k p vs H' (r'.ex ex_hide0) (ex.trans (ex_hide ex_hide0)) (.inl (.inl (hide_of (fun ⟨j, hj, e⟩ => ?_) ha))) (dpa_ex (ex_hide ex_hide0) hd)⟩
  obtain ⟨p', vs', _, h1, _, h3, _⟩ := r'.ow j (hW j hj)
  rw [e] at h1
  cases h1
  exact (of_hide h3).1 rfl
end

/-! ## argument lists, displays -/
section
variable {Γ : G} {O L W : List Nat} {e : Expr} {es : List Expr} {m : ME} {ms : MF} {pos : Pos}
theorem ta_nil : TrA Γ O L W [] xaNil := ⟨tNil, fun _ _ => pa_nil, fun c σ H s r ds s' e Q q => by cases e; exact q [] H r refl_hide .nil⟩
theorem xaCons_of {s s' : MS} {ds : List D} (h : xaCons m ms s = some (ds, s')) : ∃ d s1 es, m s = some (d, s1) ∧ ms s1 = some (es, s') ∧ ds = d :: es := by
  unfold xaCons at h
  cases e1 : m s with
  | none => rw [e1] at h; cases h
  | some p =>
    rw [e1] at h
    simp only [Option.bind_some] at h
    cases e2 : ms p.2 with
    | none => rw [e2] at h; cases h
    | some q => rw [e2] at h; cases h; exact ⟨p.1, p.2, q.1, rfl, e2, rfl⟩
theorem ta_cons (h : TrE Γ O L W e m) (hs : TrA Γ O L W es ms) (hW : ∀ j ∈ W, j ∈ L) (hst : ∀ env : Env, starEach (e :: es) env = (false, eval e env) :: starEach es env := by intro _; rfl) : TrA Γ O L W (e :: es) (xaCons m ms) := by
  obtain ⟨t, p, q⟩ := h
  obtain ⟨ts, ps, qs⟩ := hs
  refine ⟨tCons t ts, fun X h => pa_cons (p X h) (ps X h) (hst X.env), fun c σ H s r ds s' e Q k => ?_⟩
  obtain ⟨d, s1, es, e1, e2, rfl⟩ := xaCons_of e
  refine q c σ H s r _ _ e1 _ fun v H1 r1 x1 d1 => ?_
  refine qs c σ H1 s1 r1 _ _ e2 _ fun vs H2 r2 x2 d2 => ?_
  exact k _ H2 r2 (x1.trans x2) (.cons (dp_ex (keep hW x2) d1) d2)
def xDisp (m : MF) : MF := fun s => (m s).bind fun p => if p.1.length ≤ 1000 then some p else none
theorem xDisp_of {s s' : MS} {ds : List D} (h : xDisp ms s = some (ds, s')) : ms s = some (ds, s') ∧ ds.length ≤ 1000 := by
  unfold xDisp at h
  cases e1 : ms s with
  | none => rw [e1] at h; cases h
  | some p =>
    rw [e1] at h
    simp only [Option.bind_some] at h
    split at h
    · cases h; exact ⟨rfl, ‹_›⟩
    · cases h
theorem sz1000 {n : Nat} (h : n ≤ 1000) : n ≤ sizeLine := Nat.le_trans h (by decide)
/-- a new list at p -/
theorem simF_new {K : PySem.W.Frag} {c : Cn} {σ : L2.St} {H H1 : Hp} {s' : MS} {ds : List D} {Q : VK} {vs : List V} (r1 : R K c O s' σ H1) (x1 : Ex (hide (Own W σ) H) (hide (Own W σ) H1)) (fr : ∀ p, H1 p = none → H p = none) (d1 : RpAll K (hide (c.msk L σ) H1) vs ds)
    (q : ∀ p vs H', H p = none → R K c O s' σ (hide (· = p) H') → Ex (hide (Own W σ) H) (hide (Own W σ) (hide (· = p) H')) → H' p = some (.lst vs) → RpAll K (hide (c.msk L σ) (hide (· = p) H')) vs ds → Q (.ref p) H') :
    ∀ p, H1 p = none → Q (.ref p) (upd H1 p (.lst vs)) := fun p hp => by
  refine q p vs _ (fr p hp) ?_ ?_ upd_same ?_
  · rw [hide_upd hp]; exact r1
  · rw [hide_upd hp]; exact x1
  · rw [hide_upd hp]; exact d1
/-- what is tracked stays tracked -/
theorem fresh_of {K : PySem.W.Frag} {c : Cn} {σ : L2.St} {H H1 : Hp} {s : MS} (r1 : R K c O s σ H1) (hW : ∀ j ∈ W, j ∈ O) (x1 : Ex (hide (Own W σ) H) (hide (Own W σ) H1)) : ∀ p, H1 p = none → H p = none := fun p hp => by
  cases e : H p with
  | none => rfl
  | some o =>
    by_cases z : Own W σ p
    · obtain ⟨j, hj, e1⟩ := z
      obtain ⟨p', vs, _, h1, _, h3, _⟩ := r1.ow j (hW j hj)
      rw [e1] at h1
      cases h1
      rw [hp] at h3
      cases h3
    · rw [(of_hide (x1 p o (hide_of z e))).2] at hp
      cases hp
theorem tf_disp (hs : TrA Γ O L W es ms) (hW : ∀ j ∈ W, j ∈ O) : TrF Γ O L W (.List es pos) (xDisp ms) := by
  obtain ⟨ts, ps, qs⟩ := hs
  refine ⟨tLst ts, fun X h => pe_lst (ps X h), fun c σ H s r ds s' e Q q => ?_⟩
  obtain ⟨e1, hl⟩ := xDisp_of e
  exact qs c σ H s r _ _ e1 _ fun vs H1 r1 x1 d1 => ⟨sz1000 (by rw [dpa_len d1]; exact hl), simF_new r1 x1 (fresh_of r1 hW x1) d1 q⟩
theorem xTup_of {s s' : MS} {d : D} (h : xTup ms s = some (d, s')) : ∃ ds, ms s = some (ds, s') ∧ ds.length ≤ 1000 ∧ d = .tuple ds := by
  unfold xTup at h
  cases e1 : ms s with
  | none => rw [e1] at h; cases h
  | some p =>
    rw [e1] at h
    simp only [Option.bind_some] at h
    split at h
    · cases h; exact ⟨p.1, rfl, ‹_›, rfl⟩
    · cases h
theorem tr_tup {k : Nat} (hs : TrA Γ O L W es ms) (hL : ∀ j ∈ L, j ∈ O) : TrE Γ O L W (.Tuple es k pos) (xTup ms) := by
  obtain ⟨ts, ps, qs⟩ := hs
  refine ⟨tTup ts, fun X h => pe_tup (ps X h), fun c σ H s r d s' e Q q => ?_⟩
  obtain ⟨ds, e1, hl, rfl⟩ := xTup_of e
  refine qs c σ H s r _ _ e1 _ fun vs H1 r1 x1 d1 => ⟨sz1000 (by rw [dpa_len d1]; exact hl), fun p hp => ?_⟩
  have x2 := ex_upd (o := HO.tup vs) hp
  refine q _ _ (r1.ex x2) (x1.trans (ex_hide x2)) (.tup (.inl (.inl (hide_of (fun z => ?_) upd_same))) (dpa_ex (ex_hide x2) d1))
  obtain ⟨o, z⟩ := msk_there r1 hL p z
  rw [hp] at z; cases z
end

/-! ## list + list, list(..), slices -/
theorem op_catR {X : Cx} : OpR X (binaryOp .Add) (fun x y H Q => ∃ l b xs zs, x = .ref l ∧ y = .ref b ∧ SqL X.K H l xs ∧ SqL X.K H b zs ∧ xs.length + zs.length ≤ sizeLine ∧ ∀ p, H p = none → Q (.ref p) (upd H p (.lst (xs ++ zs)))) := by
  intro pins s σ H x y v u Q I rx ry h
  obtain ⟨l, b, xs, zs, rfl, rfl, hH, hB, hz, q⟩ := h
  cases rx
  cases ry
  obtain ⟨its, r, ⟨⟨cls, dd, data, sl⟩, n, ho, hc, hdn, hd⟩, _⟩ := I.list hH
  obtain ⟨its2, r2, ⟨⟨cls2, dd2, data2, sl2⟩, n2, ho2, hc2, hdn2, hd2⟩, _⟩ := I.list hB
  simp only at hc hd hc2 hd2
  subst hc hd hc2 hd2
  have hl := r.length
  have hl2 := r2.length
  have ea : its.toArray ++ its2.toArray = (its ++ its2).toArray := by simp
  refine concat_meets ⟨_, ho, rfl⟩ ⟨_, ho2, rfl⟩ noFill_list_add seq_list_add PySem.F.slot_list_add PySem.F.entry_list_add (PySem.F.args_list_add_2 _ _) (list_addW l b its.toArray its2.toArray n n2 dd dd2 sl sl2 (by rw [List.size_toArray, List.size_toArray]; omega)) ⟨ho, ho2, ?_⟩
  rw [ea]
  exact ⟨.ref _, _, I.lnew (t' := s.toks) (r.append r2) (by rw [List.length_append]; omega), rfl, q _ I.fresh⟩
def rCatS (K : PySem.W.Frag) : R2 := fun x y H Q => ∃ l b xs zs, x = .ref l ∧ y = .ref b ∧ SqL K H l xs ∧ SqL K H b zs ∧ xs.length + zs.length ≤ sizeLine ∧ ∀ p, H p = none → Q (.ref p) (upd H p (.lst (xs ++ zs)))
def xCat (a b : MF) : MF := fun s => (a s).bind fun p => (b p.2).bind fun q => if p.1.length + q.1.length ≤ 1000000 then some (p.1 ++ q.1, q.2) else none
theorem sz1M {n : Nat} (h : n ≤ 1000000) : n ≤ sizeLine := Nat.le_trans h (by decide)
section
variable {Γ : G} {O L L0 W : List Nat} {a b e : Expr} {ma mb ms : MF} {m : ME} {pos : Pos}
theorem xCat_of {s s' : MS} {ds : List D} (h : xCat ma mb s = some (ds, s')) : ∃ xs s1 ys, ma s = some (xs, s1) ∧ mb s1 = some (ys, s') ∧ xs.length + ys.length ≤ 1000000 ∧ ds = xs ++ ys := by
  unfold xCat at h
  cases e1 : ma s with
  | none => rw [e1] at h; cases h
  | some p =>
    rw [e1] at h
    simp only [Option.bind_some] at h
    cases e2 : mb p.2 with
    | none => rw [e2] at h; cases h
    | some q =>
      rw [e2] at h
      simp only [Option.bind_some] at h
      split at h
      · cases h; exact ⟨p.1, p.2, q.1, rfl, e2, ‹_›, rfl⟩
      · cases h
theorem tf_cat (ha : TrB Γ O L W a ma) (hb : TrB Γ O L W b mb) (hW : ∀ j ∈ W, j ∈ L) (hL : ∀ j ∈ L, j ∈ O) : TrF Γ O L W (.BinOp a .Add b pos) (xCat ma mb) := by
  obtain ⟨ta, pa, sa⟩ := ha
  obtain ⟨tb, pb, sb⟩ := hb
  refine ⟨tOp (rCatS Γ.K) ta tb, fun X h => by rw [← h.K]; exact pe_op op_catR (pa X h) (pb X h), fun c σ H s r ds s' e Q q => ?_⟩
  obtain ⟨xs, s1, ys, e1, e2, hl, rfl⟩ := xCat_of e
  refine sa c σ H s r _ _ e1 _ fun p vs H1 r1 x1 rd1 d1 => ?_
  refine sb c σ H1 s1 r1 _ _ e2 _ fun p2 us H2 r2 x2 rd2 d2 => ?_
  refine ⟨p, p2, vs, us, rfl, rfl, sql_ex (x2.trans ex_hide0) rd1, sql_ex ex_hide0 rd2, sz1M (by rw [dpa_len d1, dpa_len d2]; exact hl), ?_⟩
  exact simF_new r2 (x1.trans x2) (fresh_of r2 (fun j hj => hL j (hW j hj)) (x1.trans x2)) (dpa_app (dpa_ex (keep hW x2) d1) d2) q
def rListOf (K : PySem.W.Frag) : List V → Hp → VK → Prop := fun xs H Q => ∃ p ys, xs = [.ref p] ∧ (SqL K H p ys ∨ SqT K H p ys) ∧ ∀ l, H l = none → Q (.ref l) (upd H l (.lst ys))
theorem tf_list {p : Pos} (hg : Γ.sc.names.lookup ("list" : Str) = some .globalImplicit) (hm : Γ.mg "list" = none) (ha : TrQ Γ O L W a ma) (hW : ∀ j ∈ W, j ∈ O) (hst : ∀ env : Env, starEach [a] env = (false, eval a env) :: starEach [] env := by intro _; rfl) : TrF Γ O L W (.Call (.Name "list" p) [a] [] pos) ma := by
  obtain ⟨ta, pa, sa⟩ := ha
  refine ⟨_, fun X h => pe_callTy (T := "list") (r := rListOf Γ.K) (by rw [← h.K]; exact call_list_of) (h.gl hg) (h.mgn hm) (by decide +kernel) (pa_cons (pa X h) pa_nil (hst X.env)) (he := hst X.env), fun c σ H s r ds s' e Q q => ?_⟩
  exact sa c σ H s r _ _ e _ fun p vs H1 r1 x1 rd1 d1 => ⟨p, vs, rfl, (sq_ex ex_hide0 rd1).sq, simF_new r1 x1 (fresh_of r1 hW x1) d1 q⟩
/-- list(range(b)), list(range(a, b)) -/
def dRg (a b : Int) : List D := (List.range (b - a).toNat).map fun i => PyData.int (a + (i : Nat))
theorem rg_dp {K : PySem.W.Frag} {H : Hp} (a b : Int) : RpAll K H (rgV a b) (dRg a b) := by
  unfold rgV dRg
  generalize List.range (b - a).toNat = l
  induction l with
  | nil => exact .nil
  | cons i l ih => exact .cons (.int _) ih
def xRg1 (m : ME) : MF := fun s => (m s).bind fun p => match p.1 with
  | .int n => if n ≤ 1000000 ∧ -1000000 ≤ n then some (dRg 0 n, p.2) else none
  | _ => none
theorem xRg1_of {s s' : MS} {ds : List D} (h : xRg1 m s = some (ds, s')) : ∃ n, m s = some (.int n, s') ∧ (n ≤ 1000000 ∧ -1000000 ≤ n) ∧ ds = dRg 0 n := by
  unfold xRg1 at h
  cases e1 : m s with
  | none => rw [e1] at h; cases h
  | some p =>
    obtain ⟨d, s1⟩ := p
    rw [e1] at h
    simp only [Option.bind_some] at h
    cases d <;> first | (cases h; done) | skip
    dsimp only at h
    split at h
    · cases h; exact ⟨_, rfl, ‹_›, rfl⟩
    · cases h
theorem tf_listRg1 {p p2 pos2 : Pos} (hg : Γ.sc.names.lookup ("list" : Str) = some .globalImplicit) (hm : Γ.mg "list" = none) (hg2 : Γ.sc.names.lookup ("range" : Str) = some .globalImplicit) (hm2 : Γ.mg "range" = none) (ha : TrE Γ O L0 W a m) (hW : ∀ j ∈ W, j ∈ O)
    (hst : ∀ env : Env, starEach [a] env = (false, eval a env) :: starEach [] env := by intro _; rfl) (hcm : Γ.calm = true := by rfl) : TrF Γ O L W (.Call (.Name "list" p) [.Call (.Name "range" p2) [a] [] pos2] [] pos) (xRg1 m) := by
  obtain ⟨ta, pa, sa⟩ := ha
  refine ⟨_, fun X h => pe_listRg (h.cm hcm) (h.gl hg) (h.mgn hm) (prg_1 (h.gl hg2) (h.mgn hm2) (pa X h) (hst X.env)), fun c σ H s r ds s' e Q q => ?_⟩
  obtain ⟨n, e1, hn, rfl⟩ := xRg1_of e
  refine sa c σ H s r _ _ e1 _ fun v H1 r1 x1 d1 => ?_
  cases d1
  exact ⟨n, rfl, ⟨by omega, by omega, by omega, by omega, by omega⟩, simF_new r1 x1 (fresh_of r1 hW x1) (rg_dp 0 n) q⟩
end

/-! ## slices -/
def SimO (K : PySem.W.Frag) (O W : List Nat) (t : TO) (m : MS → Option (Option Int × MS)) : Prop := ∀ (c : Cn) (σ : L2.St) (H : Hp) (s : MS), R K c O s σ H → ∀ o s', m s = some (o, s') → ∀ Q : Option Int → Hp → Prop,
  (∀ H', R K c O s' σ H' → Ex (hide (Own W σ) H) (hide (Own W σ) H') → Q o H') → t σ H Q
def TrO (Γ : G) (O W : List Nat) (e : Option Expr) (m : MS → Option (Option Int × MS)) : Prop := ∃ t, (∀ X, InG Γ X → PO X e t) ∧ SimO Γ.K O W t m
def xoNone : MS → Option (Option Int × MS) := fun s => some (none, s)
def xoSome (m : ME) : MS → Option (Option Int × MS) := fun s => (m s).bind fun p => match p.1 with
  | .int n => some (some n, p.2)
  | _ => none
def cutD (xs : List D) (lo hi : Option Int) : List D := (xs.drop (HT.sIx xs.length 0 lo)).take (HT.sIx xs.length xs.length hi - HT.sIx xs.length 0 lo)
theorem cut_dp {K : PySem.W.Frag} {H : Hp} {vs : List V} {ds : List D} (h : RpAll K H vs ds) (lo hi : Option Int) : RpAll K H (cutV vs lo hi) (cutD ds lo hi) := by
  unfold cutV cutD
  rw [dpa_len h]
  exact dpa_take _ (dpa_drop _ h)
section
variable {Γ : G} {O L L0 W : List Nat} {a b e : Expr} {ma mb ms : MF} {m : ME} {pos p2 : Pos} {lo hi : Option Expr} {ml mh : MS → Option (Option Int × MS)}
theorem to_none : TrO Γ O W none xoNone := ⟨tNoPart, fun _ _ => po_none, fun c σ H s r o s' e Q q => by cases e; exact q H r refl_hide⟩
theorem to_some (h : TrE Γ O L0 W e m) : TrO Γ O W (some e) (xoSome m) := by
  obtain ⟨t, p, q⟩ := h
  refine ⟨tPart t, fun X h => po_some (p X h), fun c σ H s r o s' e Q k => ?_⟩
  unfold xoSome at e
  cases e1 : m s with
  | none => rw [e1] at e; cases e
  | some pr =>
    obtain ⟨d, s1⟩ := pr
    rw [e1] at e
    simp only [Option.bind_some] at e
    cases d <;> first | (cases e; done) | skip
    cases e
    refine q c σ H s r _ _ e1 _ fun v H1 r1 x1 d1 => ?_
    cases d1
    exact ⟨_, rfl, k H1 r1 x1⟩
def xSl (f : List D → Option Int → Option Int → List D) (m : MF) (l h : MS → Option (Option Int × MS)) : MF := fun s => (m s).bind fun p => (l p.2).bind fun q => (h q.2).map fun w => (f p.1 q.1 w.1, w.2)
theorem tf_slice (ha : TrB Γ O L W a ma) (hl : TrO Γ O W lo ml) (hh : TrO Γ O W hi mh) (hW : ∀ j ∈ W, j ∈ L) (hL : ∀ j ∈ L, j ∈ O) : TrF Γ O L W (.Subscript a (.Slice lo hi none p2) pos) (xSl cutD ma ml mh) := by
  obtain ⟨ta, pa, sa⟩ := ha
  obtain ⟨tl, pl, sl⟩ := hl
  obtain ⟨th, ph, sh⟩ := hh
  refine ⟨tSl (rSlL Γ.K) ta tl th, fun X h => by rw [← h.K]; exact pe_slice sl_list (pa X h) (pl X h) (ph X h), fun c σ H s r ds s' e Q q => ?_⟩
  unfold xSl at e
  cases e1 : ma s with
  | none => rw [e1] at e; cases e
  | some p =>
    rw [e1] at e
    simp only [Option.bind_some] at e
    cases e2 : ml p.2 with
    | none => rw [e2] at e; cases e
    | some q2 =>
      rw [e2] at e
      simp only [Option.bind_some] at e
      cases e3 : mh q2.2 with
      | none => rw [e3] at e; cases e
      | some w =>
        rw [e3] at e
        cases e
        refine sa c σ H s r _ _ e1 _ fun v vs H1 r1 x1 rd1 d1 => ?_
        refine sl c σ H1 _ r1 _ _ e2 _ fun H2 r2 x2 => ?_
        refine sh c σ H2 _ r2 _ _ e3 _ fun H3 r3 x3 => ?_
        exact ⟨v, vs, rfl, sql_ex ((x2.trans x3).trans ex_hide0) rd1, simF_new r3 ((x1.trans x2).trans x3) (fresh_of r3 (fun j hj => hL j (hW j hj)) ((x1.trans x2).trans x3)) (cut_dp (dpa_ex (keep hW (x2.trans x3)) d1) q2.1 w.1) q⟩
/-- a slice of a text -/
def xSlS (m : ME) (l h : MS → Option (Option Int × MS)) : ME := fun s => (m s).bind fun p => (l p.2).bind fun q => (h q.2).bind fun w => match p.1 with
  | .str z => if z.length ≤ 1000000 then some (.str (cutS z q.1 w.1), w.2) else none
  | _ => none
theorem tr_sliceS (ha : TrE Γ O L0 W a m) (hl : TrO Γ O W lo ml) (hh : TrO Γ O W hi mh) : TrE Γ O L W (.Subscript a (.Slice lo hi none p2) pos) (xSlS m ml mh) := by
  obtain ⟨ta, pa, sa⟩ := ha
  obtain ⟨tl, pl, sl⟩ := hl
  obtain ⟨th, ph, sh⟩ := hh
  refine ⟨tSl rSlS ta tl th, fun X h => pe_slice sl_str (pa X h) (pl X h) (ph X h), fun c σ H s r ds s' e Q q => ?_⟩
  unfold xSlS at e
  cases e1 : m s with
  | none => rw [e1] at e; cases e
  | some p =>
    obtain ⟨d, s1⟩ := p
    rw [e1] at e
    simp only [Option.bind_some] at e
    cases e2 : ml s1 with
    | none => rw [e2] at e; cases e
    | some q2 =>
      rw [e2] at e
      simp only [Option.bind_some] at e
      cases e3 : mh q2.2 with
      | none => rw [e3] at e; cases e
      | some w =>
        rw [e3] at e
        simp only [Option.bind_some] at e
        cases d <;> first | (cases e; done) | skip
        dsimp only at e
        split at e
        · cases e
          refine sa c σ H s r _ _ e1 _ fun v H1 r1 x1 d1 => ?_
          refine sl c σ H1 _ r1 _ _ e2 _ fun H2 r2 x2 => ?_
          refine sh c σ H2 _ r2 _ _ e3 _ fun H3 r3 x3 => ?_
          cases d1
          exact ⟨_, rfl, sz1M ‹_›, q _ H3 r3 ((x1.trans x2).trans x3) (.str _)⟩
        · cases e
end
end Z


namespace Z
open PySem PySem.Spec PyProof.Rows L2

/-! ## lists of one kind -/
def asInts : List D → Option (List Int)
  | [] => some []
  | .int i :: r => (asInts r).map (i :: ·)
  | _ :: _ => none
def asStrs : List D → Option (List Str)
  | [] => some []
  | .str i :: r => (asStrs r).map (i :: ·)
  | _ :: _ => none
def asBls : List D → Option (List Bool)
  | [] => some []
  | .bool i :: r => (asBls r).map (i :: ·)
  | _ :: _ => none
theorem asInts_of : ∀ {ds : List D} {ns : List Int}, asInts ds = some ns → ds = ns.map PyData.int
  | [], ns, h => by cases h; rfl
  | d :: r, ns, h => by
    cases d <;> first | (cases h; done) | skip
    unfold asInts at h
    cases e : asInts r with
    | none => rw [e] at h; cases h
    | some l => rw [e] at h; cases h; rw [asInts_of e]; rfl
theorem asStrs_of : ∀ {ds : List D} {ns : List Str}, asStrs ds = some ns → ds = ns.map PyData.str
  | [], ns, h => by cases h; rfl
  | d :: r, ns, h => by
    cases d <;> first | (cases h; done) | skip
    unfold asStrs at h
    cases e : asStrs r with
    | none => rw [e] at h; cases h
    | some l => rw [e] at h; cases h; rw [asStrs_of e]; rfl
theorem asBls_of : ∀ {ds : List D} {ns : List Bool}, asBls ds = some ns → ds = ns.map PyData.bool
  | [], ns, h => by cases h; rfl
  | d :: r, ns, h => by
    cases d <;> first | (cases h; done) | skip
    unfold asBls at h
    cases e : asBls r with
    | none => rw [e] at h; cases h
    | some l => rw [e] at h; cases h; rw [asBls_of e]; rfl
theorem asInts_map : ∀ ns : List Int, asInts (ns.map PyData.int) = some ns
  | [] => rfl
  | n :: ns => by unfold List.map asInts; rw [asInts_map ns]; rfl
theorem asStrs_map : ∀ ns : List Str, asStrs (ns.map PyData.str) = some ns
  | [] => rfl
  | n :: ns => by unfold List.map asStrs; rw [asStrs_map ns]; rfl
theorem asBls_map : ∀ ns : List Bool, asBls (ns.map PyData.bool) = some ns
  | [] => rfl
  | n :: ns => by unfold List.map asBls; rw [asBls_map ns]; rfl
section
variable {K : PySem.W.Frag} {H : Hp}
theorem of_bls : ∀ {vs : List V} {ns : List Bool}, RpAll K H vs (ns.map PyData.bool) → vs = ns.map V.bl
  | _, [], .nil => rfl
  | _, n :: ns, .cons h a => by cases h; rw [of_bls a]; rfl
end

/-! ## calls of built-ins by values -/
def RCS (K : PySem.W.Frag) (r : List V → Hp → VK → Prop) (f : List D → Option D) : Prop := ∀ (H : Hp) (vs : List V) (ds : List D) (dz : D), RpAll K H vs ds → f ds = some dz → ∀ Q : VK, (∀ v, (∀ M, Rp K M v dz) → Q v H) → r vs H Q
theorem xFn_of {f : List D → Option D} {ms : MF} {s s' : MS} {d : D} (h : xFn f ms s = some (d, s')) : ∃ ds, ms s = some (ds, s') ∧ f ds = some d := by
  unfold xFn at h
  cases e1 : ms s with
  | none => rw [e1] at h; cases h
  | some p =>
    rw [e1] at h
    simp only [Option.bind_some] at h
    cases e2 : f p.1 with
    | none => rw [e2] at h; cases h
    | some z => rw [e2] at h; cases h; exact ⟨p.1, rfl, e2⟩
theorem sim_cb {K : PySem.W.Frag} {O L L0 W : List Nat} {t : TA} {ms : MF} {r : List V → Hp → VK → Prop} {f : List D → Option D} (hr : RCS K r f) (ha : SimA K O L0 W t ms) : SimE K O L W (tCB r t) (xFn f ms) := fun c σ H s r0 d s' e Q q => by
  obtain ⟨ds, e1, e2⟩ := xFn_of e
  exact ha c σ H s r0 _ _ e1 _ fun vs H1 r1 x1 d1 => hr H1 vs ds d (dpa_ex ex_hide0 d1) e2 Q fun v hv => q v H1 r1 x1 (hv _)
section
variable {Γ : G} {O L L0 W : List Nat} {e : Expr} {es : List Expr} {ms : MF} {r : List V → Hp → VK → Prop} {f : List D → Option D} {x : Str} {p pos : Pos}
theorem tr_cbB {id : String} (hc : ∀ X, InG Γ X → CallR X (.builtin id) r) (hr : RCS Γ.K r f) (hg : Γ.sc.names.lookup x = some .globalImplicit) (hm : Γ.mg x = none) (hv : bootBuiltins x = some (.builtin id)) (ha : TrA Γ O L0 W (e :: es) ms)
    (hn : x ≠ "__name__" := by decide) (hdb : (x == ("__debug__" : Str)) = false := by decide) (he : ∀ env : Env, starEach (e :: es) env = (false, eval e env) :: starEach es env := by intro _; rfl) (hpl : ∀ env : Env, (backTo pos (starEach es env)).any (·.1) = false := by intro _; rfl) :
    TrE Γ O L W (.Call (.Name x p) (e :: es) [] pos) (xFn f ms) := by
  obtain ⟨t, pa, sa⟩ := ha
  exact ⟨_, fun X h => pe_callB (hc X h) (h.gl hg) (h.mgn hm) hv (pa X h) hn hdb (he X.env) (hpl X.env), sim_cb hr sa⟩
theorem tr_cbT {T : String} (hc : ∀ X, InG Γ X → CallR X (.type T) r) (hr : RCS Γ.K r f) (hg : Γ.sc.names.lookup x = some .globalImplicit) (hm : Γ.mg x = none) (hv : bootBuiltins x = some (.type T)) (ha : TrA Γ O L0 W (e :: es) ms)
    (hn : x ≠ "__name__" := by decide) (hdb : (x == ("__debug__" : Str)) = false := by decide) (he : ∀ env : Env, starEach (e :: es) env = (false, eval e env) :: starEach es env := by intro _; rfl) (hpl : ∀ env : Env, (backTo pos (starEach es env)).any (·.1) = false := by intro _; rfl) :
    TrE Γ O L W (.Call (.Name x p) (e :: es) [] pos) (xFn f ms) := by
  obtain ⟨t, pa, sa⟩ := ha
  exact ⟨_, fun X h => pe_callTy (hc X h) (h.gl hg) (h.mgn hm) hv (pa X h) hn hdb (he X.env) (hpl X.env), sim_cb hr sa⟩
end
def rLenA (K : PySem.W.Frag) : List V → Hp → VK → Prop := fun xs H Q => ∃ x n, xs = [x] ∧ LenV K x H n ∧ Q (.int n) H
def dLen : List D → Option D
  | [.list xs] => some (.int xs.length)
  | [.tuple xs] => some (.int xs.length)
  | [.str z] => if z.length ≤ sizeLine then some (.int z.length) else none
  | _ => none
def dAbs : List D → Option D
  | [.int i] => some (.int (if i < 0 then -i else i))
  | _ => none
def dInt : List D → Option D
  | [.int i] => some (.int i)
  | [.bool k] => some (.int (if k then 1 else 0))
  | [.str a] => if a.length ≤ 640 then (PySem.intText? a).map .int else none
  | _ => none
def dStr : List D → Option D
  | [.int i] => if i.natAbs.log2 < 1920 then some (.str (toString i)) else none
  | _ => none
def dSum : List D → Option D
  | [.list xs] => (asInts xs).map fun ns => .int ns.sum
  | _ => none
def maxL : Int → List Int → Int
  | a, [] => a
  | a, b :: r => maxL (max a b) r
def minL : Int → List Int → Int
  | a, [] => a
  | a, b :: r => minL (min a b) r
theorem maxL_mem : ∀ (r : List Int) (a : Int), maxL a r ∈ a :: r ∧ ∀ y ∈ a :: r, y ≤ maxL a r
  | [], a => by simp [maxL]
  | b :: r, a => by
    obtain ⟨h1, h2⟩ := maxL_mem r (max a b)
    refine ⟨?_, fun y hy => ?_⟩
    · show maxL (max a b) r ∈ _
      rcases List.mem_cons.mp h1 with h | h
      · rw [h]
        rcases Int.le_total a b with q | q
        · rw [Int.max_eq_right q]; simp
        · rw [Int.max_eq_left q]; simp
      · exact List.mem_cons_of_mem _ (List.mem_cons_of_mem _ h)
    · show y ≤ maxL (max a b) r
      have h0 := h2 (max a b) List.mem_cons_self
      rcases List.mem_cons.mp hy with h | h
      · rw [h]; omega
      · rcases List.mem_cons.mp h with h | h
        · rw [h]; omega
        · exact h2 y (List.mem_cons_of_mem _ h)
theorem minL_mem : ∀ (r : List Int) (a : Int), minL a r ∈ a :: r ∧ ∀ y ∈ a :: r, minL a r ≤ y
  | [], a => by simp [minL]
  | b :: r, a => by
    obtain ⟨h1, h2⟩ := minL_mem r (min a b)
    refine ⟨?_, fun y hy => ?_⟩
    · show minL (min a b) r ∈ _
      rcases List.mem_cons.mp h1 with h | h
      · rw [h]
        rcases Int.le_total a b with q | q
        · rw [Int.min_eq_left q]; simp
        · rw [Int.min_eq_right q]; simp
      · exact List.mem_cons_of_mem _ (List.mem_cons_of_mem _ h)
    · show minL (min a b) r ≤ y
      have h0 := h2 (min a b) List.mem_cons_self
      rcases List.mem_cons.mp hy with h | h
      · rw [h]; omega
      · rcases List.mem_cons.mp h with h | h
        · rw [h]; omega
        · exact h2 y (List.mem_cons_of_mem _ h)
def dMax : List D → Option D
  | [.list xs] => match asInts xs with
    | some (a :: r) => some (.int (maxL a r))
    | _ => none
  | [.int a, .int b] => some (.int (if b > a then b else a))
  | _ => none
def dMin : List D → Option D
  | [.list xs] => match asInts xs with
    | some (a :: r) => some (.int (minL a r))
    | _ => none
  | [.int a, .int b] => some (.int (if b < a then b else a))
  | _ => none
def dAll : List D → Option D
  | [.list xs] => (asBls xs).map fun bs => .bool (bs.all id)
  | _ => none
def dAny : List D → Option D
  | [.list xs] => (asBls xs).map fun bs => .bool (bs.any id)
  | _ => none
section
variable {K : PySem.W.Frag}
theorem rc_len : RCS K (rLenA K) dLen := fun H vs ds dz h e Q q => by
  unfold dLen at e
  split at e
  · cases e; cases h with | cons h a => cases a; cases h with | lst h a => exact ⟨_, _, rfl, .inl ⟨_, h, (dpa_len a).symm⟩, q _ fun M => .int _⟩
  · cases e; cases h with | cons h a => cases a; cases h with | tup h a => exact ⟨_, _, rfl, .inr ⟨_, h, (dpa_len a).symm⟩, q _ fun M => .int _⟩
  · split at e
    · cases e; cases h with | cons h a => cases a; cases h; exact ⟨_, _, rfl, ⟨‹_›, rfl⟩, q _ fun M => .int _⟩
    · cases e
  · cases e
theorem rc_abs : RCS K (fun xs H Q => ∃ i, xs = [.int i] ∧ Q (.int (if i < 0 then -i else i)) H) dAbs := fun H vs ds dz h e Q q => by
  unfold dAbs at e
  split at e
  · cases e; cases h with | cons h a => cases a; cases h; exact ⟨_, rfl, q _ fun M => .int _⟩
  · cases e
def rIntA : List V → Hp → VK → Prop := fun xs H Q => ((∃ i, xs = [.int i] ∧ Q (.int i) H) ∨ ∃ k, xs = [.bl k] ∧ Q (.int (if k then 1 else 0)) H) ∨ (∃ a n, xs = [.str a] ∧ PySem.intText? a = some n ∧ a.length ≤ 640 ∧ Q (.int n) H)
theorem call_intA {X : Cx} : CallR X (.type "int") rIntA := call_int1.or call_int_str
theorem rc_int : RCS K rIntA dInt := fun H vs ds dz h e Q q => by
  unfold dInt at e
  split at e
  · cases e; cases h with | cons h a => cases a; cases h; exact .inl (.inl ⟨_, rfl, q _ fun M => .int _⟩)
  · cases e; cases h with | cons h a => cases a; cases h; exact .inl (.inr ⟨_, rfl, q _ fun M => .int _⟩)
  · split at e
    · rename_i z _
      cases h with
      | cons h a =>
        cases a; cases h
        cases e2 : PySem.intText? z with
        | none => rw [e2] at e; cases e
        | some n => rw [e2] at e; cases e; exact .inr ⟨_, _, rfl, e2, ‹_›, q _ fun M => .int _⟩
    · cases e
  · cases e
theorem rc_str : RCS K (fun xs H Q => ∃ i, xs = [.int i] ∧ i.natAbs.log2 < 1920 ∧ Q (.str (toString i)) H) dStr := fun H vs ds dz h e Q q => by
  unfold dStr at e
  split at e
  · split at e
    · cases e; cases h with | cons h a => cases a; cases h; exact ⟨_, rfl, ‹_›, q _ fun M => .str _⟩
    · cases e
  · cases e
theorem rc_sum : RCS K (rSum K) dSum := fun H vs ds dz h e Q q => by
  unfold dSum at e
  split at e
  · rename_i xs
    cases e2 : asInts xs with
    | none => rw [e2] at e; cases e
    | some ns =>
      rw [e2] at e; cases e
      cases asInts_of e2
      cases h with | cons h a => cases a; cases h with | lst h a => exact ⟨_, ns, rfl, of_ints a ▸ h, q _ fun M => .int _⟩
  · cases e
def rMaxA (K : PySem.W.Frag) : List V → Hp → VK → Prop := fun xs H Q => rMax K xs H Q ∨ (∃ i j, xs = [.int i, .int j] ∧ Q (.int (if j > i then j else i)) H)
def rMinA (K : PySem.W.Frag) : List V → Hp → VK → Prop := fun xs H Q => rMin K xs H Q ∨ (∃ i j, xs = [.int i, .int j] ∧ Q (.int (if j < i then j else i)) H)
theorem rc_max : RCS K (rMaxA K) dMax := fun H vs ds dz h e Q q => by
  unfold dMax at e
  split at e
  · rename_i xs
    split at e
    · rename_i a r e2
      cases e
      cases asInts_of e2
      cases h with
      | cons h a2 =>
        cases a2
        cases h with
        | lst h a2 =>
          refine .inl ⟨_, a :: r, rfl, of_ints a2 ▸ h, by simp, fun m hm hle => ?_⟩
          obtain ⟨h1, h2⟩ := maxL_mem r a
          have em : m = maxL a r := Int.le_antisymm (h2 m hm) (hle _ h1)
          rw [em]
          exact q _ fun M => .int _
    · cases e
  · cases e; cases h with | cons h a => cases a with | cons h2 a => cases a; cases h; cases h2; exact .inr ⟨_, _, rfl, q _ fun M => .int _⟩
  · cases e
theorem rc_min : RCS K (rMinA K) dMin := fun H vs ds dz h e Q q => by
  unfold dMin at e
  split at e
  · rename_i xs
    split at e
    · rename_i a r e2
      cases e
      cases asInts_of e2
      cases h with
      | cons h a2 =>
        cases a2
        cases h with
        | lst h a2 =>
          refine .inl ⟨_, a :: r, rfl, of_ints a2 ▸ h, by simp, fun m hm hle => ?_⟩
          obtain ⟨h1, h2⟩ := minL_mem r a
          have em : m = minL a r := Int.le_antisymm (hle _ h1) (h2 m hm)
          rw [em]
          exact q _ fun M => .int _
    · cases e
  · cases e; cases h with | cons h a => cases a with | cons h2 a => cases a; cases h; cases h2; exact .inr ⟨_, _, rfl, q _ fun M => .int _⟩
  · cases e
theorem rc_all : RCS K (rAll K) dAll := fun H vs ds dz h e Q q => by
  unfold dAll at e
  split at e
  · rename_i xs
    cases e2 : asBls xs with
    | none => rw [e2] at e; cases e
    | some ns =>
      rw [e2] at e; cases e
      cases asBls_of e2
      cases h with | cons h a => cases a; cases h with | lst h a => exact ⟨_, ns, rfl, of_bls a ▸ h, q _ fun M => .bl _⟩
  · cases e
theorem rc_any : RCS K (rAny K) dAny := fun H vs ds dz h e Q q => by
  unfold dAny at e
  split at e
  · rename_i xs
    cases e2 : asBls xs with
    | none => rw [e2] at e; cases e
    | some ns =>
      rw [e2] at e; cases e
      cases asBls_of e2
      cases h with | cons h a => cases a; cases h with | lst h a => exact ⟨_, ns, rfl, of_bls a ▸ h, q _ fun M => .bl _⟩
  · cases e
end
section
variable {Γ : G} {O L L0 W : List Nat} {e : Expr} {es : List Expr} {ms : MF} {p pos : Pos}
/-- the built-ins by name; hs, he: the two forms of the written arguments -/
theorem tr_len (hg : Γ.sc.names.lookup ("len" : Str) = some .globalImplicit) (hm : Γ.mg "len" = none) (ha : TrA Γ O L0 W [e] ms) (he : ∀ env : Env, starEach [e] env = (false, eval e env) :: starEach [] env := by intro _; rfl) : TrE Γ O L W (.Call (.Name "len" p) [e] [] pos) (xFn dLen ms) :=
  tr_cbB (r := rLenA Γ.K) (fun X h => by rw [← h.K]; exact call_len) rc_len hg hm PySem.boot_len ha (by decide) (by decide) he
theorem tr_abs (hg : Γ.sc.names.lookup ("abs" : Str) = some .globalImplicit) (hm : Γ.mg "abs" = none) (ha : TrA Γ O L0 W [e] ms) (he : ∀ env : Env, starEach [e] env = (false, eval e env) :: starEach [] env := by intro _; rfl) : TrE Γ O L W (.Call (.Name "abs" p) [e] [] pos) (xFn dAbs ms) :=
  tr_cbB (fun X h => call_abs) rc_abs hg hm (by decide +kernel) ha (by decide) (by decide) he
theorem tr_intC (hg : Γ.sc.names.lookup ("int" : Str) = some .globalImplicit) (hm : Γ.mg "int" = none) (ha : TrA Γ O L0 W [e] ms) (he : ∀ env : Env, starEach [e] env = (false, eval e env) :: starEach [] env := by intro _; rfl) : TrE Γ O L W (.Call (.Name "int" p) [e] [] pos) (xFn dInt ms) :=
  tr_cbT (fun X h => call_intA) rc_int hg hm (by decide +kernel) ha (by decide) (by decide) he
theorem tr_strC (hg : Γ.sc.names.lookup ("str" : Str) = some .globalImplicit) (hm : Γ.mg "str" = none) (ha : TrA Γ O L0 W [e] ms) (he : ∀ env : Env, starEach [e] env = (false, eval e env) :: starEach [] env := by intro _; rfl) : TrE Γ O L W (.Call (.Name "str" p) [e] [] pos) (xFn dStr ms) :=
  tr_cbT (fun X h => call_str_int) rc_str hg hm (by decide +kernel) ha (by decide) (by decide) he
theorem tr_sum (hg : Γ.sc.names.lookup ("sum" : Str) = some .globalImplicit) (hm : Γ.mg "sum" = none) (ha : TrA Γ O L0 W [e] ms) (he : ∀ env : Env, starEach [e] env = (false, eval e env) :: starEach [] env := by intro _; rfl) (hcm : Γ.calm = true := by rfl) : TrE Γ O L W (.Call (.Name "sum" p) [e] [] pos) (xFn dSum ms) :=
  tr_cbB (r := rSum Γ.K) (fun X h => by rw [← h.K]; exact cr_sum (h.cm hcm)) rc_sum hg hm (by decide +kernel) ha (by decide) (by decide) he
theorem tr_max1 (hg : Γ.sc.names.lookup ("max" : Str) = some .globalImplicit) (hm : Γ.mg "max" = none) (ha : TrA Γ O L0 W (e :: es) ms) (he : ∀ env : Env, starEach (e :: es) env = (false, eval e env) :: starEach es env := by intro _; rfl) (hpl : ∀ env : Env, (backTo pos (starEach es env)).any (·.1) = false := by intro _; rfl) (hcm : Γ.calm = true := by rfl) : TrE Γ O L W (.Call (.Name "max" p) (e :: es) [] pos) (xFn dMax ms) :=
  tr_cbB (r := rMaxA Γ.K) (fun X h => by rw [← h.K]; exact (cr_max (h.cm hcm)).or (call_max2 (h.cm hcm))) rc_max hg hm (by decide +kernel) ha (by decide) (by decide) he hpl
theorem tr_min1 (hg : Γ.sc.names.lookup ("min" : Str) = some .globalImplicit) (hm : Γ.mg "min" = none) (ha : TrA Γ O L0 W (e :: es) ms) (he : ∀ env : Env, starEach (e :: es) env = (false, eval e env) :: starEach es env := by intro _; rfl) (hpl : ∀ env : Env, (backTo pos (starEach es env)).any (·.1) = false := by intro _; rfl) (hcm : Γ.calm = true := by rfl) : TrE Γ O L W (.Call (.Name "min" p) (e :: es) [] pos) (xFn dMin ms) :=
  tr_cbB (r := rMinA Γ.K) (fun X h => by rw [← h.K]; exact (cr_min (h.cm hcm)).or (call_min2 (h.cm hcm))) rc_min hg hm (by decide +kernel) ha (by decide) (by decide) he hpl
theorem tr_all (hg : Γ.sc.names.lookup ("all" : Str) = some .globalImplicit) (hm : Γ.mg "all" = none) (ha : TrA Γ O L0 W [e] ms) (he : ∀ env : Env, starEach [e] env = (false, eval e env) :: starEach [] env := by intro _; rfl) (hcm : Γ.calm = true := by rfl) : TrE Γ O L W (.Call (.Name "all" p) [e] [] pos) (xFn dAll ms) :=
  tr_cbB (r := rAll Γ.K) (fun X h => by rw [← h.K]; exact cr_all (h.cm hcm)) rc_all hg hm (by decide +kernel) ha (by decide) (by decide) he
theorem tr_any (hg : Γ.sc.names.lookup ("any" : Str) = some .globalImplicit) (hm : Γ.mg "any" = none) (ha : TrA Γ O L0 W [e] ms) (he : ∀ env : Env, starEach [e] env = (false, eval e env) :: starEach [] env := by intro _; rfl) (hcm : Γ.calm = true := by rfl) : TrE Γ O L W (.Call (.Name "any" p) [e] [] pos) (xFn dAny ms) :=
  tr_cbB (r := rAny Γ.K) (fun X h => by rw [← h.K]; exact cr_any (h.cm hcm)) rc_any hg hm (by decide +kernel) ha (by decide) (by decide) he
end

/-! ## sorted -/
def iSort (ns : List Int) : List Int := ns.mergeSort (fun a b => decide (a ≤ b))
theorem pw_eq : ∀ {a b : List Int}, a.Pairwise (· ≤ ·) → b.Pairwise (· ≤ ·) → a.Perm b → a = b
  | [], b, _, _, p => (List.nil_perm.mp p).symm
  | x :: a, [], _, _, p => by have := p.length_eq; simp at this
  | x :: a, y :: b, ha, hb, p => by
    have hx : x ∈ y :: b := p.mem_iff.mp List.mem_cons_self
    have hy : y ∈ x :: a := p.mem_iff.mpr List.mem_cons_self
    have e : x = y := by
      rcases List.mem_cons.mp hx with h | h
      · exact h
      · rcases List.mem_cons.mp hy with h' | h'
        · exact h'.symm
        · exact Int.le_antisymm ((List.pairwise_cons.mp ha).1 y h') ((List.pairwise_cons.mp hb).1 x h)
    subst e
    rw [pw_eq (List.pairwise_cons.mp ha).2 (List.pairwise_cons.mp hb).2 (List.perm_cons x |>.mp p)]
theorem iSort_pw (ns : List Int) : (iSort ns).Pairwise (· ≤ ·) := by
  have := List.pairwise_mergeSort (le := fun a b : Int => decide (a ≤ b)) (fun a b c h1 h2 => by simp at *; omega) (fun a b => by simp; omega) ns
  exact this.imp fun h => by simpa using h
theorem iSort_perm (ns : List Int) : (iSort ns).Perm ns := List.mergeSort_perm _ _
end Z


namespace Z
open PySem PySem.Spec PyProof.Rows L2

/-! ## sorted, of ints (any number), of texts (fewer than 64) -/
def sLe (a b : Str) : Bool := decide (a.cps.toList ≤ b.cps.toList)
def sSort (ss : List Str) : List Str := ss.mergeSort sLe
theorem sLe_tr (a b c : Str) (h1 : sLe a b = true) (h2 : sLe b c = true) : sLe a c = true := by
  unfold sLe at *
  simp only [decide_eq_true_eq] at *
  exact List.le_trans h1 h2
theorem sLe_tot (a b : Str) : (sLe a b || sLe b a) = true := by
  unfold sLe
  simp only [Bool.or_eq_true, decide_eq_true_eq]
  exact List.le_total _ _
theorem sLe_anti (a b : Str) (h1 : sLe a b = true) (h2 : sLe b a = true) : a = b := by
  unfold sLe at *
  simp only [decide_eq_true_eq] at *
  have := List.le_antisymm h1 h2
  cases a; cases b
  simp only [Array.toList_inj] at this
  rw [this]
theorem risingS_pw : ∀ (r : List Str) (p : Str), risingS p r = true → (p :: r).Pairwise (fun a b => sLe a b = true)
  | [], p, _ => by simp
  | x :: r, p, h => by
    unfold risingS at h
    rw [Bool.and_eq_true] at h
    have ih := risingS_pw r x h.2
    have hx : sLe p x = true := by
      have h1 := h.1
      rw [PyProof.Rows.ltCps_eq] at h1
      unfold sLe
      simpa [List.not_lt] using h1
    refine List.pairwise_cons.mpr ⟨fun y hy => ?_, ih⟩
    rcases List.mem_cons.mp hy with e | hy
    · rw [e]; exact hx
    · exact sLe_tr _ _ _ hx ((List.pairwise_cons.mp ih).1 y hy)
theorem sortedS_pw (ys : List Str) (h : sortedS ys = true) : ys.Pairwise (fun a b => sLe a b = true) := by
  cases ys with
  | nil => exact .nil
  | cons x r => exact risingS_pw r x h
theorem uniq_pw {α : Type} {le : α → α → Prop} (anti : ∀ a b, le a b → le b a → a = b) : ∀ {a b : List α}, a.Pairwise le → b.Pairwise le → a.Perm b → a = b
  | [], b, _, _, p => (List.nil_perm.mp p).symm
  | x :: a, [], _, _, p => by have := p.length_eq; simp at this
  | x :: a, y :: b, ha, hb, p => by
    have hx : x ∈ y :: b := p.mem_iff.mp List.mem_cons_self
    have hy : y ∈ x :: a := p.mem_iff.mpr List.mem_cons_self
    have e : x = y := by
      rcases List.mem_cons.mp hx with h | h
      · exact h
      · rcases List.mem_cons.mp hy with h' | h'
        · exact h'.symm
        · exact anti _ _ ((List.pairwise_cons.mp ha).1 y h') ((List.pairwise_cons.mp hb).1 x h)
    subst e
    rw [uniq_pw anti (List.pairwise_cons.mp ha).2 (List.pairwise_cons.mp hb).2 (List.perm_cons x |>.mp p)]
theorem sSort_is {ss ys : List Str} (h : sortedS ys = true) (p : ys.Perm ss) : ys = sSort ss := by
  refine uniq_pw sLe_anti (sortedS_pw ys h) ?_ (p.trans (List.mergeSort_perm _ _).symm)
  exact List.pairwise_mergeSort sLe_tr sLe_tot ss
def dSorted (xs : List D) : Option (List D) := match asInts xs with
  | some ns => some ((iSort ns).map PyData.int)
  | none => match asStrs xs with
    | some ss => if ss.length < 64 then some ((sSort ss).map PyData.str) else none
    | none => none
def rSortedA (K : PySem.W.Frag) : List V → Hp → VK → Prop := fun xs H Q => rSortedI K xs H Q ∨ rSortedS K xs H Q
def xfMap (f : List D → Option (List D)) (m : MF) : MF := fun s => (m s).bind fun p => (f p.1).map fun z => (z, p.2)
theorem xfMap_of {f : List D → Option (List D)} {m : MF} {s s' : MS} {ds : List D} (h : xfMap f m s = some (ds, s')) : ∃ es, m s = some (es, s') ∧ f es = some ds := by
  unfold xfMap at h
  cases e1 : m s with
  | none => rw [e1] at h; cases h
  | some p =>
    rw [e1] at h
    simp only [Option.bind_some] at h
    cases e2 : f p.1 with
    | none => rw [e2] at h; cases h
    | some z => rw [e2] at h; cases h; exact ⟨p.1, rfl, e2⟩
section
variable {Γ : G} {O L L0 W : List Nat} {a e : Expr} {es : List Expr} {ma ms : MF} {m : ME} {p pos : Pos}
theorem tf_sorted (hg : Γ.sc.names.lookup ("sorted" : Str) = some .globalImplicit) (hm : Γ.mg "sorted" = none) (ha : TrB Γ O L0 W a ma) (hW : ∀ j ∈ W, j ∈ O) (hst : ∀ env : Env, starEach [a] env = (false, eval a env) :: starEach [] env := by intro _; rfl) : TrF Γ O L W (.Call (.Name "sorted" p) [a] [] pos) (xfMap dSorted ma) := by
  obtain ⟨ta, pa, sa⟩ := ha
  refine ⟨_, fun X h => pe_callB (r := rSortedA Γ.K) (id := "sorted") (by rw [← h.K]; exact cr_sortedI.or cr_sortedS) (h.gl hg) (h.mgn hm) (by decide +kernel) (pa_cons (pa X h) pa_nil (hst X.env)) (he := hst X.env), fun c σ H s r ds s' e Q q => ?_⟩
  obtain ⟨es, e1, e2⟩ := xfMap_of e
  refine sa c σ H s r _ _ e1 _ fun p vs H1 r1 x1 rd1 d1 => ?_
  unfold dSorted at e2
  split at e2
  · rename_i ns e3
    cases e2
    cases asInts_of e3
    refine .inl ⟨p, ns, rfl, of_ints d1 ▸ sql_ex ex_hide0 rd1, fun ns' p' hp hs hn => ?_⟩
    have en : ns' = iSort ns := pw_eq hs (iSort_pw ns) (hp.trans (iSort_perm ns).symm)
    subst en
    exact simF_new (vs := (iSort ns).map V.int) r1 x1 (fresh_of r1 hW x1) (dpa_ints (iSort ns)) q p' hn
  · split at e2
    · rename_i ss e3
      split at e2
      · cases e2
        cases asStrs_of e3
        refine .inr ⟨p, ss, rfl, of_strs d1 ▸ sql_ex ex_hide0 rd1, ‹_›, fun ys p' hp hs hn => ?_⟩
        have en : ys = sSort ss := sSort_is hs hp
        subst en
        exact simF_new (vs := (sSort ss).map V.str) r1 x1 (fresh_of r1 hW x1) (dpa_strs (sSort ss)) q p' hn
      · cases e2
    · cases e2

/-! ## the module's constants, its dicts by texts -/
theorem tr_glob {x : Str} {u : Value} {v : V} {d : D} (hg : Γ.sc.names.lookup x = some .globalImplicit) (hm : Γ.mg x = some u) (r : RelV v u) (hd : ∀ M, Rp Γ.K M v d) (hdb : (x == ("__debug__" : Str)) = false := by decide) : TrE Γ O L W (.Name x pos) (xC d) :=
  ⟨tC v, fun X h => pe_glob (h.gl hg) (h.mgn hm) r hdb, fun c σ H s r d s' e Q q => by cases e; exact q v H r refl_hide (hd _)⟩
/-- a dict of the module, as a function of its texts -/
def KDm (K : PySem.W.Frag) (w : World) (a : Addr) (f : Str → Option D) : Prop := ∀ z d, f z = some d → ∃ v, KDct K w a z v ∧ ∀ M, Rp K M v d
def dKey (f : Str → Option D) : D → Option D
  | .str z => f z
  | _ => none
theorem tr_gdict {x : Str} {q : Addr} {f : Str → Option D} {px : Pos} (hg : Γ.sc.names.lookup x = some .globalImplicit) (hm : Γ.mg x = some (.ref q)) (hd : KDm Γ.K Γ.w q f) (he : TrE Γ O L0 W e m) (hs : PlainIx e := by exact fun _ _ => rfl) (hdb : (x == ("__debug__" : Str)) = false := by decide) :
    TrE Γ O L W (.Subscript (.Name x px) e pos) (xUn (dKey f) m) := by
  obtain ⟨t, pe, se⟩ := he
  refine ⟨tOp (rIxD Γ.K Γ.w) (tC (.ref q)) t, fun X h => by rw [← h.K, ← h.w]; exact pe_ix ix_kdict (pe_glob (h.gl hg) (h.mgn hm) rfl hdb) (pe X h) hs, fun c σ H s r d s' e Q k => ?_⟩
  obtain ⟨x, e1, e2⟩ := xUn_of e
  show t σ H _
  refine se c σ H s r _ _ e1 _ fun v H1 r1 x1 d1 => ?_
  cases x <;> first | (cases e2; done) | skip
  cases d1
  obtain ⟨v', h1, h2⟩ := hd _ _ e2
  exact ⟨q, _, v', rfl, rfl, h1, k v' H1 r1 x1 (h2 _)⟩
end

/-! ## methods of texts and lists that give scalars, or new lists of texts -/
def xMt (f : D → List D → Option D) (o : ME) (as : MF) : ME := fun s => (o s).bind fun p => (as p.2).bind fun q => (f p.1 q.1).map fun z => (z, q.2)
theorem xMt_of {f : D → List D → Option D} {o : ME} {as : MF} {s s' : MS} {d : D} (h : xMt f o as s = some (d, s')) : ∃ x s1 ds, o s = some (x, s1) ∧ as s1 = some (ds, s') ∧ f x ds = some d := by
  unfold xMt at h
  cases e1 : o s with
  | none => rw [e1] at h; cases h
  | some p =>
    rw [e1] at h
    simp only [Option.bind_some] at h
    cases e2 : as p.2 with
    | none => rw [e2] at h; cases h
    | some q =>
      rw [e2] at h
      simp only [Option.bind_some] at h
      cases e3 : f p.1 q.1 with
      | none => rw [e3] at h; cases h
      | some z => rw [e3] at h; cases h; exact ⟨p.1, p.2, q.1, rfl, e2, e3⟩
def xfMt (f : D → List D → Option (List D)) (o : ME) (as : MF) : MF := fun s => (o s).bind fun p => (as p.2).bind fun q => (f p.1 q.1).map fun z => (z, q.2)
theorem xfMt_of {f : D → List D → Option (List D)} {o : ME} {as : MF} {s s' : MS} {d : List D} (h : xfMt f o as s = some (d, s')) : ∃ x s1 ds, o s = some (x, s1) ∧ as s1 = some (ds, s') ∧ f x ds = some d := by
  unfold xfMt at h
  cases e1 : o s with
  | none => rw [e1] at h; cases h
  | some p =>
    rw [e1] at h
    simp only [Option.bind_some] at h
    cases e2 : as p.2 with
    | none => rw [e2] at h; cases h
    | some q =>
      rw [e2] at h
      simp only [Option.bind_some] at h
      cases e3 : f p.1 q.1 with
      | none => rw [e3] at h; cases h
      | some z => rw [e3] at h; cases h; exact ⟨p.1, p.2, q.1, rfl, e2, e3⟩
def RMS (K : PySem.W.Frag) (T : String) (r : V → List V → Hp → VK → Prop) (f : D → List D → Option D) : Prop := ∀ (x : V) (dx : D) (ds : List D) (dz : D), f dx ds = some dz → (∀ H, Rp K H x dx → tyV K T x H) ∧
  ∀ (H : Hp) (vs : List V), Rp K H x dx → RpAll K H vs ds → ∀ Q : VK, (∀ v, (∀ M, Rp K M v dz) → Q v H) → r x vs H Q
section
variable {Γ : G} {O L L0 W : List Nat} {o e : Expr} {es : List Expr} {ms : MF} {mo : ME} {r : V → List V → Hp → VK → Prop} {f : D → List D → Option D} {name : Str} {apos cpos : Pos} {T id : String}
theorem tr_bm (hr : RMS Γ.K T r f) (pa : PlainAttrs T) (slot : Slot T name id) (hty : typeOf (.builtin id) = pure (.type "method_descriptor")) (hmt : ∀ X, InG Γ X → MtR X id r) (ho : TrE Γ O L0 W o mo) (ha : TrA Γ O L0 W (e :: es) ms) (hW : ∀ j ∈ W, j ∈ L0)
    (hbase : ∀ env : Env, attributeBase o name env (eval o env) = eval o env := by intro _; rfl)
    (hfew : ∀ env : Env, ((backTo cpos (starEach (e :: es) env)).all (fun x => !x.1) && (backToKw cpos (keywordEach [] env)).all (fun x => x.1.isSome)
      && decide ((e :: es).length + ([] : List Keyword).length + (if ([] : List Keyword).isEmpty then 0 else 1) < 30)) = true := by intro _; rfl)
    (hline : (apos.endLine == cpos.line) = true := by rfl) (hs : ∀ env : Env, starEach (e :: es) env = (false, eval e env) :: starEach es env := by intro _; rfl) (hplain : ∀ env : Env, (backTo cpos (starEach es env)).any (·.1) = false := by intro _; rfl) :
    TrE Γ O L W (.Call (.Attribute o name apos) (e :: es) [] cpos) (xMt f mo ms) := by
  obtain ⟨to, po, so⟩ := ho
  obtain ⟨ta, pa', sa⟩ := ha
  refine ⟨tBM Γ.K T r to ta, fun X h => by rw [← h.K]; exact pe_bm pa slot hty (hmt X h) (po X h) (pa' X h) (hbase X.env) (hfew X.env) hline (hs X.env) (hplain X.env), fun c σ H s r0 d s' e Q q => ?_⟩
  obtain ⟨x, s1, ds, e1, e2, e3⟩ := xMt_of e
  refine so c σ H s r0 _ _ e1 _ fun v H1 r1 x1 d1 => ?_
  obtain ⟨g1, g2⟩ := hr v x ds d e3
  refine ⟨g1 H1 (dp_ex ex_hide0 d1), sa c σ H1 s1 r1 _ _ e2 _ fun vs H2 r2 x2 d2 => ?_⟩
  exact g2 H2 vs (dp_ex ex_hide0 (dp_ex (keep hW x2) d1)) (dpa_ex ex_hide0 d2) Q fun z hz => q z H2 r2 (x1.trans x2) (hz _)
theorem tr_bm0 (hr : RMS Γ.K T r f) (pa : PlainAttrs T) (slot : Slot T name id) (hty : typeOf (.builtin id) = pure (.type "method_descriptor")) (hmt : ∀ X, InG Γ X → MtR X id r) (ho : TrE Γ O L0 W o mo)
    (hbase : ∀ env : Env, attributeBase o name env (eval o env) = eval o env := by intro _; rfl) (hline : (apos.endLine == cpos.line) = true := by rfl) : TrE Γ O L W (.Call (.Attribute o name apos) [] [] cpos) (xMt f mo xaNil) := by
  obtain ⟨to, po, so⟩ := ho
  refine ⟨tBM0 Γ.K T r to, fun X h => by rw [← h.K]; exact pe_bm0 pa slot hty (hmt X h) (po X h) (hbase X.env) hline, fun c σ H s r0 d s' e Q q => ?_⟩
  obtain ⟨x, s1, ds, e1, e2, e3⟩ := xMt_of e
  cases e2
  refine so c σ H s r0 _ _ e1 _ fun v H1 r1 x1 d1 => ?_
  obtain ⟨g1, g2⟩ := hr v x [] d e3
  exact ⟨g1 H1 (dp_ex ex_hide0 d1), g2 H1 [] (dp_ex ex_hide0 d1) .nil Q fun z hz => q z H1 r1 x1 (hz _)⟩
/-- s.split(sep), s.split(): a new list of texts -/
theorem tf_m1 {g : D → List D → Option (List Str)} (hr : ∀ (x : V) (dx : D) (ds : List D) (ys : List Str), g dx ds = some ys → (∀ H, Rp Γ.K H x dx → tyV Γ.K T x H) ∧ ∀ (H : Hp) (vs : List V), Rp Γ.K H x dx → RpAll Γ.K H vs ds → ∀ Q : VK, rNewStrs ys H Q → r x vs H Q)
    (pa : PlainAttrs T) (slot : Slot T name id) (hty : typeOf (.builtin id) = pure (.type "method_descriptor")) (hmt : ∀ X, InG Γ X → MtR X id r) (ho : TrE Γ O L0 W o mo) (ha : TrA Γ O L0 W (e :: es) ms) (hW : ∀ j ∈ W, j ∈ L0) (hO : ∀ j ∈ W, j ∈ O)
    (hbase : ∀ env : Env, attributeBase o name env (eval o env) = eval o env := by intro _; rfl)
    (hfew : ∀ env : Env, ((backTo cpos (starEach (e :: es) env)).all (fun x => !x.1) && (backToKw cpos (keywordEach [] env)).all (fun x => x.1.isSome)
      && decide ((e :: es).length + ([] : List Keyword).length + (if ([] : List Keyword).isEmpty then 0 else 1) < 30)) = true := by intro _; rfl)
    (hline : (apos.endLine == cpos.line) = true := by rfl) (hs : ∀ env : Env, starEach (e :: es) env = (false, eval e env) :: starEach es env := by intro _; rfl) (hplain : ∀ env : Env, (backTo cpos (starEach es env)).any (·.1) = false := by intro _; rfl) :
    TrF Γ O L W (.Call (.Attribute o name apos) (e :: es) [] cpos) (xfMt (fun d ds => (g d ds).map (·.map PyData.str)) mo ms) := by
  obtain ⟨to, po, so⟩ := ho
  obtain ⟨ta, pa', sa⟩ := ha
  refine ⟨tBM Γ.K T r to ta, fun X h => by rw [← h.K]; exact pe_bm pa slot hty (hmt X h) (po X h) (pa' X h) (hbase X.env) (hfew X.env) hline (hs X.env) (hplain X.env), fun c σ H s r0 d s' e Q q => ?_⟩
  obtain ⟨x, s1, ds, e1, e2, e3⟩ := xfMt_of e
  cases e4 : g x ds with
  | none => rw [e4] at e3; cases e3
  | some ys =>
    rw [e4] at e3
    cases e3
    refine so c σ H s r0 _ _ e1 _ fun v H1 r1 x1 d1 => ?_
    obtain ⟨g1, g2⟩ := hr v x ds ys e4
    refine ⟨g1 H1 (dp_ex ex_hide0 d1), sa c σ H1 s1 r1 _ _ e2 _ fun vs H2 r2 x2 d2 => ?_⟩
    exact g2 H2 vs (dp_ex ex_hide0 (dp_ex (keep hW x2) d1)) (dpa_ex ex_hide0 d2) Q (simF_new (vs := ys.map V.str) r2 (x1.trans x2) (fresh_of r2 hO (x1.trans x2)) (dpa_strs ys) q)
theorem tf_m0 {g : D → List D → Option (List Str)} (hr : ∀ (x : V) (dx : D) (ds : List D) (ys : List Str), g dx ds = some ys → (∀ H, Rp Γ.K H x dx → tyV Γ.K T x H) ∧ ∀ (H : Hp) (vs : List V), Rp Γ.K H x dx → RpAll Γ.K H vs ds → ∀ Q : VK, rNewStrs ys H Q → r x vs H Q)
    (pa : PlainAttrs T) (slot : Slot T name id) (hty : typeOf (.builtin id) = pure (.type "method_descriptor")) (hmt : ∀ X, InG Γ X → MtR X id r) (ho : TrE Γ O L0 W o mo) (hO : ∀ j ∈ W, j ∈ O)
    (hbase : ∀ env : Env, attributeBase o name env (eval o env) = eval o env := by intro _; rfl) (hline : (apos.endLine == cpos.line) = true := by rfl) :
    TrF Γ O L W (.Call (.Attribute o name apos) [] [] cpos) (xfMt (fun d ds => (g d ds).map (·.map PyData.str)) mo xaNil) := by
  obtain ⟨to, po, so⟩ := ho
  refine ⟨tBM0 Γ.K T r to, fun X h => by rw [← h.K]; exact pe_bm0 pa slot hty (hmt X h) (po X h) (hbase X.env) hline, fun c σ H s r0 d s' e Q q => ?_⟩
  obtain ⟨x, s1, ds, e1, e2, e3⟩ := xfMt_of e
  cases e2
  cases e4 : g x [] with
  | none => rw [e4] at e3; cases e3
  | some ys =>
    rw [e4] at e3
    cases e3
    refine so c σ H s r0 _ _ e1 _ fun v H1 r1 x1 d1 => ?_
    obtain ⟨g1, g2⟩ := hr v x [] ys e4
    exact ⟨g1 H1 (dp_ex ex_hide0 d1), g2 H1 [] (dp_ex ex_hide0 d1) .nil Q (simF_new (vs := ys.map V.str) r1 x1 (fresh_of r1 hO x1) (dpa_strs ys) q)⟩
end
def dJoin : D → List D → Option D
  | .str a, [.list xs] => (asStrs xs).bind fun ys => if (ys.map (·.length)).sum + ys.length * a.length ≤ 16777216 then some (.str (Txt.join a ys)) else none
  | _, _ => none
def dSplit : D → List D → Option (List Str)
  | .str a, [.str b] => if (b.length == 0) = false ∧ a.length + 2 ≤ sizeLine then some (Txt.split a b) else none
  | _, _ => none
def dWords : D → List D → Option (List Str)
  | .str a, [] => if a.length + 2 ≤ sizeLine then some (Txt.words a) else none
  | _, _ => none
def dUpper : D → List D → Option D
  | .str a, [] => if a.length ≤ 5592405 then some (.str (Txt.upper a)) else none
  | _, _ => none
def dLower : D → List D → Option D
  | .str a, [] => if a.length ≤ 5592405 then some (.str (Txt.lower a)) else none
  | _, _ => none
def rJoinA (K : PySem.W.Frag) : V → List V → Hp → VK → Prop := fun x xs H Q => ∃ a p, ∃ ys : List Str, x = .str a ∧ xs = [.ref p] ∧ (SqL K H p (ys.map V.str) ∨ SqT K H p (ys.map V.str)) ∧ (ys.map (·.length)).sum + ys.length * a.length ≤ 16777216 ∧ Q (.str (Txt.join a ys)) H
section
variable {K : PySem.W.Frag}
theorem rm_join : RMS K "str" (rJoinA K) dJoin := fun x dx ds dz e => by
  unfold dJoin at e
  split at e
  · rename_i a xs
    cases e2 : asStrs xs with
    | none => rw [e2] at e; cases e
    | some ys =>
      rw [e2] at e
      simp only [Option.bind_some] at e
      split at e
      · cases e
        cases asStrs_of e2
        refine ⟨fun H h => by cases h; rfl, fun H vs h hs Q q => ?_⟩
        cases h
        cases hs with
        | cons h2 a2 =>
          cases a2
          cases h2 with
          | lst h3 a3 => exact ⟨a, _, ys, rfl, rfl, .inl (of_strs a3 ▸ h3), ‹_›, q _ fun M => .str _⟩
      · cases e
  · cases e
theorem rm_upper : RMS K "str" (fun x xs H Q => ∃ a, x = .str a ∧ xs = [] ∧ a.length ≤ 5592405 ∧ Q (.str (Txt.upper a)) H) dUpper := fun x dx ds dz e => by
  unfold dUpper at e
  split at e
  · split at e
    · cases e
      refine ⟨fun H h => by cases h; rfl, fun H vs h hs Q q => ?_⟩
      cases h; cases hs
      exact ⟨_, rfl, rfl, ‹_›, q _ fun M => .str _⟩
    · cases e
  · cases e
theorem rm_lower : RMS K "str" (fun x xs H Q => ∃ a, x = .str a ∧ xs = [] ∧ a.length ≤ 5592405 ∧ Q (.str (Txt.lower a)) H) dLower := fun x dx ds dz e => by
  unfold dLower at e
  split at e
  · split at e
    · cases e
      refine ⟨fun H h => by cases h; rfl, fun H vs h hs Q q => ?_⟩
      cases h; cases hs
      exact ⟨_, rfl, rfl, ‹_›, q _ fun M => .str _⟩
    · cases e
  · cases e
theorem rm_split (x : V) (dx : D) (ds : List D) (ys : List Str) (e : dSplit dx ds = some ys) : (∀ H, Rp K H x dx → tyV K "str" x H) ∧ ∀ (H : Hp) (vs : List V), Rp K H x dx → RpAll K H vs ds → ∀ Q : VK, rNewStrs ys H Q →
    (fun (x : V) (xs : List V) (H : Hp) (Q : VK) => ∃ a b, x = .str a ∧ xs = [.str b] ∧ (b.length == 0) = false ∧ a.length + 2 ≤ sizeLine ∧ rNewStrs (Txt.split a b) H Q) x vs H Q := by
  unfold dSplit at e
  split at e
  · split at e
    · rename_i h0
      cases e
      refine ⟨fun H h => by cases h; rfl, fun H vs h hs Q q => ?_⟩
      cases h
      cases hs with
      | cons h2 a2 =>
        cases a2; cases h2
        exact ⟨_, _, rfl, rfl, h0.1, h0.2, q⟩
    · cases e
  · cases e
theorem rm_words (x : V) (dx : D) (ds : List D) (ys : List Str) (e : dWords dx ds = some ys) : (∀ H, Rp K H x dx → tyV K "str" x H) ∧ ∀ (H : Hp) (vs : List V), Rp K H x dx → RpAll K H vs ds → ∀ Q : VK, rNewStrs ys H Q →
    (fun (x : V) (xs : List V) (H : Hp) (Q : VK) => ∃ a, x = .str a ∧ xs = [] ∧ a.length + 2 ≤ sizeLine ∧ rNewStrs (Txt.words a) H Q) x vs H Q := by
  unfold dWords at e
  split at e
  · split at e
    · cases e
      refine ⟨fun H h => by cases h; rfl, fun H vs h hs Q q => ?_⟩
      cases h; cases hs
      exact ⟨_, rfl, rfl, ‹_›, q⟩
    · cases e
  · cases e
/-- the first place of a flat item -/
def dIndex : D → List D → Option D
  | .list ys, [y] => if flatD y = true ∧ ys.all flatD = true then (ys.findIdx? fun z => PyData.eqv z y).map fun j => .int j else none
  | _, _ => none
theorem rm_index : RMS K "list" (rIndex K) dIndex := fun x dx ds dz e => by
  unfold dIndex at e
  split at e
  · rename_i ys y
    split at e
    · rename_i h0
      cases e2 : ys.findIdx? (fun z => PyData.eqv z y) with
      | none => rw [e2] at e; cases e
      | some j =>
        rw [e2] at e
        cases e
        refine ⟨fun H h => by cases h with | lst h a => exact .inl ⟨rfl, _, h⟩, fun H vs h hs Q q => ?_⟩
        cases hs with
        | cons h2 a2 =>
          cases a2
          cases h with
          | lst h3 a3 =>
            rename_i a vs'
            obtain ⟨hj, hb, hm⟩ := List.findIdx?_eq_some_iff_getElem.mp e2
            obtain ⟨z, hz1, hz2⟩ := dpa_get (i := j) a3 (List.getElem?_eq_getElem hj)
            have fl : ∀ k (hk : k < ys.length), flatD ys[k] = true := fun k hk => List.all_eq_true.mp h0.2 _ (List.getElem_mem hk)
            refine ⟨a, vs', _, j, z, rfl, rfl, h3, flat_dp h2 h0.1, flat_all a3 h0.2, hz1, ?_, fun m z' hmj hz' => ?_, q _ fun M => .int _⟩
            · rw [eqv_dp hz2 h2 (fl j hj) h0.1]; exact hb
            · have hmk : m < ys.length := Nat.lt_trans hmj hj
              obtain ⟨z2, g1, g2⟩ := dpa_get (i := m) a3 (List.getElem?_eq_getElem hmk)
              rw [g1] at hz'
              cases hz'
              rw [eqv_dp g2 h2 (fl m hmk) h0.1]
              simpa using hm m hmj
    · cases e
  · cases e
end
section
variable {Γ : G} {O L L0 W : List Nat} {o e : Expr} {ms : MF} {mo : ME} {apos cpos : Pos}
theorem tr_join (ho : TrE Γ O L0 W o mo) (ha : TrA Γ O L0 W [e] ms) (hW : ∀ j ∈ W, j ∈ L0) (hbase : ∀ env : Env, attributeBase o "join" env (eval o env) = eval o env := by intro _; rfl) (hs : ∀ env : Env, starEach [e] env = (false, eval e env) :: starEach [] env := by intro _; rfl) (hline : (apos.endLine == cpos.line) = true := by rfl)
    (hfew : ∀ env : Env, ((backTo cpos (starEach [e] env)).all (fun x => !x.1) && (backToKw cpos (keywordEach [] env)).all (fun x => x.1.isSome)
      && decide (([e] : List Expr).length + ([] : List Keyword).length + (if ([] : List Keyword).isEmpty then 0 else 1) < 30)) = true := by intro _; rfl) : TrE Γ O L W (.Call (.Attribute o "join" apos) [e] [] cpos) (xMt dJoin mo ms) :=
  tr_bm (r := rJoinA Γ.K) rm_join PySem.F.plainAttrs_str PySem.F.slot_str_join PySem.F.type_str_join (fun X h => by rw [← h.K]; exact mt_join) ho ha hW hbase hfew hline hs
theorem tr_upper (ho : TrE Γ O L0 W o mo) (hbase : ∀ env : Env, attributeBase o "upper" env (eval o env) = eval o env := by intro _; rfl) (hline : (apos.endLine == cpos.line) = true := by rfl) : TrE Γ O L W (.Call (.Attribute o "upper" apos) [] [] cpos) (xMt dUpper mo xaNil) :=
  tr_bm0 rm_upper PySem.F.plainAttrs_str PySem.F.slot_str_upper PySem.F.type_str_upper (fun X h => mt_upper) ho hbase hline
theorem tr_lower (ho : TrE Γ O L0 W o mo) (hbase : ∀ env : Env, attributeBase o "lower" env (eval o env) = eval o env := by intro _; rfl) (hline : (apos.endLine == cpos.line) = true := by rfl) : TrE Γ O L W (.Call (.Attribute o "lower" apos) [] [] cpos) (xMt dLower mo xaNil) :=
  tr_bm0 rm_lower PySem.F.plainAttrs_str PySem.F.slot_str_lower PySem.F.type_str_lower (fun X h => mt_lower) ho hbase hline
theorem tf_split (ho : TrE Γ O L0 W o mo) (ha : TrA Γ O L0 W [e] ms) (hW : ∀ j ∈ W, j ∈ L0) (hO : ∀ j ∈ W, j ∈ O) (hbase : ∀ env : Env, attributeBase o "split" env (eval o env) = eval o env := by intro _; rfl) (hs : ∀ env : Env, starEach [e] env = (false, eval e env) :: starEach [] env := by intro _; rfl) (hline : (apos.endLine == cpos.line) = true := by rfl)
    (hfew : ∀ env : Env, ((backTo cpos (starEach [e] env)).all (fun x => !x.1) && (backToKw cpos (keywordEach [] env)).all (fun x => x.1.isSome)
      && decide (([e] : List Expr).length + ([] : List Keyword).length + (if ([] : List Keyword).isEmpty then 0 else 1) < 30)) = true := by intro _; rfl) : TrF Γ O L W (.Call (.Attribute o "split" apos) [e] [] cpos) (xfMt (fun d ds => (dSplit d ds).map (·.map PyData.str)) mo ms) :=
  tf_m1 rm_split PySem.F.plainAttrs_str PySem.F.slot_str_split PySem.F.type_str_split (fun X h => mt_split) ho ha hW hO hbase hfew hline hs
theorem tf_words (ho : TrE Γ O L0 W o mo) (hO : ∀ j ∈ W, j ∈ O) (hbase : ∀ env : Env, attributeBase o "split" env (eval o env) = eval o env := by intro _; rfl) (hline : (apos.endLine == cpos.line) = true := by rfl) : TrF Γ O L W (.Call (.Attribute o "split" apos) [] [] cpos) (xfMt (fun d ds => (dWords d ds).map (·.map PyData.str)) mo xaNil) :=
  tf_m0 rm_words PySem.F.plainAttrs_str PySem.F.slot_str_split PySem.F.type_str_split (fun X h => mt_words) ho hO hbase hline
theorem tr_index (ho : TrE Γ O L0 W o mo) (ha : TrA Γ O L0 W [e] ms) (hW : ∀ j ∈ W, j ∈ L0) (hbase : ∀ env : Env, attributeBase o "index" env (eval o env) = eval o env := by intro _; rfl) (hs : ∀ env : Env, starEach [e] env = (false, eval e env) :: starEach [] env := by intro _; rfl) (hline : (apos.endLine == cpos.line) = true := by rfl)
    (hfew : ∀ env : Env, ((backTo cpos (starEach [e] env)).all (fun x => !x.1) && (backToKw cpos (keywordEach [] env)).all (fun x => x.1.isSome)
      && decide (([e] : List Expr).length + ([] : List Keyword).length + (if ([] : List Keyword).isEmpty then 0 else 1) < 30)) = true := by intro _; rfl) : TrE Γ O L W (.Call (.Attribute o "index" apos) [e] [] cpos) (xMt dIndex mo ms) :=
  tr_bm (r := rIndex Γ.K) rm_index PySem.F.plainAttrs_list PySem.F.slot_list_index PySem.F.type_list_index (fun X h => by rw [← h.K]; exact mt_index) ho ha hW hbase hfew hline hs
end
end Z


namespace Z
open PySem PySem.Spec PyProof.Rows L2

/-! ## tests -/
section
variable {Γ : G} {O L L0 W : List Nat} {a b e : Expr} {es : List Expr} {ma mb m : ME} {ta tb : MT} {pos : Pos}
theorem tt_W (h : TrW Γ O W e ta) : TrT Γ O W e ta := by
  obtain ⟨t, p, q⟩ := h
  exact ⟨t, fun X h => (p X h).pt, q⟩
theorem tw_and1 (h : TrT Γ O W a ta) : TrW Γ O W (.BoolOp .And [a] pos) ta := by
  obtain ⟨t, p, q⟩ := h
  exact ⟨t, fun X h => pw_and1 (p X h), q⟩
theorem tw_or1 (h : TrT Γ O W a ta) : TrW Γ O W (.BoolOp .Or [a] pos) ta := by
  obtain ⟨t, p, q⟩ := h
  exact ⟨t, fun X h => pw_or1 (p X h), q⟩
theorem tw_and (ha : TrT Γ O W a ta) (hb : TrW Γ O W (.BoolOp .And (b :: es) pos) tb) : TrW Γ O W (.BoolOp .And (a :: b :: es) pos) (xAnd ta tb) := by
  obtain ⟨t, p, q⟩ := ha
  obtain ⟨u, p2, q2⟩ := hb
  refine ⟨tAnd t u, fun X h => pw_and (p X h) (p2 X h), fun c σ H s r k s' e Q w => ?_⟩
  unfold xAnd at e
  cases e1 : ta s with
  | none => rw [e1] at e; cases e
  | some pr =>
    obtain ⟨k1, s1⟩ := pr
    rw [e1] at e
    simp only [Option.bind_some] at e
    refine q c σ H s r _ _ e1 _ fun H1 r1 x1 => ?_
    cases k1 with
    | true =>
      rw [if_pos rfl] at e ⊢
      exact q2 c σ H1 s1 r1 _ _ e Q fun H2 r2 x2 => w H2 r2 (x1.trans x2)
    | false =>
      rw [if_neg Bool.false_ne_true] at e ⊢
      cases e
      exact w H1 r1 x1
theorem tw_or (ha : TrT Γ O W a ta) (hb : TrW Γ O W (.BoolOp .Or (b :: es) pos) tb) : TrW Γ O W (.BoolOp .Or (a :: b :: es) pos) (xOr ta tb) := by
  obtain ⟨t, p, q⟩ := ha
  obtain ⟨u, p2, q2⟩ := hb
  refine ⟨tOr t u, fun X h => pw_or (p X h) (p2 X h), fun c σ H s r k s' e Q w => ?_⟩
  unfold xOr at e
  cases e1 : ta s with
  | none => rw [e1] at e; cases e
  | some pr =>
    obtain ⟨k1, s1⟩ := pr
    rw [e1] at e
    simp only [Option.bind_some] at e
    refine q c σ H s r _ _ e1 _ fun H1 r1 x1 => ?_
    cases k1 with
    | true =>
      rw [if_pos rfl] at e ⊢
      cases e
      exact w H1 r1 x1
    | false =>
      rw [if_neg Bool.false_ne_true] at e ⊢
      exact q2 c σ H1 s1 r1 _ _ e Q fun H2 r2 x2 => w H2 r2 (x1.trans x2)
theorem tt_not (ha : TrT Γ O W a ta) : TrT Γ O W (.UnaryOp .Not a pos) (xNot ta) := by
  obtain ⟨t, p, q⟩ := ha
  refine ⟨tNot t, fun X h => pt_not (p X h), fun c σ H s r k s' e Q w => ?_⟩
  unfold xNot at e
  cases e1 : ta s with
  | none => rw [e1] at e; cases e
  | some pr =>
    rw [e1] at e
    cases e
    exact q c σ H s r _ _ e1 _ fun H1 r1 x1 => w H1 r1 x1
/-- truth of a value -/
def dTru : D → Option Bool
  | .none => some false
  | .bool b => some b
  | .int i => some (i != 0)
  | .str y => if y.length ≤ sizeLine then some ((y.length : Int) != 0) else none
  | .list xs => some (!xs.isEmpty)
  | .tuple xs => some (!xs.isEmpty)
  | _ => none
def xTru (m : ME) : MT := fun s => (m s).bind fun p => (dTru p.1).map fun b => (b, p.2)
theorem isEmpty_dp {K : PySem.W.Frag} {H : Hp} {vs : List V} {ds : List D} (h : RpAll K H vs ds) : ds.isEmpty = vs.isEmpty := by cases h <;> rfl
theorem tt_tru (h : TrE Γ O L W e m) (he : ∀ (env : Env) whole, isTrue e env whole = (do let v ← whole; standAt e.pos; holding [v] (truthy v)) := by intro _ _; rfl) : TrT Γ O W e (xTru m) := by
  obtain ⟨t, p, q⟩ := h
  refine ⟨fun σ H Q => t σ H fun x H' => ∃ k, TruV Γ.K x H' k ∧ Q k H', fun X h => by rw [← h.K]; exact pt_truth (p X h) (he X.env), fun c σ H s r k s' e Q w => ?_⟩
  unfold xTru at e
  cases e1 : m s with
  | none => rw [e1] at e; cases e
  | some pr =>
    obtain ⟨d, s1⟩ := pr
    rw [e1] at e
    simp only [Option.bind_some] at e
    cases e2 : dTru d with
    | none => rw [e2] at e; cases e
    | some b =>
      rw [e2] at e
      cases e
      refine q c σ H s r _ _ e1 _ fun v H1 r1 x1 d1 => ⟨k, ?_, w H1 r1 x1⟩
      cases d1 <;> first | (cases e2; rfl) | skip
      · simp only [dTru] at e2
        split at e2
        · cases e2; exact ⟨‹_›, rfl⟩
        · cases e2
      · cases e2
        exact .inl ⟨_, sql_ex ex_hide0 ‹_›, by rw [isEmpty_dp ‹_›]⟩
      · cases e2
        exact .inr (.inl ⟨_, sqt_ex ex_hide0 ‹_›, by rw [isEmpty_dp ‹_›]⟩)
/-- and, or of truth values, as values -/
def xAndV (a : MT) (b : ME) : ME := fun s => (a s).bind fun p => if p.1 = true then b p.2 else some (.bool false, p.2)
def xOrV (a : MT) (b : ME) : ME := fun s => (a s).bind fun p => if p.1 = true then some (.bool true, p.2) else b p.2
theorem tr_one {op} (h : TrE Γ O L W a ma) : TrE Γ O L W (.BoolOp op [a] pos) ma := by
  obtain ⟨t, p, q⟩ := h
  exact ⟨t, fun X h => pe_one (p X h), q⟩
theorem tr_and (ha : TrE Γ O L0 W a ma) (hb : TrE Γ O L W (.BoolOp .And (b :: es) pos) mb) : TrE Γ O L W (.BoolOp .And (a :: b :: es) pos) (xAndV (xT ma) mb) := by
  obtain ⟨t, p, q⟩ := ha
  obtain ⟨u, p2, q2⟩ := hb
  refine ⟨tAndV t u, fun X h => pe_and (p X h) (p2 X h), fun c σ H s r d s' e Q w => ?_⟩
  unfold xAndV at e
  cases e1 : xT ma s with
  | none => rw [e1] at e; cases e
  | some pr =>
    obtain ⟨k1, s1⟩ := pr
    rw [e1] at e
    simp only [Option.bind_some] at e
    refine q c σ H s r _ _ (xT_of e1) _ fun v H1 r1 x1 d1 => ?_
    cases d1
    refine ⟨k1, rfl, ?_⟩
    cases k1 with
    | true =>
      rw [if_pos rfl] at e ⊢
      exact q2 c σ H1 s1 r1 _ _ e Q fun v H2 r2 x2 d2 => w v H2 r2 (x1.trans x2) d2
    | false =>
      rw [if_neg Bool.false_ne_true] at e ⊢
      cases e
      exact w _ H1 r1 x1 (.bl false)
theorem tr_or (ha : TrE Γ O L0 W a ma) (hb : TrE Γ O L W (.BoolOp .Or (b :: es) pos) mb) : TrE Γ O L W (.BoolOp .Or (a :: b :: es) pos) (xOrV (xT ma) mb) := by
  obtain ⟨t, p, q⟩ := ha
  obtain ⟨u, p2, q2⟩ := hb
  refine ⟨tOrV t u, fun X h => pe_or (p X h) (p2 X h), fun c σ H s r d s' e Q w => ?_⟩
  unfold xOrV at e
  cases e1 : xT ma s with
  | none => rw [e1] at e; cases e
  | some pr =>
    obtain ⟨k1, s1⟩ := pr
    rw [e1] at e
    simp only [Option.bind_some] at e
    refine q c σ H s r _ _ (xT_of e1) _ fun v H1 r1 x1 d1 => ?_
    cases d1
    refine ⟨k1, rfl, ?_⟩
    cases k1 with
    | true =>
      rw [if_pos rfl] at e ⊢
      cases e
      exact w _ H1 r1 x1 (.bl true)
    | false =>
      rw [if_neg Bool.false_ne_true] at e ⊢
      exact q2 c σ H1 s1 r1 _ _ e Q fun v H2 r2 x2 d2 => w v H2 r2 (x1.trans x2) d2
theorem tr_not (ha : TrE Γ O L0 W a ma) : TrE Γ O L W (.UnaryOp .Not a pos) (xB (xNot (xT ma))) := by
  obtain ⟨t, p, q⟩ := ha
  refine ⟨tNotV t, fun X h => pe_not (p X h), fun c σ H s r d s' e Q w => ?_⟩
  unfold xB xNot at e
  cases e1 : xT ma s with
  | none => rw [e1] at e; cases e
  | some pr =>
    rw [e1] at e
    cases e
    refine q c σ H s r _ _ (xT_of e1) _ fun v H1 r1 x1 d1 => ?_
    cases d1
    exact ⟨_, rfl, w _ H1 r1 x1 (.bl _)⟩
theorem tr_ifExp {c : Expr} {tc : MT} (hc : TrT Γ O W c tc) (ha : TrE Γ O L W a ma) (hb : TrE Γ O L W b mb) : TrE Γ O L W (.IfExp c a b pos) (xIf tc ma mb) := by
  obtain ⟨t, p, q⟩ := hc
  obtain ⟨u, p2, q2⟩ := ha
  obtain ⟨v, p3, q3⟩ := hb
  refine ⟨tIf t u v, fun X h => pe_ifExp (p X h) (p2 X h) (p3 X h), fun c σ H s r d s' e Q w => ?_⟩
  unfold xIf at e
  cases e1 : tc s with
  | none => rw [e1] at e; cases e
  | some pr =>
    obtain ⟨k1, s1⟩ := pr
    rw [e1] at e
    simp only [Option.bind_some] at e
    refine q c σ H s r _ _ e1 _ fun H1 r1 x1 => ?_
    cases k1 with
    | true =>
      rw [if_pos rfl] at e ⊢
      exact q2 c σ H1 s1 r1 _ _ e Q fun v H2 r2 x2 d2 => w v H2 r2 (x1.trans x2) d2
    | false =>
      rw [if_neg Bool.false_ne_true] at e ⊢
      exact q3 c σ H1 s1 r1 _ _ e Q fun v H2 r2 x2 d2 => w v H2 r2 (x1.trans x2) d2
/-- is None -/
def dIsN (neg : Bool) : D → Option D
  | .none => some (.bool (!neg))
  | _ => some (.bool neg)
theorem tr_isN {j : Nat} {p2 : Pos} (ha : TrE Γ O L0 W a ma) : TrE Γ O L W (.Compare a [.Is] [.Constant .none j p2] pos) (xUn (dIsN false) ma) := by
  obtain ⟨t, p, q⟩ := ha
  refine ⟨tIsN t, fun X h => pe_cmp (pc_isN (p X h)) rfl, fun c σ H s r d s' e Q w => ?_⟩
  obtain ⟨x, e1, e2⟩ := xUn_of e
  refine q c σ H s r _ _ e1 _ fun v H1 r1 x1 d1 => ?_
  cases d1 <;> cases e2 <;> exact w _ H1 r1 x1 (.bl _)
theorem tr_notN {j : Nat} {p2 : Pos} (ha : TrE Γ O L0 W a ma) : TrE Γ O L W (.Compare a [.IsNot] [.Constant .none j p2] pos) (xUn (dIsN true) ma) := by
  obtain ⟨t, p, q⟩ := ha
  refine ⟨tNotN t, fun X h => pe_cmp (pc_notN (p X h)) rfl, fun c σ H s r d s' e Q w => ?_⟩
  obtain ⟨x, e1, e2⟩ := xUn_of e
  refine q c σ H s r _ _ e1 _ fun v H1 r1 x1 d1 => ?_
  cases d1 <;> cases e2 <;> exact w _ H1 r1 x1 (.bl _)
end

/-! ## what a def promises, and its calls -/
/-- reads only; the answer leans on what the caller doesn't hide -/
def spP (K : PySem.W.Frag) (f : List D → Option D) : Sp := fun vs H Q _ => ∃ (C : Addr → Prop) (ds : List D) (d : D), (∀ p, C p → ∃ o, H p = some o) ∧ RpAll K (hide C H) vs ds ∧ f ds = some d ∧
  ∀ v H', Ex H H' → Rp K (hide C H') v d → Q v H'
/-- .. and gives a new list -/
def spL (K : PySem.W.Frag) (f : List D → Option (List D)) : Sp := fun vs H Q _ => ∃ (C : Addr → Prop) (ds es : List D), (∀ p, C p → ∃ o, H p = some o) ∧ RpAll K (hide C H) vs ds ∧ f ds = some es ∧
  ∀ p us H', H p = none → Ex H (hide (· = p) H') → H' p = some (.lst us) → RpAll K (hide C (hide (· = p) H')) us es → Q (.ref p) H'
/-- the first argument is a list that it may change -/
def spT (K : PySem.W.Frag) (f : List D → List D → Option (D × List D)) : Sp := fun vs H Q _ => ∃ (C : Addr → Prop) (p : Addr) (us ws : List V) (fs ds : List D) (d : D) (fs' : List D), vs = .ref p :: ws ∧ C p ∧ (∀ a, C a → ∃ o, H a = some o) ∧
  H p = some (.lst us) ∧ RpAll K (hide C H) us fs ∧ RpAll K (hide C H) ws ds ∧ f fs ds = some (d, fs') ∧
  ∀ v H' us', Ex (hide (· = p) H) (hide (· = p) H') → H' p = some (.lst us') → RpAll K (hide C H') us' fs' → Rp K (hide C H') v d → Q v H'
section
variable {Γ : G} {O L L0 W : List Nat} {e : Expr} {es : List Expr} {ms : MF} {x : Str} {p pos : Pos} {k : Nat} {f : Addr} {fd : FuncData} {ps : List Str}
theorem InG.fn {Γ : G} {X : Cx} (h : InG Γ X) {sp : Sp} (F : FnOk Γ.P Γ.w Γ.K Γ.mg Γ.base CX0 k f fd ps sp) : FnOk X.prog X.w X.K X.mg X.base CX0 k f fd ps sp := by
  rw [h.prog, h.w, h.K, h.mg, h.base]; exact F
theorem InG.room {Γ : G} {X : Cx} (h : InG Γ X) (r : Room k Γ.A) : Room k X.A := by rw [h.A]; exact r
theorem InG.kp {Γ : G} {X : Cx} (h : InG Γ X) {v : Value} (r : PySem.W.keepIn Γ.K v = true) : PySem.W.keepIn X.K v = true := by rw [h.K]; exact r
theorem InG.bd {Γ : G} {X : Cx} (h : InG Γ X) {ds : List Value} (r : Binds Γ.K fd ps ds) : Binds X.K fd ps ds := by rw [h.K]; exact r
/-- what stands of a def of the module, for its callers -/
structure FnAt (P : Program) (w : World) (K : PySem.W.Frag) (mg : Str → Option Value) (base : Heap) (k : Nat) (x : Str) (ps : List Str) (sp : Sp) : Prop where
  ex : ∃ f fd, FnOk P w K mg base CX0 k f fd ps sp ∧ mg x = some (.ref f) ∧ PySem.W.keepIn K (.ref f) = true ∧ Binds K fd ps []
theorem tr_call {mf : List D → Option D} (F : FnAt Γ.P Γ.w Γ.K Γ.mg Γ.base k x ps (spP Γ.K mf)) (hr : Room k Γ.A) (hg : Γ.sc.names.lookup x = some .globalImplicit) (ha : TrA Γ O L W (e :: es) ms) (hL : ∀ j ∈ L, j ∈ O)
    (hdb : (x == ("__debug__" : Str)) = false := by decide) (he : ∀ env : Env, starEach (e :: es) env = (false, eval e env) :: starEach es env := by intro _; rfl) (hpl : ∀ env : Env, (backTo pos (starEach es env)).any (·.1) = false := by intro _; rfl) :
    TrE Γ O L W (.Call (.Name x p) (e :: es) [] pos) (xFn mf ms) := by
  obtain ⟨f, fd, F, hm, hk, hb⟩ := F.ex
  obtain ⟨t, pa, sa⟩ := ha
  refine ⟨tCall (spP Γ.K mf) [] E0 t, fun X h => pe_call (h.fn F) (h.room hr) (h.gl hg) (h.mgn hm) (h.kp hk) (h.bd hb) .nil pass0 (pa X h) hdb (he X.env) (hpl X.env), fun c σ H s r d s' e Q q => ?_⟩
  obtain ⟨ds, e1, e2⟩ := xFn_of e
  refine sa c σ H s r _ _ e1 _ fun vs H1 r1 x1 d1 => ?_
  refine ⟨c.msk L σ, ds, d, msk_there r1 hL, by rw [List.append_nil]; exact d1, e2, fun v H2 x2 d2 => q v H2 (r1.ex x2) (x1.trans (ex_hide x2)) d2⟩
theorem tf_call {mf : List D → Option (List D)} (F : FnAt Γ.P Γ.w Γ.K Γ.mg Γ.base k x ps (spL Γ.K mf)) (hr : Room k Γ.A) (hg : Γ.sc.names.lookup x = some .globalImplicit) (ha : TrA Γ O L W (e :: es) ms) (hL : ∀ j ∈ L, j ∈ O) (hW : ∀ j ∈ W, j ∈ O)
    (hdb : (x == ("__debug__" : Str)) = false := by decide) (he : ∀ env : Env, starEach (e :: es) env = (false, eval e env) :: starEach es env := by intro _; rfl) (hpl : ∀ env : Env, (backTo pos (starEach es env)).any (·.1) = false := by intro _; rfl) :
    TrF Γ O L W (.Call (.Name x p) (e :: es) [] pos) (xfMap mf ms) := by
  obtain ⟨f, fd, F, hm, hk, hb⟩ := F.ex
  obtain ⟨t, pa, sa⟩ := ha
  refine ⟨tCall (spL Γ.K mf) [] E0 t, fun X h => pe_call (h.fn F) (h.room hr) (h.gl hg) (h.mgn hm) (h.kp hk) (h.bd hb) .nil pass0 (pa X h) hdb (he X.env) (hpl X.env), fun c σ H s r ds' s' e Q q => ?_⟩
  obtain ⟨ds, e1, e2⟩ := xfMap_of e
  refine sa c σ H s r _ _ e1 _ fun vs H1 r1 x1 d1 => ?_
  refine ⟨c.msk L σ, ds, ds', msk_there r1 hL, by rw [List.append_nil]; exact d1, e2, fun p us H2 hp x2 h2 d2 => q p us H2 (fresh_of r1 hW x1 p hp) (r1.ex x2) (x1.trans (ex_hide x2)) h2 d2⟩
/-- an owned list has changed, all else stands -/
theorem R.chg2 {K : PySem.W.Frag} {c : Cn} {s : MS} {σ : L2.St} {H H' : Hp} (r : R K c O s σ H) {i : Nat} {p : Addr} {vs : List V} {ds : List D} (hi : i ∈ O) (hp : σ[i]? = some (some (.ref p))) (x : Ex (hide (· = p) H) (hide (· = p) H')) (h' : H' p = some (.lst vs)) (hd : RpAll K (hide (c.msk O σ) H') vs ds) :
    R K c O (s.set i (some (.list ds))) σ H' ∧ Ex (hide (Own [i] σ) H) (hide (Own [i] σ) H') := by
  have hm : c.msk O σ p := .inr ⟨i, hi, hp⟩
  have e0 : Ex (hide (c.msk O σ) H) (hide (c.msk O σ) H') := ex_wide (fun a z => by rw [z]; exact hm) x
  have hl : i < s.length := by
    rw [r.len]
    exact (List.getElem?_eq_some_iff.mp hp).1
  refine ⟨⟨by simpa using r.len, fun j e hj h hd' => ?_, fun j hj => ?_, r.nd, fun q h => ?_, r.th, fun j hj => ?_⟩, ex_wide (fun a z => by rw [z]; exact ⟨i, by simp, hp⟩) x⟩
  · have hne : j ≠ i := fun z => hj (z ▸ hi)
    rw [List.getElem?_set_ne (Ne.symm hne)] at h
    obtain ⟨v, h1, h2⟩ := r.sh j e hj h hd'
    exact ⟨v, h1, dp_ex e0 h2⟩
  · obtain ⟨p', vs', ds', h1, h2, h3, h4, h5⟩ := r.ow j hj
    by_cases hne : j = i
    · subst hne
      rw [hp] at h1
      cases h1
      exact ⟨p, _, _, hp, List.getElem?_set_self hl, h', .lst hd, h5⟩
    · have hpp : p' ≠ p := fun z => hne (r.nd j i p hj hi (z ▸ h1) hp)
      exact ⟨p', vs', ds', h1, by rw [List.getElem?_set_ne (Ne.symm hne)]; exact h2, (of_hide (x p' _ (hide_of hpp h3))).2, owo_ex e0 h4, h5⟩
  · by_cases e : q = p
    · exact ⟨_, by rw [e]; exact h'⟩
    · obtain ⟨o, z⟩ := r.cs q h
      exact ⟨o, (of_hide (x q _ (hide_of e z))).2⟩
  · by_cases hne : j = i
    · subst hne
      exact ⟨ds, List.getElem?_set_self hl⟩
    · obtain ⟨fs, h1⟩ := r.tl j hj
      exact ⟨fs, by rw [List.getElem?_set_ne (Ne.symm hne)]; exact h1⟩
/-- a call that may change the list in slot i -/
def xCallT (i : Nat) (f : List D → List D → Option (D × List D)) (ms : MF) : ME := fun s => (ms s).bind fun p => match p.2.getD i none with
  | some (.list fs) => (f fs p.1).map fun q => (q.1, p.2.set i (some (.list q.2)))
  | _ => none
theorem tr_callT {mf : List D → List D → Option (D × List D)} {i : Nat} {y : Str} {py : Pos} (F : FnAt Γ.P Γ.w Γ.K Γ.mg Γ.base k x ps (spT Γ.K mf)) (hr : Room k Γ.A) (hg : Γ.sc.names.lookup x = some .globalImplicit) (hN : Γ.N[i]? = some y) (hv : visB Γ.sc y = true) (hi : i ∈ W) (ha : TrA Γ O O W es ms) (hW : ∀ j ∈ W, j ∈ O) (hL : ∀ j ∈ L, j ∈ O)
    (hdb : (x == ("__debug__" : Str)) = false := by decide) (hd : (y == ("__debug__" : Str)) = false := by decide) (hcd : (y == ("__classdict__" : Str)) = false := by decide) (hpl : ∀ env : Env, (backTo pos (starEach es env)).any (·.1) = false := by intro _; rfl) :
    TrE Γ O L W (.Call (.Name x p) (.Name y py :: es) [] pos) (xCallT i mf ms) := by
  obtain ⟨f, fd, F, hm, hk, hb⟩ := F.ex
  obtain ⟨t, pa, sa⟩ := ha
  refine ⟨tCall (spT Γ.K mf) [] E0 (tCons (tVar i) t), fun X h => pe_call (h.fn F) (h.room hr) (h.gl hg) (h.mgn hm) (h.kp hk) (h.bd hb) .nil pass0 (pa_cons (pe_var (h.nx hN) (h.vis hv) hd hcd) (pa X h)) hdb rfl (hpl X.env), fun c σ H s r d s' e Q q => ?_⟩
  unfold xCallT at e
  cases e1 : ms s with
  | none => rw [e1] at e; cases e
  | some pr =>
    obtain ⟨ds, s1⟩ := pr
    rw [e1] at e
    simp only [Option.bind_some] at e
    split at e
    · rename_i fs e2
      cases e3 : mf fs ds with
      | none => rw [e3] at e; cases e
      | some w =>
        rw [e3] at e
        cases e
        have hiO : i ∈ O := hW i hi
        obtain ⟨p0, vs0, _, h1, _⟩ := r.ow i hiO
        refine ⟨.ref p0, h1, ?_⟩
        refine sa c σ H s r _ _ e1 _ fun vs H1 r1 x1 d1 => ?_
        have e4 : s1[i]? = some (some (.list fs)) := by
          rw [List.getD_eq_getElem?_getD] at e2
          cases e5 : s1[i]? with
          | none => rw [e5] at e2; cases e2
          | some o => rw [e5] at e2; exact congrArg some e2
        obtain ⟨p', us, k1, k3, k4, k5⟩ := r1.owl hiO e4
        rw [h1] at k1
        cases k1
        refine ⟨c.msk O σ, p0, us, vs, fs, ds, _, _, List.append_nil _, .inr ⟨i, hiO, h1⟩, msk_there r1 (fun _ z => z), k3, k4, d1, e3, fun v H2 us' x2 h2 d2 d3 => ?_⟩
        obtain ⟨r2, x3⟩ := r1.chg2 hiO h1 x2 h2 d2
        exact q v H2 r2 (x1.trans (ex_wide (fun a ⟨j, hj, z⟩ => ⟨j, by rw [List.mem_singleton.mp hj]; exact hi, z⟩) x3)) (dp_ex (ex_hide_sub (msk_sub hL)) d3)
    · cases e
end
end Z


namespace Z
open PySem PySem.Spec PyProof.Rows L2

/-! ## what is walked -/
def ItOk (K : PySem.W.Frag) (c : Cn) (O : List Nat) (σ : L2.St) (J : It) (H : Hp) (ds : List D) : Prop := ∀ (i : Nat) (c' : Cn) (σ' : L2.St) (H' : Hp), Ex (hide (c.msk O σ) H) (hide (c'.msk O σ') H') → (∀ a, c'.msk O σ' a → ∃ o, H' a = some o) →
  (∀ d, ds[i]? = some d → J.go i H' ∧ ∀ x H'', J.yld i H' x H'' → Ex H' H'' ∧ Rp K (hide (c'.msk O σ') H'') x d) ∧ (i = ds.length → J.stop i H')
def SimI (K : PySem.W.Frag) (O W : List Nat) (wi : TI) (m : MF) : Prop := ∀ (c : Cn) (σ : L2.St) (H : Hp) (s : MS), R K c O s σ H → ∀ ds s', m s = some (ds, s') → ∀ Q : It → Hp → Prop,
  (∀ J H', R K c O s' σ H' → Ex (hide (Own W σ) H) (hide (Own W σ) H') → ItOk K c O σ J H' ds → Q J H') → wi σ H Q
def TrI (Γ : G) (O W : List Nat) (tg e : Expr) (m : MF) : Prop := ∃ wi, (∀ X, InG Γ X → PI X tg e wi) ∧ SimI Γ.K O W wi m
def iSeq (K : PySem.W.Frag) (tl : TE) : TI := fun σ H R => tl σ H fun x H1 => ∃ a, x = .ref a ∧ (((∃ xs, SqL K H1 a xs) ∧ R (Itl K a) H1) ∨ ((∃ xs, SqT K H1 a xs) ∧ R (Itt K a) H1))
theorem pi_seq {X : Cx} {tg l : Expr} {tl : TE} (hl : PE X l tl) : PI X tg l (iSeq X.K tl) := by
  refine ⟨fun pins s σ H R I h => ?_⟩
  refine thn (hl.run pins s σ H _ I h) fun v s1 ⟨x, H1, I1, r1, q1⟩ => ?_
  obtain ⟨a, e, q⟩ := q1
  subst e
  cases r1
  rcases q with ⟨⟨xs, hq⟩, q⟩ | ⟨⟨xs, hq⟩, q⟩
  · obtain ⟨its, rv, p, hz⟩ := I1.list hq
    refine wpAny_pyIter_list p.isList ?_
    refine ⟨s1.heap.objs.size, [s1.heap.objs.size], _, _, H1, rfl, I1.kept (t' := s1.toks) fun b o e => Heap.get?_push_of_some _ e, turn_list a _, ⟨_, Heap.get?_push_size _ rfl, rfl, rfl⟩, fun b hb => ?_, q⟩
    have e : b = s1.heap.objs.size := by simpa using hb
    subst e
    exact I1.fpOk (Nat.le_refl _) (I1.hok.fresh (Nat.le_refl _))
  · obtain ⟨its, rv, p, hz⟩ := I1.tuple hq
    refine wpAny_pyIter_tuple (show s1.heap.IsTuple a its.toArray from p) ?_
    refine ⟨s1.heap.objs.size, [s1.heap.objs.size], _, _, H1, rfl, I1.kept (t' := s1.toks) fun b o e => Heap.get?_push_of_some _ e, turn_tuple a _, ⟨_, Heap.get?_push_size _ rfl, rfl, rfl⟩, fun b hb => ?_, q⟩
    have e : b = s1.heap.objs.size := by simpa using hb
    subst e
    exact I1.fpOk (Nat.le_refl _) (I1.hok.fresh (Nat.le_refl _))
section
variable {K : PySem.W.Frag} {c : Cn} {O W : List Nat} {σ : L2.St} {H : Hp}
theorem itok_list {a : Addr} {vs : List V} {ds : List D} (h : SqL K (hide (c.msk O σ) H) a vs) (hd : RpAll K (hide (c.msk O σ) H) vs ds) : ItOk K c O σ (Itl K a) H ds := fun i c' σ' H' e t => by
  have h2 : SqL K H' a vs := sql_ex (e.trans ex_hide0) h
  refine ⟨fun d hi => ?_, fun hi => ⟨vs, h2, by rw [dpa_len hd, hi]; exact Nat.le_refl _⟩⟩
  obtain ⟨v, h3, h4⟩ := dpa_get hd hi
  refine ⟨⟨vs, v, h2, h3⟩, fun x H'' y => ?_⟩
  obtain ⟨rfl, y⟩ := y
  have := y vs h2
  rw [h3] at this
  cases this
  exact ⟨Ex.refl _, dp_ex e h4⟩
theorem itok_tup {a : Addr} {vs : List V} {ds : List D} (h : SqT K (hide (c.msk O σ) H) a vs) (hd : RpAll K (hide (c.msk O σ) H) vs ds) : ItOk K c O σ (Itt K a) H ds := fun i c' σ' H' e t => by
  have h2 : SqT K H' a vs := sqt_ex (e.trans ex_hide0) h
  refine ⟨fun d hi => ?_, fun hi => ⟨vs, h2, by rw [dpa_len hd, hi]; exact Nat.le_refl _⟩⟩
  obtain ⟨v, h3, h4⟩ := dpa_get hd hi
  refine ⟨⟨vs, v, h2, h3⟩, fun x H'' y => ?_⟩
  obtain ⟨rfl, y⟩ := y
  have := y vs h2
  rw [h3] at this
  cases this
  exact ⟨Ex.refl _, dp_ex e h4⟩
theorem itok_rng {lo hi : Int} : ItOk K c O σ (Itr lo (hi - lo).toNat) H (dRg lo hi) := fun i c' σ' H' e t => by
  have hl : (dRg lo hi).length = (hi - lo).toNat := by unfold dRg; rw [List.length_map, List.length_range]
  refine ⟨fun d h => ?_, fun h => by rw [hl] at h; show (hi - lo).toNat ≤ i; omega⟩
  have hi' := (List.getElem?_eq_some_iff.mp h).1
  rw [hl] at hi'
  refine ⟨hi', fun x H'' y => ?_⟩
  obtain ⟨rfl, rfl⟩ := y
  unfold dRg at h
  rw [List.getElem?_map, List.getElem?_range hi'] at h
  cases h
  exact ⟨Ex.refl _, .int _⟩
theorem itok_enum {a : Addr} {vs : List V} {ds : List D} (h : SqL K (hide (c.msk O σ) H) a vs) (hd : RpAll K (hide (c.msk O σ) H) vs ds) : ItOk K c O σ (Ite K a) H (ds.mapIdx fun i d => .tuple [.int (i : Nat), d]) := fun i c' σ' H' e t => by
  have h2 : SqL K H' a vs := sql_ex (e.trans ex_hide0) h
  refine ⟨fun d hi => ?_, fun hi => ⟨vs, h2, by rw [dpa_len hd, hi, List.length_mapIdx]; exact Nat.le_refl _⟩⟩
  rw [List.getElem?_mapIdx] at hi
  cases e1 : ds[i]? with
  | none => rw [e1] at hi; cases hi
  | some d0 =>
    rw [e1] at hi
    cases hi
    obtain ⟨v, h3, h4⟩ := dpa_get hd e1
    refine ⟨⟨vs, v, h2, h3⟩, fun x H'' y => ?_⟩
    obtain ⟨T, x, rfl, hT, rfl, y⟩ := y
    have := y vs h2
    rw [h3] at this
    cases this
    have ex := ex_upd (o := HO.tup [V.int (i : Nat), v]) hT
    refine ⟨ex, .tup (.inl (.inl (hide_of (fun z => ?_) upd_same))) (.cons (.int _) (.cons (dp_ex (e.trans (ex_hide ex)) h4) .nil))⟩
    obtain ⟨o, z⟩ := t T z
    rw [hT] at z; cases z
theorem itok_zip {a b : Addr} {vs us : List V} {ds es : List D} (h : SqL K (hide (c.msk O σ) H) a vs) (hd : RpAll K (hide (c.msk O σ) H) vs ds) (hb : SqL K (hide (c.msk O σ) H) b us) (hdb : RpAll K (hide (c.msk O σ) H) us es) : ItOk K c O σ (Itz K a b) H ((ds.zip es).map fun p => .tuple [p.1, p.2]) := fun i c' σ' H' e t => by
  have h2 : SqL K H' a vs := sql_ex (e.trans ex_hide0) h
  have h2b : SqL K H' b us := sql_ex (e.trans ex_hide0) hb
  refine ⟨fun d hi => ?_, fun hi => ⟨vs, us, h2, h2b, ?_⟩⟩
  · rw [List.getElem?_map] at hi
    cases e1 : (ds.zip es)[i]? with
    | none => rw [e1] at hi; cases hi
    | some d0 =>
      rw [e1] at hi
      cases hi
      obtain ⟨g1, g2⟩ := List.getElem?_zip_eq_some.mp e1
      obtain ⟨v, h3, h4⟩ := dpa_get hd g1
      obtain ⟨u, h3b, h4b⟩ := dpa_get hdb g2
      refine ⟨⟨vs, us, v, u, h2, h2b, h3, h3b⟩, fun x H'' y => ?_⟩
      obtain ⟨T, x, x2, rfl, hT, rfl, y, y2⟩ := y
      have := y vs h2
      rw [h3] at this
      cases this
      have := y2 us h2b
      rw [h3b] at this
      cases this
      have ex := ex_upd (o := HO.tup [v, u]) hT
      refine ⟨ex, .tup (.inl (.inl (hide_of (fun z => ?_) upd_same))) (.cons (dp_ex (e.trans (ex_hide ex)) h4) (.cons (dp_ex (e.trans (ex_hide ex)) h4b) .nil))⟩
      obtain ⟨o, z⟩ := t T z
      rw [hT] at z; cases z
  · rw [List.length_map, List.length_zip] at hi
    rw [dpa_len hd, dpa_len hdb]
    omega
theorem itok_str {z : Str} : ItOk K c O σ (Its z) H (z.cps.toList.map fun k => .str ⟨#[k]⟩) := fun i c' σ' H' e t => by
  refine ⟨fun d hi => ?_, fun hi => by rw [List.length_map, Array.length_toList] at hi; show z.cps.size ≤ i; omega⟩
  rw [List.getElem?_map] at hi
  cases e1 : z.cps.toList[i]? with
  | none => rw [e1] at hi; cases hi
  | some k =>
    rw [e1] at hi
    cases hi
    have hlt := (List.getElem?_eq_some_iff.mp e1).1
    rw [Array.length_toList] at hlt
    refine ⟨hlt, fun x H'' y => ?_⟩
    obtain ⟨rfl, k', e2, rfl⟩ := y
    rw [Array.getElem?_toList] at e1
    rw [e1] at e2
    cases e2
    exact ⟨Ex.refl _, .str _⟩
end
section
variable {Γ : G} {O L0 W : List Nat} {tg a b e : Expr} {m ma mb : ME} {ms mt : MF} {p pos tpos : Pos} {elts : List Expr} {kk : Nat}
theorem ti_E (hW : ∀ j ∈ W, j ∈ O) (h : TrE Γ O O W e m) : TrI Γ O W tg e (xSeq m) := by
  obtain ⟨t, p, q⟩ := h
  refine ⟨iSeq Γ.K t, fun X h => by rw [← h.K]; exact pi_seq (p X h), fun c σ H s r ds s' e Q k => ?_⟩
  obtain ⟨d, e1, e2⟩ := xSeq_of e
  refine q c σ H s r _ _ e1 _ fun v H' r' ex hd => ?_
  cases hd <;> first | (cases e2; done) | skip
  · cases e2
    exact ⟨_, rfl, .inl ⟨⟨_, sql_ex ex_hide0 ‹_›⟩, k _ H' r' ex (itok_list ‹_› ‹_›)⟩⟩
  · cases e2
    exact ⟨_, rfl, .inr ⟨⟨_, sqt_ex ex_hide0 ‹_›⟩, k _ H' r' ex (itok_tup ‹_› ‹_›)⟩⟩
theorem ti_F (h : TrF Γ O O W e ms) : TrI Γ O W tg e ms := by
  obtain ⟨t, p, q⟩ := h
  refine ⟨iList Γ.K t, fun X h => by rw [← h.K]; exact pi_list (p X h), fun c σ H s r ds s' e Q k => ?_⟩
  refine q c σ H s r _ _ e _ fun p vs H' hp r' ex ha hd => ⟨p, rfl, ⟨vs, .inl (.inl ha)⟩, k _ H' (r'.ex ex_hide0) (ex.trans (ex_hide ex_hide0)) (itok_list (.inl (.inl (hide_of (fun z => ?_) ha))) (dpa_ex (ex_hide ex_hide0) hd))⟩
  obtain ⟨o, z⟩ := msk_there r' (fun _ z => z) p z
  exact (of_hide z).1 rfl
theorem ti_rng1 (hg : Γ.sc.names.lookup ("range" : Str) = some .globalImplicit) (hm : Γ.mg "range" = none) (h : TrE Γ O L0 W a m) (hs : ∀ env : Env, starEach [a] env = [(false, eval a env)] := by intro _; rfl) : TrI Γ O W tg (.Call (.Name "range" p) [a] [] pos) (xRg1 m) := by
  obtain ⟨t, pa, q⟩ := h
  refine ⟨iRng1 (tCons t tNil), fun X h => pi_range1 (h.gl hg) (h.mgn hm) (pa_cons (pa X h) pa_nil (hs X.env)) (hs X.env), fun c σ H s r ds s' e Q k => ?_⟩
  obtain ⟨n, e1, hn, rfl⟩ := xRg1_of e
  refine q c σ H s r _ _ e1 _ fun v H1 r1 x1 d1 => ?_
  cases d1
  refine ⟨n, rfl, by omega, by omega, k _ H1 r1 x1 ?_⟩
  have := itok_rng (K := Γ.K) (c := c) (O := O) (σ := σ) (H := H1) (lo := 0) (hi := n)
  rw [Int.sub_zero] at this
  exact this
def xRg2 (a b : ME) : MF := fun s => (a s).bind fun p => (b p.2).bind fun q => match p.1, q.1 with
  | .int x, .int n => if (n ≤ 1000000 ∧ -1000000 ≤ n) ∧ (x ≤ 1000000 ∧ -1000000 ≤ x) then some (dRg x n, q.2) else none
  | _, _ => none
theorem ti_rng2 (hg : Γ.sc.names.lookup ("range" : Str) = some .globalImplicit) (hm : Γ.mg "range" = none) (ha : TrE Γ O L0 W a ma) (hb : TrE Γ O L0 W b mb) (hs : ∀ env : Env, starEach [a, b] env = (false, eval a env) :: starEach [b] env := by intro _; rfl) (hs1 : ∀ env : Env, starEach [a, b] env = [(false, eval a env), (false, eval b env)] := by intro _; rfl) (hs2 : ∀ env : Env, starEach [b] env = [(false, eval b env)] := by intro _; rfl) :
    TrI Γ O W tg (.Call (.Name "range" p) [a, b] [] pos) (xRg2 ma mb) := by
  obtain ⟨t, pa, q⟩ := ha
  obtain ⟨t2, pb, q2⟩ := hb
  refine ⟨iRng2 (tCons t (tCons t2 tNil)), fun X h => pi_range2 (h.gl hg) (h.mgn hm) (pa_cons (pa X h) (pa_cons (pb X h) pa_nil (hs2 X.env)) (hs X.env)) (hs1 X.env) (hs2 X.env), fun c σ H s r ds s' e Q k => ?_⟩
  unfold xRg2 at e
  cases e1 : ma s with
  | none => rw [e1] at e; cases e
  | some pr =>
    obtain ⟨d, s1⟩ := pr
    rw [e1] at e
    simp only [Option.bind_some] at e
    cases e2 : mb s1 with
    | none => rw [e2] at e; cases e
    | some pr2 =>
      obtain ⟨d2, s2⟩ := pr2
      rw [e2] at e
      simp only [Option.bind_some] at e
      cases d <;> first | (cases e; done) | skip
      cases d2 <;> first | (cases e; done) | skip
      dsimp only at e
      split at e
      · cases e
        refine q c σ H s r _ _ e1 _ fun v H1 r1 x1 d1 => ?_
        refine q2 c σ H1 _ r1 _ _ e2 _ fun v H2 r2 x2 d2 => ?_
        cases d1; cases d2
        exact ⟨_, _, rfl, ⟨by omega, by omega, by omega, by omega⟩, k _ H2 r2 (x1.trans x2) itok_rng⟩
      · cases e
/-- a list that nothing owned reaches -/
def SimZ (K : PySem.W.Frag) (O W : List Nat) (t : TE) (m : MF) : Prop := ∀ (c : Cn) (σ : L2.St) (H : Hp) (s : MS), R K c O s σ H → ∀ ds s', m s = some (ds, s') → ∀ Q : VK,
  (∀ p vs H', R K c O s' σ H' → Ex (hide (Own W σ) H) (hide (Own W σ) H') → SqL K (hide (c.msk O σ) H') p vs → RpAll K (hide (c.msk O σ) H') vs ds → Q (.ref p) H') → t σ H Q
def TrZ (Γ : G) (O W : List Nat) (e : Expr) (m : MF) : Prop := ∃ t, (∀ X, InG Γ X → PE X e t) ∧ SimZ Γ.K O W t m
theorem tz_E (h : TrE Γ O O W e m) : TrZ Γ O W e (xList m) := by
  obtain ⟨t, p, q⟩ := h
  refine ⟨t, p, fun c σ H s r ds s' e Q k => q c σ H s r _ _ (xList_of e) _ fun v H' r' ex hd => ?_⟩
  cases hd with
  | lst h a => exact k _ _ H' r' ex h a
theorem tz_F (h : TrF Γ O O W e ms) : TrZ Γ O W e ms := by
  obtain ⟨t, p, q⟩ := h
  refine ⟨t, p, fun c σ H s r ds s' e Q k => q c σ H s r _ _ e _ fun p vs H' hp r' ex ha hd => k p vs H' (r'.ex ex_hide0) (ex.trans (ex_hide ex_hide0)) (.inl (.inl (hide_of (fun z => ?_) ha))) (dpa_ex (ex_hide ex_hide0) hd)⟩
  obtain ⟨o, z⟩ := msk_there r' (fun _ z => z) p z
  exact (of_hide z).1 rfl
def xEnum (m : MF) : MF := fun s => (m s).map fun p => (p.1.mapIdx fun i d => .tuple [.int (i : Nat), d], p.2)
def xZip (a b : MF) : MF := fun s => (a s).bind fun p => (b p.2).map fun q => ((p.1.zip q.1).map fun w => .tuple [w.1, w.2], q.2)
theorem ti_enum (hg : Γ.sc.names.lookup ("enumerate" : Str) = some .globalImplicit) (hm : Γ.mg "enumerate" = none) (h : TrZ Γ O W e ms) (hs : ∀ env : Env, starEach [e] env = [(false, eval e env)] := by intro _; rfl) : TrI Γ O W (.Tuple elts kk tpos) (.Call (.Name "enumerate" p) [e] [] pos) (xEnum ms) := by
  obtain ⟨t, pa, q⟩ := h
  refine ⟨iEnum Γ.K (tCons t tNil), fun X h => by rw [← h.K]; exact pi_enum (h.gl hg) (h.mgn hm) (pa_cons (pa X h) pa_nil (hs X.env)) (hs X.env), fun c σ H s r ds s' e Q k => ?_⟩
  unfold xEnum at e
  cases e1 : ms s with
  | none => rw [e1] at e; cases e
  | some pr =>
    rw [e1] at e
    cases e
    exact q c σ H s r _ _ e1 _ fun v vs H1 r1 x1 h1 d1 => ⟨v, vs, rfl, sql_ex ex_hide0 h1, k _ H1 r1 x1 (itok_enum h1 d1)⟩
theorem ti_zip (hg : Γ.sc.names.lookup ("zip" : Str) = some .globalImplicit) (hm : Γ.mg "zip" = none) (ha : TrZ Γ O W a ms) (hb : TrZ Γ O W b mt) (hW : ∀ j ∈ W, j ∈ O) (hs : ∀ env : Env, starEach [a, b] env = (false, eval a env) :: starEach [b] env := by intro _; rfl) (hs2 : ∀ env : Env, starEach [b] env = [(false, eval b env)] := by intro _; rfl)
    (hpl : ∀ env : Env, (backTo pos (starEach [b] env)).any (·.1) = false := by intro _; rfl) : TrI Γ O W (.Tuple elts kk tpos) (.Call (.Name "zip" p) [a, b] [] pos) (xZip ms mt) := by
  obtain ⟨t, pa, q⟩ := ha
  obtain ⟨t2, pb, q2⟩ := hb
  refine ⟨iZip Γ.K (tCons t (tCons t2 tNil)), fun X h => by rw [← h.K]; exact pi_zip (h.gl hg) (h.mgn hm) (pa_cons (pa X h) (pa_cons (pb X h) pa_nil (hs2 X.env)) (hs X.env)) (hs X.env) (hpl X.env), fun c σ H s r ds s' e Q k => ?_⟩
  unfold xZip at e
  cases e1 : ms s with
  | none => rw [e1] at e; cases e
  | some pr =>
    rw [e1] at e
    simp only [Option.bind_some] at e
    cases e2 : mt pr.2 with
    | none => rw [e2] at e; cases e
    | some pr2 =>
      rw [e2] at e
      cases e
      refine q c σ H s r _ _ e1 _ fun v vs H1 r1 x1 h1 d1 => ?_
      refine q2 c σ H1 _ r1 _ _ e2 _ fun u us H2 r2 x2 h2 d2 => ?_
      have kp := keep (c := c) hW x2
      exact ⟨v, u, vs, us, rfl, sql_ex (kp.trans ex_hide0) h1, sql_ex ex_hide0 h2, k _ H2 r2 (x1.trans x2) (itok_zip (sql_ex kp h1) (dpa_ex kp d1) h2 d2)⟩
def xSigns (m : ME) : MF := fun s => (m s).bind fun p => match p.1 with
  | .str z => some (z.cps.toList.map fun k => .str ⟨#[k]⟩, p.2)
  | _ => none
theorem ti_str {L : List Nat} (h : TrE Γ O L W e m) : TrI Γ O W tg e (xSigns m) := by
  obtain ⟨t, p, q⟩ := h
  refine ⟨iStr t, fun X h => pi_str (p X h), fun c σ H s r ds s' e Q k => ?_⟩
  unfold xSigns at e
  cases e1 : m s with
  | none => rw [e1] at e; cases e
  | some pr =>
    obtain ⟨d, s1⟩ := pr
    rw [e1] at e
    simp only [Option.bind_some] at e
    cases d <;> first | (cases e; done) | skip
    cases e
    refine q c σ H s r _ _ e1 _ fun v H1 r1 x1 d1 => ?_
    cases d1
    exact ⟨_, rfl, k _ H1 r1 x1 itok_str⟩
end

/-! ## targets -/
/-- two frames that differ in some slots alone -/
def Off (vs : List Nat) (σ σ' : L2.St) : Prop := σ'.length = σ.length ∧ ∀ j, j ∉ vs → σ'[j]? = σ[j]?
theorem Off.refl (vs : List Nat) (σ : L2.St) : Off vs σ σ := ⟨rfl, fun _ _ => rfl⟩
theorem Off.trans {vs : List Nat} {a b c : L2.St} (h : Off vs a b) (k : Off vs b c) : Off vs a c := ⟨k.1.trans h.1, fun j hj => (k.2 j hj).trans (h.2 j hj)⟩
theorem wipe_get (σ : L2.St) : ∀ (vs : List Nat) (j : Nat), (wipe σ vs)[j]? = if j ∈ vs ∧ j < σ.length then some none else σ[j]?
  | [], j => by simp [wipe]
  | v :: vs, j => by
    unfold wipe
    by_cases e : v = j
    · subst e
      by_cases hl : v < σ.length
      · rw [List.getElem?_set_self (by rw [wipe_length]; exact hl), if_pos ⟨List.mem_cons_self, hl⟩]
      · rw [if_neg (fun h => hl h.2), List.getElem?_eq_none (by rw [List.length_set, wipe_length]; omega), List.getElem?_eq_none (by omega)]
    · rw [List.getElem?_set_ne e, wipe_get σ vs j]
      by_cases h : j ∈ vs ∧ j < σ.length
      · rw [if_pos h, if_pos ⟨List.mem_cons_of_mem _ h.1, h.2⟩]
      · rw [if_neg h, if_neg (fun q => h ⟨(List.mem_cons.mp q.1).resolve_left (fun z => e z.symm), q.2⟩)]
theorem Off.wipe {vs : List Nat} {σ σ' : L2.St} (h : Off vs σ σ') : wipe σ' vs = wipe σ vs := by
  apply List.ext_getElem?
  intro j
  rw [wipe_get, wipe_get, h.1]
  by_cases e : j ∈ vs
  · by_cases hl : j < σ.length
    · rw [if_pos ⟨e, hl⟩, if_pos ⟨e, hl⟩]
    · rw [if_neg (fun z => hl z.2), if_neg (fun z => hl z.2), List.getElem?_eq_none (by rw [h.1]; omega), List.getElem?_eq_none (by omega)]
  · rw [if_neg (fun z => e z.1), if_neg (fun z => e z.1), h.2 j e]
theorem off_wipe (vs : List Nat) (σ : L2.St) : Off vs σ (L2.wipe σ vs) := ⟨wipe_length _ _, fun j hj => by rw [wipe_get, if_neg (fun z => hj z.1)]⟩
theorem Off.own {vs L : List Nat} {σ σ' : L2.St} (h : Off vs σ σ') (d : ∀ j ∈ L, j ∉ vs) : Own L σ' = Own L σ := by
  funext a
  refine propext ⟨fun ⟨j, hj, e⟩ => ⟨j, hj, ?_⟩, fun ⟨j, hj, e⟩ => ⟨j, hj, ?_⟩⟩
  · rw [← h.2 j (d j hj)]; exact e
  · rw [h.2 j (d j hj)]; exact e
theorem Off.msk {vs L : List Nat} {σ σ' : L2.St} {c : Cn} (h : Off vs σ σ') (d : ∀ j ∈ L, j ∉ vs) : c.msk L σ' = c.msk L σ := by
  unfold Cn.msk
  rw [h.own d]
/-- a target's binding: slots vs, none of them owned -/
def SimG (K : PySem.W.Frag) (O vs : List Nat) (g : TG) (b : D → MS → Option MS) : Prop := ∀ (c : Cn) (σ : L2.St) (H : Hp) (s : MS) (v : V) (d : D), R K c O s σ H → Rp K (hide (c.msk O σ) H) v d → ∀ s', b d s = some s' → ∀ Q : L2.St → Hp → Prop,
  (∀ σ', R K c O s' σ' H → Off vs σ σ' → Q σ' H) → g v σ H Q
def SimGs (K : PySem.W.Frag) (O vs : List Nat) (g : TGs) (b : List D → MS → Option MS) : Prop := ∀ (c : Cn) (σ : L2.St) (H : Hp) (s : MS) (us : List V) (ds : List D), R K c O s σ H → RpAll K (hide (c.msk O σ) H) us ds → ∀ s', b ds s = some s' → ∀ Q : L2.St → Hp → Prop,
  (∀ σ', R K c O s' σ' H → Off vs σ σ' → Q σ' H) → g us σ H Q
def TrG (Γ : G) (O vs : List Nat) (tg : Expr) (b : D → MS → Option MS) : Prop := ∃ g, (∀ X, InG Γ X → PG X tg g) ∧ SimG Γ.K O vs g b
def TrGs (Γ : G) (O vs : List Nat) (tgs : List Expr) (b : List D → MS → Option MS) : Prop := ∃ g, (∀ X, InG Γ X → PGs X tgs g) ∧ SimGs Γ.K O vs g b
def bName (i : Nat) : D → MS → Option MS := fun d s => some (s.set i (some d))
def bNil : List D → MS → Option MS := fun ds s => match ds with
  | [] => some s
  | _ => none
def bCons (b : D → MS → Option MS) (bs : List D → MS → Option MS) : List D → MS → Option MS := fun ds s => match ds with
  | [] => none
  | d :: r => (b d s).bind (bs r)
def bTup (n : Nat) (bs : List D → MS → Option MS) : D → MS → Option MS := fun d s => match d with
  | .tuple ds => if ds.length = n then bs ds s else none
  | _ => none
def locB (Γ : G) (x : Str) : Bool := match Γ.sc.names.lookup x with
  | some .local => true
  | some .cell => Γ.fnc x
  | _ => false
theorem InG.loc {Γ : G} {X : Cx} {x : Str} (h : InG Γ X) (e : locB Γ x = true) : L2.Loc X.env.scope x ∧ (X.fn x = true ∨ X.env.scope.names.lookup x = some .local) := by
  rw [h.sc, h.fnc]
  unfold locB at e
  unfold L2.Loc
  split at e
  · exact ⟨.inl ‹_›, .inr ‹_›⟩
  · exact ⟨.inr ‹_›, .inl e⟩
  · cases e
theorem filter_ne {O : List Nat} {i : Nat} (h : i ∉ O) : O.filter (· ≠ i) = O := List.filter_eq_self.mpr fun a ha => by
  have : a ≠ i := by intro z; subst z; exact h ha
  simpa using this
section
variable {Γ : G} {O vs : List Nat} {es : List Expr} {pos : Pos}
theorem tg_name {i : Nat} {x : Str} (hN : Γ.N[i]? = some x) (hv : locB Γ x = true) (hi : i ∉ O) (hvs : i ∈ vs) : TrG Γ O vs (.Name x pos) (bName i) := by
  refine ⟨gName i, fun X h => pg_name h.ndX (h.nx hN) (h.loc hv).1 (h.loc hv).2, fun c σ H s v d r hd s' e Q q => ?_⟩
  cases e
  by_cases hl : i < σ.length
  · have := (r.set (i := i) hd (fun z => hi (r.th i z).1) hl).1
    rw [filter_ne hi] at this
    exact q _ this ⟨by simp, fun j hj => List.getElem?_set_ne (by intro z; subst z; exact hj hvs)⟩
  · have e1 : s.set i (some d) = s := List.set_eq_of_length_le (by rw [r.len]; omega)
    have e2 : σ.set i (some v) = σ := List.set_eq_of_length_le (by omega)
    show Q (σ.set i (some v)) H
    rw [e2]
    rw [e1] at q
    exact q σ r (Off.refl _ _)
theorem tgs_nil : TrGs Γ O vs [] bNil := ⟨gNil, fun _ _ => pgs_nil, fun c σ H s us ds r hd s' e Q q => by
  cases hd with
  | nil => cases e; exact ⟨rfl, q σ r (Off.refl _ _)⟩
  | cons _ _ => cases e⟩
theorem tgs_cons {e : Expr} {b : D → MS → Option MS} {bs : List D → MS → Option MS} (h : TrG Γ O vs e b) (hs : TrGs Γ O vs es bs) (hd : ∀ j ∈ O, j ∉ vs) (ha : ∀ env : Env, (assignEach (e :: es) env).map (·.2) = assign e env :: (assignEach es env).map (·.2) := by intro _; rfl) : TrGs Γ O vs (e :: es) (bCons b bs) := by
  obtain ⟨g, p, q⟩ := h
  obtain ⟨gs, ps, qs⟩ := hs
  refine ⟨gCons g gs, fun X h => pgs_cons (p X h) (ps X h) (ha X.env), fun c σ H s us ds r hds s' e Q k => ?_⟩
  cases hds with
  | nil => cases e
  | cons h1 h2 =>
    rename_i v us d ds
    unfold bCons at e
    dsimp only at e
    cases e1 : b d s with
    | none => rw [e1] at e; cases e
    | some s1 =>
      rw [e1] at e
      refine ⟨v, us, rfl, q c σ H s v d r h1 s1 e1 _ fun σ1 r1 o1 => ?_⟩
      exact qs c σ1 H s1 us ds r1 (by rw [o1.msk hd]; exact h2) s' e Q fun σ2 r2 o2 => k σ2 r2 (o1.trans o2)
theorem tg_tup {k n : Nat} {bs : List D → MS → Option MS} (hs : TrGs Γ O vs es bs) (hn : ∀ env : Env, (assignEach es env).length = n := by intro _; rfl) (hst : ∀ env : Env, (assignEach es env).findIdx? (·.1) = none := by intro _; rfl) (hcm : Γ.calm = true := by rfl) : TrG Γ O vs (.Tuple es k pos) (bTup n bs) := by
  obtain ⟨gs, ps, qs⟩ := hs
  refine ⟨gTup Γ.K n gs, fun X h => by rw [← h.K]; exact pg_tup (h.cm hcm) (ps X h) (hn X.env) (hst X.env), fun c σ H s v d r hd s' e Q q => ?_⟩
  cases hd <;> first | (cases e; done) | skip
  rename_i a xs ds h1 h2
  unfold bTup at e
  dsimp only at e
  split at e
  · rename_i hl
    exact ⟨a, xs, rfl, sqt_ex ex_hide0 h1, by rw [dpa_len h2]; exact hl, qs c σ H s xs ds r h2 s' e Q q⟩
  · cases e
end
end Z


namespace Z
open PySem PySem.Spec PyProof.Rows L2

/-! ## comprehensions -/
def wipeM (s : MS) : List Nat → MS
  | [] => s
  | v :: vs => (wipeM s vs).set v none
def unwipe (s0 s : MS) : List Nat → MS
  | [] => s
  | v :: vs => (unwipe s0 s vs).set v (s0.getD v none)
theorem wipeM_len (s : MS) : ∀ vs : List Nat, (wipeM s vs).length = s.length
  | [] => rfl
  | v :: vs => by unfold wipeM; rw [List.length_set, wipeM_len s vs]
theorem unwipe_len (s0 s : MS) : ∀ vs : List Nat, (unwipe s0 s vs).length = s.length
  | [] => rfl
  | v :: vs => by unfold unwipe; rw [List.length_set, unwipe_len s0 s vs]
theorem wipeM_get (σ : MS) : ∀ (vs : List Nat) (j : Nat), (wipeM σ vs)[j]? = if j ∈ vs ∧ j < σ.length then some none else σ[j]?
  | [], j => by simp [wipeM]
  | v :: vs, j => by
    unfold wipeM
    by_cases e : v = j
    · subst e
      by_cases hl : v < σ.length
      · rw [List.getElem?_set_self (by rw [wipeM_len]; exact hl), if_pos ⟨List.mem_cons_self, hl⟩]
      · rw [if_neg (fun h => hl h.2), List.getElem?_eq_none (by rw [List.length_set, wipeM_len]; omega), List.getElem?_eq_none (by omega)]
    · rw [List.getElem?_set_ne e, wipeM_get σ vs j]
      by_cases h : j ∈ vs ∧ j < σ.length
      · rw [if_pos h, if_pos ⟨List.mem_cons_of_mem _ h.1, h.2⟩]
      · rw [if_neg h, if_neg (fun q => h ⟨(List.mem_cons.mp q.1).resolve_left (fun z => e z.symm), q.2⟩)]
theorem unwipe_get (s0 s : MS) : ∀ (vs : List Nat) (j : Nat), (unwipe s0 s vs)[j]? = if j ∈ vs ∧ j < s.length then some (s0.getD j none) else s[j]?
  | [], j => by simp [unwipe]
  | v :: vs, j => by
    unfold unwipe
    by_cases e : v = j
    · subst e
      by_cases hl : v < s.length
      · rw [List.getElem?_set_self (by rw [unwipe_len]; exact hl), if_pos ⟨List.mem_cons_self, hl⟩]
      · rw [if_neg (fun h => hl h.2), List.getElem?_eq_none (by rw [List.length_set, unwipe_len]; omega), List.getElem?_eq_none (by omega)]
    · rw [List.getElem?_set_ne e, unwipe_get s0 s vs j]
      by_cases h : j ∈ vs ∧ j < s.length
      · rw [if_pos h, if_pos ⟨List.mem_cons_of_mem _ h.1, h.2⟩]
      · rw [if_neg h, if_neg (fun q => h ⟨(List.mem_cons.mp q.1).resolve_left (fun z => e z.symm), q.2⟩)]
def Cn.add (c : Cn) (D : Addr) : Cn := { c with C := fun a => c.C a ∨ a = D }
section
variable {K : PySem.W.Frag} {c : Cn} {O L W vs : List Nat} {s s0 : MS} {σ : L2.St} {H H1 : Hp} {D : Addr} {o : HO}
theorem R.wipeR (r : R K c O s σ H) (hv : ∀ j ∈ O, j ∉ vs) : R K c O (wipeM s vs) (wipe σ vs) H where
  len := by rw [wipeM_len, wipe_length]; exact r.len
  sh := fun i d hi h hd => by
    rw [wipeM_get] at h
    split at h
    · cases h
    · rename_i hn
      obtain ⟨v, h1, h2⟩ := r.sh i d hi h hd
      have hl : i < s.length := (List.getElem?_eq_some_iff.mp h).1
      have hi2 : i ∉ vs := fun z => hn ⟨z, hl⟩
      exact ⟨v, by rw [(off_wipe vs σ).2 i hi2]; exact h1, by rw [(off_wipe vs σ).msk hv]; exact h2⟩
  ow := fun i hi => by
    obtain ⟨p, us, ds, h1, h2, h3, h4, h5⟩ := r.ow i hi
    exact ⟨p, us, ds, by rw [(off_wipe vs σ).2 i (hv i hi)]; exact h1, by rw [wipeM_get, if_neg (fun z => hv i hi z.1)]; exact h2, h3, by rw [(off_wipe vs σ).msk hv]; exact h4, h5⟩
  tl := fun i hi => by
    obtain ⟨ds, h1⟩ := r.tl i hi
    exact ⟨ds, by rw [wipeM_get, if_neg (fun z => hv i (r.th i hi).1 z.1)]; exact h1⟩
  nd := fun i j p hi hj h1 h2 => r.nd i j p hi hj (by rw [← (off_wipe vs σ).2 i (hv i hi)]; exact h1) (by rw [← (off_wipe vs σ).2 j (hv j hj)]; exact h2)
  cs := r.cs
  th := fun i hi => ⟨(r.th i hi).1, by rw [(off_wipe vs σ).2 i (hv i (r.th i hi).1)]; exact (r.th i hi).2⟩
/-- a new object is hidden for the callee's sake -/
theorem R.addC (r : R K c O s σ H) (hD : H D = none) : R K (c.add D) O s σ (upd H D o) := by
  have e : Ex (hide (c.msk O σ) H) (hide ((c.add D).msk O σ) (upd H D o)) := fun a u q => by
    obtain ⟨n, q⟩ := of_hide q
    have ne : a ≠ D := ne_of_none q hD
    refine hide_of (fun z => ?_) (by rw [upd_ne ne]; exact q)
    rcases z with (z | z) | z
    · exact n (.inl z)
    · exact ne z
    · exact n (.inr z)
  refine ⟨r.len, fun i d hi h hd => ?_, fun i hi => ?_, r.nd, fun p h => ?_, r.th, r.tl⟩
  · obtain ⟨v, h1, h2⟩ := r.sh i d hi h hd
    exact ⟨v, h1, dp_ex e h2⟩
  · obtain ⟨p, us, ds, h1, h2, h3, h4, h5⟩ := r.ow i hi
    have ne : p ≠ D := ne_of_none h3 hD
    exact ⟨p, us, ds, h1, h2, by rw [upd_ne ne]; exact h3, owo_ex e h4, fun z => z.elim h5 ne⟩
  · by_cases ne : p = D
    · exact ⟨_, by rw [ne]; exact upd_same⟩
    · obtain ⟨u, q⟩ := r.cs p (h.resolve_right ne)
      exact ⟨u, by rw [upd_ne ne]; exact q⟩
/-- what the caller hides may change -/
theorem R.updC (r : R K c O s σ H) (hC : c.C D) : R K c O s σ (upd H D o) := by
  have e : Ex (hide (c.msk O σ) H) (hide (c.msk O σ) (upd H D o)) := ex_hide_up (.inl hC)
  refine ⟨r.len, fun i d hi h hd => ?_, fun i hi => ?_, r.nd, fun p h => ?_, r.th, r.tl⟩
  · obtain ⟨v, h1, h2⟩ := r.sh i d hi h hd
    exact ⟨v, h1, dp_ex e h2⟩
  · obtain ⟨p, us, ds, h1, h2, h3, h4, h5⟩ := r.ow i hi
    have ne : p ≠ D := fun z => h5 (z ▸ hC)
    exact ⟨p, us, ds, h1, h2, by rw [upd_ne ne]; exact h3, owo_ex e h4, h5⟩
  · by_cases ne : p = D
    · exact ⟨_, by rw [ne]; exact upd_same⟩
    · obtain ⟨u, q⟩ := r.cs p h
      exact ⟨u, by rw [upd_ne ne]; exact q⟩
/-- back from a block -/
theorem R.unblk (r : R K (c.add D) O s (wipe σ vs) H) (r0 : R K c O s0 σ H1) (hD : H1 D = none) (hv : ∀ j ∈ O, j ∉ vs) (e0 : Ex (hide (c.msk O σ) H1) (hide (c.msk O σ) (hide (· = D) H))) : R K c O (unwipe s0 s vs) σ (hide (· = D) H) := by
  have em : (c.add D).msk O (wipe σ vs) = (c.add D).msk O σ := (off_wipe vs σ).msk hv
  have e : Ex (hide ((c.add D).msk O (wipe σ vs)) H) (hide (c.msk O σ) (hide (· = D) H)) := fun a u q => by
    rw [em] at q
    obtain ⟨n, q⟩ := of_hide q
    exact hide_of (fun z => n (z.elim (fun z => .inl (.inl z)) .inr)) (hide_of (fun z => n (.inl (.inr z))) q)
  refine ⟨by rw [unwipe_len, r.len, wipe_length], fun i d hi h hd => ?_, fun i hi => ?_, r0.nd, fun p h => ?_, r0.th, fun i hi => ?_⟩
  · rw [unwipe_get] at h
    split at h
    · rename_i hh
      have h' : s0[i]? = some (some d) := by
        rw [List.getD_eq_getElem?_getD] at h
        cases e3 : s0[i]? with
        | none => rw [e3] at h; cases h
        | some w => rw [e3] at h; exact h
      obtain ⟨v, h1, h2⟩ := r0.sh i d hi h' hd
      exact ⟨v, h1, dp_ex e0 h2⟩
    · rename_i hn
      have hl : i < s.length := (List.getElem?_eq_some_iff.mp h).1
      have hi2 : i ∉ vs := fun z => hn ⟨z, hl⟩
      obtain ⟨v, h1, h2⟩ := r.sh i d hi h hd
      exact ⟨v, by rw [← (off_wipe vs σ).2 i hi2]; exact h1, dp_ex e h2⟩
  · obtain ⟨p, us, ds, h1, h2, h3, h4, h5⟩ := r.ow i hi
    have ne : p ≠ D := fun z => h5 (.inr z)
    exact ⟨p, us, ds, by rw [← (off_wipe vs σ).2 i (hv i hi)]; exact h1, by rw [unwipe_get, if_neg (fun z => hv i hi z.1)]; exact h2, hide_of ne h3, owo_ex e h4, fun z => h5 (.inl z)⟩
  · obtain ⟨u, q⟩ := r0.cs p h
    have ne : p ≠ D := ne_of_none q hD
    obtain ⟨u', q'⟩ := r.cs p (.inl h)
    exact ⟨u', hide_of ne q'⟩
  · obtain ⟨ds, h1⟩ := r.tl i hi
    exact ⟨ds, by rw [unwipe_get, if_neg (fun z => hv i (r0.th i hi).1 z.1)]; exact h1⟩
end
def lcL (vs : List Nat) (b : D → MS → Option MS) (t : MT) (e : ME) : List D → MS → Option (List D × MS)
  | [], s => some ([], s)
  | d :: ds, s => (b d s).bind fun s1 => (t s1).bind fun q => if q.1 = true then (e q.2).bind fun y => (lcL vs b t e ds (wipeM y.2 vs)).map fun z => (y.1 :: z.1, z.2) else lcL vs b t e ds (wipeM q.2 vs)
def xLc (src : MF) (vs : List Nat) (b : D → MS → Option MS) (t : MT) (e : ME) : MF := fun s => (src s).bind fun p => if p.1.length ≤ 1000000 then (lcL vs b t e p.1 (wipeM p.2 vs)).map fun q => (q.1, unwipe p.2 q.2 vs) else none
def xYes : MT := fun s => some (true, s)
theorem sim_lc {K : PySem.W.Frag} {O L W vs : List Nat} {wi : TI} {g : TG} {tt : TT} {te : TE} {msrc : MF} {b : D → MS → Option MS} {mt : MT} {me : ME} (hi : SimI K O W wi msrc) (hg : SimG K O vs g b) (ht : SimT K O W tt mt) (he : SimE K O L W te me)
    (hv : ∀ j ∈ O, j ∉ vs) (hW : ∀ j ∈ W, j ∈ L) (hL : ∀ j ∈ L, j ∈ O) : SimF K O L W (tLc wi g tt te vs) (xLc msrc vs b mt me) := fun c σ H s r ds s' e Q q => by
  unfold xLc at e
  cases e1 : msrc s with
  | none => rw [e1] at e; cases e
  | some p =>
    obtain ⟨xs, s1⟩ := p
    rw [e1] at e
    simp only [Option.bind_some] at e
    split at e
    · rename_i hsz
      cases e2 : lcL vs b mt me xs (wipeM s1 vs) with
      | none => rw [e2] at e; cases e
      | some w =>
        obtain ⟨ds0, s2⟩ := w
        rw [e2] at e
        cases e
        have hWO : ∀ j ∈ W, j ∈ O := fun j hj => hL j (hW j hj)
        refine hi c σ H s r _ _ e1 _ fun J H1 r1 x1 it => ?_
        intro D hD
        have ow2 : ∀ {σ2 : L2.St}, Off vs (wipe σ vs) σ2 → Own W σ2 = Own W σ := fun {σ2} o => ((off_wipe vs σ).trans o).own fun j hj => hv j (hWO j hj)
        let Pv : Nat → Hp → Prop := fun i H' => ∃ (si : MS) (acc : List PyData) (us : List V) (rest : List PyData), R K (c.add D) O si (wipe σ vs) H' ∧ H' D = some (.lst us) ∧ RpAll K (hide ((c.add D).msk L (wipe σ vs)) H') us acc ∧
          Ex (hide (fun a => Own W σ a ∨ a = D) H1) (hide (fun a => Own W σ a ∨ a = D) H') ∧ lcL vs b mt me (xs.drop i) si = some (rest, s2) ∧ ds0 = acc ++ rest ∧ acc.length ≤ i
        refine ⟨fun i m H' => m = xs.length - i ∧ i ≤ xs.length ∧ Pv i H', ⟨xs.length, by simp, Nat.zero_le _, wipeM s1 vs, [], [], ds0, (r1.addC hD).wipeR hv, upd_same, .nil, ?_, e2, rfl, Nat.le_refl _⟩, ?_⟩
        · exact ex_hide_up (.inr rfl)
        rintro i m H' ⟨rfl, hile, si, acc, us, rest, ri, hDi, dacc, exi, erun, eds, hacc⟩
        have exm : Ex (hide (c.msk O σ) H1) (hide ((c.add D).msk O (wipe σ vs)) H') := fun a u z => by
          obtain ⟨n, z⟩ := of_hide z
          have ne : a ≠ D := ne_of_none z hD
          have z2 := (of_hide (exi a u (hide_of (fun y => y.elim (fun y => n (.inr (own_sub hWO a y))) ne) z))).2
          refine hide_of (fun y => ?_) z2
          rw [(off_wipe vs σ).msk hv] at y
          rcases y with (y | y) | y
          · exact n (.inl y)
          · exact ne y
          · exact n (.inr y)
        have trk := msk_there ri (L := O) (fun _ z => z)
        obtain ⟨itgo, itstop⟩ := it i (c.add D) (wipe σ vs) H' exm trk
        by_cases hlt : i < xs.length
        · obtain ⟨d, hd⟩ : ∃ d, xs[i]? = some d := ⟨xs[i], List.getElem?_eq_getElem hlt⟩
          obtain ⟨go, yl⟩ := itgo d hd
          have edrop : xs.drop i = d :: xs.drop (i + 1) := by
            rw [List.drop_eq_getElem_cons hlt]
            rw [List.getElem?_eq_getElem hlt] at hd
            cases hd; rfl
          rw [edrop] at erun
          unfold lcL at erun
          cases eb : b d si with
          | none => rw [eb] at erun; cases erun
          | some sb =>
            rw [eb] at erun
            simp only [Option.bind_some] at erun
            cases et : mt sb with
            | none => rw [et] at erun; cases erun
            | some pt =>
              obtain ⟨bt, st⟩ := pt
              rw [et] at erun
              simp only [Option.bind_some] at erun
              refine .inr ⟨go, Pv (i + 1), fun H2 p2 => ⟨xs.length - (i + 1), by omega, rfl, hlt, p2⟩, fun x H2 y => ?_⟩
              obtain ⟨ex2, dx⟩ := yl x H2 y
              refine hg (c.add D) (wipe σ vs) H2 si x d (ri.ex ex2) dx sb eb _ fun σ2 rb ob => ?_
              refine ⟨ob.wipe.trans ((off_wipe vs σ).wipe), ?_⟩
              have offσ : Off vs σ σ2 := (off_wipe vs σ).trans ob
              have mL : (c.add D).msk L σ2 = (c.add D).msk L (wipe σ vs) := ob.msk fun j hj => hv j (hL j hj)
              have wEq : wipe σ2 vs = wipe σ vs := ob.wipe.trans ((off_wipe vs σ).wipe)
              have dn : ∀ {H3 : Hp} {s3 : MS}, R K (c.add D) O s3 σ2 H3 → ¬ Own W σ2 D := fun {H3 s3} r3 ⟨j, hj, z⟩ => by
                obtain ⟨p', _, _, k1, _, _, _, k5⟩ := r3.ow j (hWO j hj)
                rw [z] at k1
                cases k1
                exact k5 (.inr rfl)
              refine ht (c.add D) σ2 H2 sb rb bt st et _ fun H3 r3 x3 => ?_
              have hD3 : H3 D = some (.lst us) := (of_hide (x3 D _ (hide_of (dn rb) (ex2 D _ hDi)))).2
              cases bt with
              | false =>
                rw [if_neg Bool.false_ne_true] at erun ⊢
                refine ⟨wipeM st vs, acc, us, rest, wEq ▸ (r3.wipeR hv), hD3, ?_, ?_, erun, eds, by omega⟩
                · rw [← mL]
                  exact dpa_ex (keep hW x3) (by rw [mL]; exact dpa_ex (ex_hide ex2) dacc)
                · refine exi.trans ((ex_hide ex2).trans (ex_wide (fun a z => ?_) x3))
                  rw [ow2 ob] at z
                  exact .inl z
              | true =>
                rw [if_pos rfl] at erun ⊢
                cases ee : me st with
                | none => rw [ee] at erun; cases erun
                | some pe =>
                  obtain ⟨dy, s4⟩ := pe
                  rw [ee] at erun
                  simp only [Option.bind_some] at erun
                  cases er : lcL vs b mt me (xs.drop (i + 1)) (wipeM s4 vs) with
                  | none => rw [er] at erun; cases erun
                  | some pz =>
                    obtain ⟨rz, sz⟩ := pz
                    rw [er] at erun
                    cases erun
                    refine he (c.add D) σ2 H3 st r3 dy s4 ee _ fun yv H4 r4 x4 d4 => ?_
                    have hD4 : H4 D = some (.lst us) := (of_hide (x4 D _ (hide_of (dn r3) hD3))).2
                    have hlen : us.length = acc.length := dpa_len dacc
                    refine ⟨us, hD4, Nat.lt_of_lt_of_le (show us.length < 1000001 by omega) (by decide), wipeM s4 vs, acc ++ [dy], us ++ [yv], rz, ?_, upd_same, ?_, ?_, er, by rw [eds, List.append_assoc]; rfl, by rw [List.length_append, List.length_singleton]; omega⟩
                    · rw [← wEq]
                      exact (r4.updC (.inr rfl)).wipeR hv
                    · rw [← mL]
                      have up : Ex (hide ((c.add D).msk L σ2) H4) (hide ((c.add D).msk L σ2) (upd H4 D (.lst (us ++ [yv])))) := ex_hide_up (.inl (.inr rfl))
                      refine dpa_app (dpa_ex up (dpa_ex (keep hW x4) (dpa_ex (keep hW x3) ?_))) (.cons (dp_ex up d4) .nil)
                      rw [mL]
                      exact dpa_ex (ex_hide ex2) dacc
                    · refine exi.trans ((ex_hide ex2).trans ((ex_wide (fun a z => ?_) x3).trans ((ex_wide (fun a z => ?_) x4).trans (ex_hide_up (.inr rfl)))))
                      · rw [ow2 ob] at z
                        exact .inl z
                      · rw [ow2 ob] at z
                        exact .inl z
        · have hie : i = xs.length := by omega
          refine .inl ⟨itstop hie, ?_⟩
          rw [hie, List.drop_length] at erun
          unfold lcL at erun
          cases erun
          rw [List.append_nil] at eds
          have e0 : Ex (hide (c.msk O σ) H1) (hide (c.msk O σ) (hide (· = D) H')) := fun a u z => by
            obtain ⟨n, z⟩ := of_hide z
            have ne : a ≠ D := ne_of_none z hD
            exact hide_of n (hide_of ne (of_hide (exi a u (hide_of (fun y => y.elim (fun y => n (.inr (own_sub hWO a y))) ne) z))).2)
          refine q D us H' (fresh_of r1 hWO x1 D hD) (ri.unblk r1 hD hv e0) (x1.trans fun a u z => ?_) hDi ?_
          · obtain ⟨n, z⟩ := of_hide z
            have ne : a ≠ D := ne_of_none z hD
            exact hide_of n (hide_of ne (of_hide (exi a u (hide_of (fun y => y.elim n ne) z))).2)
          · rw [eds]
            refine dpa_ex (fun a u z => ?_) dacc
            rw [(off_wipe vs σ).msk fun j hj => hv j (hL j hj)] at z
            obtain ⟨n, z⟩ := of_hide z
            exact hide_of (fun y => n (y.elim (fun y => .inl (.inl y)) .inr)) (hide_of (fun y => n (.inl (.inr y))) z)
    · cases e
/-- the context of a block -/
abbrev G.blk (Γ : G) (scope : Scope) : G := { Γ with sc := relS scope Γ.sc, fnc := fun x => scope.names.lookup x == some .cell }
theorem InG.blk {Γ : G} {X : Cx} (h : InG Γ X) (scope : Scope) (s : Shared) (H : Hp) (C : Addr) (cl : List (Str × Addr)) (fp : List Addr) : InG (Γ.blk scope) (X.blk s H scope (compEnvC scope cl C X.env) fp) where
  prog := h.prog
  w := h.w
  K := h.K
  mg := h.mg
  base := h.base
  A := h.A
  N := h.N
  sc := by show relS scope X.env.scope = relS scope Γ.sc; rw [h.sc]
  fnc := rfl
  nd := h.nd
  calm := h.calm
  xe := rfl
def TrTs (Γ : G) (O W : List Nat) (ifs : List Expr) (m : MT) : Prop := ∃ t, (∀ X, InG Γ X → PTs X ifs t) ∧ SimT Γ.K O W t m
section
variable {Γ : G} {O L W vs : List Nat} {elt tg iter e : Expr} {ifs : List Expr} {scope : Scope} {own : List (Str × Nat)} {pos : Pos} {msrc : MF} {b : D → MS → Option MS} {mt : MT} {me : ME}
theorem tts_nil : TrTs Γ O W [] xYes := ⟨tYes, fun _ _ => pts_nil, fun c σ H s r b s' e Q q => by cases e; exact q H r refl_hide⟩
theorem tts_one (h : TrT Γ O W e mt) : TrTs Γ O W [e] mt := by
  obtain ⟨t, p, q⟩ := h
  exact ⟨t, fun X h => pts_one (p X h), q⟩
theorem tf_lc (own : List (Str × Nat)) (hi : TrI Γ O W tg iter msrc) (ok : blkC Γ.N Γ.sc scope own = true) (hg : TrG (Γ.blk scope) O (own.map (·.2)) tg b) (ht : TrTs (Γ.blk scope) O W ifs mt) (he : TrE (Γ.blk scope) O L W elt me)
    (hv : ∀ j ∈ O, j ∉ own.map (·.2)) (hW : ∀ j ∈ W, j ∈ L) (hL : ∀ j ∈ L, j ∈ O) (hs : ∀ (env : Env) x, foldedSetIterable iter env x = pure x := by intro _ _; rfl) (hcm : Γ.calm = true := by rfl) :
    TrF Γ O L W (.ListComp elt [⟨tg, iter, ifs, 0⟩] scope pos) (xLc msrc (own.map (·.2)) b mt me) := by
  obtain ⟨wi, pi, si⟩ := hi
  obtain ⟨g, pg, sg⟩ := hg
  obtain ⟨t, pt, st⟩ := ht
  obtain ⟨te, pe, se⟩ := he
  exact ⟨tLc wi g t te (own.map (·.2)), fun X h => pe_lc (h.cm hcm) h.ndX (pi X h) (by rw [h.N, h.sc]; exact blkOk_by ok) (fun s H C cl fp => pg _ (h.blk scope s H C cl fp)) (fun s H C cl fp => pt _ (h.blk scope s H C cl fp)) (fun s H C cl fp => pe _ (h.blk scope s H C cl fp)) (hs X.env), sim_lc si sg st se hv hW hL⟩
end
end Z


namespace Z
open PySem PySem.Spec PyProof.Rows L2

/-! ## statements -/
def Fr (O : List Nat) (σ : L2.St) (H : Hp) (O' : List Nat) (σ' : L2.St) (H' : Hp) : Prop := Ex (hide (Own O σ) H) (hide (Own O' σ') H')
theorem Fr.trans {O O1 O2 : List Nat} {σ σ1 σ2 : L2.St} {H H1 H2 : Hp} (a : Fr O σ H O1 σ1 H1) (b : Fr O1 σ1 H1 O2 σ2 H2) : Fr O σ H O2 σ2 H2 := Ex.trans a b
theorem Fr.refl (O : List Nat) (σ : L2.St) (H : Hp) : Fr O σ H O σ H := Ex.refl _
/-- what is lent, as it stood at the entry -/
def Cn.T (c : Cn) : Addr → Prop := Own c.Th c.τ
/-- a return: the value v of d at H'; fz: a new list -/
structure RtOk (K : PySem.W.Frag) (fz : Bool) (c : Cn) (O : List Nat) (σ : L2.St) (H : Hp) (d : D) (s' : MS) (v : V) (H' : Hp) : Prop where
  fr : Ex (hide (Own O σ) H) (hide c.T H')
  th : ∀ i : Nat, i ∈ c.Th → ∃ (p : Addr) (vs : List V) (ds : List D), c.τ[i]? = some (some (.ref p)) ∧ s'[i]? = some (some (.list ds)) ∧ H' p = some (.lst vs) ∧ RpAll K (hide (fun a => c.C a ∨ c.T a) H') vs ds
  val : Rp K (hide (fun a => c.C a ∨ c.T a) H') v d
  fresh : fz = true → ∃ (p : Addr) (vs : List V) (ds : List D), v = .ref p ∧ d = .list ds ∧ hide (Own O σ) H p = none ∧ ¬ c.T p ∧ ¬ c.C p ∧ H' p = some (.lst vs) ∧ RpAll K (hide (fun a => (c.C a ∨ c.T a) ∨ a = p) H') vs ds
theorem RtOk.ahead {K : PySem.W.Frag} {fz : Bool} {c : Cn} {O O1 : List Nat} {σ σ1 : L2.St} {H H1 H' : Hp} {d : D} {s' : MS} {v : V} (a : Fr O σ H O1 σ1 H1) (r : RtOk K fz c O1 σ1 H1 d s' v H') : RtOk K fz c O σ H d s' v H' where
  fr := Ex.trans a r.fr
  th := r.th
  val := r.val
  fresh := fun h => by
    obtain ⟨p, vs, ds, h1, h2, h3, h4⟩ := r.fresh h
    refine ⟨p, vs, ds, h1, h2, ?_, h4⟩
    cases e : hide (Own O σ) H p with
    | none => rfl
    | some u => rw [a p u e] at h3; cases h3
/-- what stands of an exception: its class, its dict -/
structure RX (K : PySem.W.Frag) (H : Hp) (cls : Value) (d : Option Addr) (x : Exn) : Prop where
  cl : cls = .ref (He.ga K x.cls)
  fs : (x.fs = [] ∧ d = none) ∨ ∃ (dd : Addr) (vs : List (Str × V)), d = some dd ∧ H dd = some (.xd vs) ∧ ∀ (f : Str) (y : D), x.fs.lookup f = some y → ∃ v, vs.lookup f = some v ∧ Rp K H v y
theorem rx_ex {K : PySem.W.Frag} {H H' : Hp} {cls : Value} {d : Option Addr} {x : Exn} (e : Ex H H') (h : RX K H cls d x) : RX K H' cls d x where
  cl := h.cl
  fs := h.fs.imp id fun ⟨dd, vs, h1, h2, h3⟩ => ⟨dd, vs, h1, e _ _ h2, fun f y hy => let ⟨v, k1, k2⟩ := h3 f y hy; ⟨v, k1, dp_ex e k2⟩⟩
/-- the ways out of a statement that lets no exception out -/
structure Ways0 (K : PySem.W.Frag) (fz : Bool) (c : Cn) (O O' Ol : List Nat) (σ : L2.St) (H : Hp) (o : Out) (E : Ends) : Prop where
  nx : ∀ s' σ' H', o = .nx s' → R K c O' s' σ' H' → Fr O σ H O' σ' H' → E.nx σ' H'
  bk : ∀ s' σ' H', o = .bk s' → R K c Ol s' σ' H' → Fr O σ H Ol σ' H' → E.bk σ' H'
  ct : ∀ s' σ' H', o = .ct s' → R K c Ol s' σ' H' → Fr O σ H Ol σ' H' → E.ct σ' H'
  rt : ∀ d s' v H', o = .rt d s' → RtOk K fz c O σ H d s' v H' → E.rt v H'
/-- .. and of one that may: W what is wanted of it -/
structure Ways (K : PySem.W.Frag) (fz : Bool) (c : Cn) (O O' Ol Ox : List Nat) (σ : L2.St) (H : Hp) (o : Out) (E : Ends) (W : WX) : Prop where
  nx : ∀ s' σ' H', o = .nx s' → R K c O' s' σ' H' → Fr O σ H O' σ' H' → E.nx σ' H'
  bk : ∀ s' σ' H', o = .bk s' → R K c Ol s' σ' H' → Fr O σ H Ol σ' H' → E.bk σ' H'
  ct : ∀ s' σ' H', o = .ct s' → R K c Ol s' σ' H' → Fr O σ H Ol σ' H' → E.ct σ' H'
  rt : ∀ d s' v H', o = .rt d s' → RtOk K fz c O σ H d s' v H' → E.rt v H'
  ex : ∀ x s' σ' H' cls d, o = .ex x s' → R K c Ox s' σ' H' → Fr O σ H Ox σ' H' → RX K (hide (c.msk Ox σ') H') cls d x → W cls d σ' H'
theorem Ways.w0 {K : PySem.W.Frag} {fz : Bool} {c : Cn} {O O' Ol Ox : List Nat} {σ : L2.St} {H : Hp} {o : Out} {E : Ends} {W : WX} (w : Ways K fz c O O' Ol Ox σ H o E W) : Ways0 K fz c O O' Ol σ H o E := ⟨w.nx, w.bk, w.ct, w.rt⟩
def SimS0 (K : PySem.W.Frag) (Th : List Nat) (fz : Bool) (O O' Ol : List Nat) (t : TS) (m : MM) : Prop := ∀ (c : Cn), c.Th = Th → ∀ (σ : L2.St) (H : Hp) (s : MS), R K c O s σ H → ∀ o, m s = some o → ∀ E : Ends, Ways0 K fz c O O' Ol σ H o E → t E σ H
def SimS (K : PySem.W.Frag) (Th : List Nat) (fz : Bool) (O O' Ol Ox : List Nat) (t : WX → TS) (m : MM) : Prop := ∀ (c : Cn), c.Th = Th → ∀ (σ : L2.St) (H : Hp) (s : MS), R K c O s σ H → ∀ o, m s = some o → ∀ (E : Ends) (W : WX), Ways K fz c O O' Ol Ox σ H o E W → t W E σ H
/-- a context from which exceptions may go out -/
structure InX (Γ : G) (X : Cx) : Prop where
  g : InG Γ X.nox
  po : PassesOwn (model X.prog X.w) X.A X.env X.xe
  st : X.stack = X.env :: X.outer
  fr : X.env.frame = some X.env.locals
section
variable (Γ : G) (Th : List Nat) (fz : Bool) (O O' Ol : List Nat)
def TrS0 (st : Stmt) (m : MM) : Prop := ∃ t, (∀ X, InG Γ X → PS X st t) ∧ SimS0 Γ.K Th fz O O' Ol t m
def TrS (st : Stmt) (m : MM) : Prop := ∃ t : WX → TS, (∀ X W, InX Γ X → Takes X W → PS X st (t W)) ∧ SimS Γ.K Th fz O O' Ol Γ.ox t m
def TrSs (sts : List Stmt) (m : MM) : Prop := ∃ t : WX → TS, (∀ X W, InX Γ X → Takes X W → PSs X sts (t W)) ∧ SimS Γ.K Th fz O O' Ol Γ.ox t m
end
theorem ps_nox {X : Cx} {st : Stmt} {t : TS} (h : PS X.nox st t) : PS X st t := ⟨fun pins s σ H D I hw =>
  wpAny_mono (h.run pins s σ H D (I.wish _) hw) (fun _ _ q => q.unwish) fun _ _ z => False.elim z⟩
theorem TrS0.up {Γ : G} {Th : List Nat} {fz : Bool} {O O' Ol : List Nat} {st : Stmt} {m : MM} (h : TrS0 Γ Th fz O O' Ol st m) : TrS Γ Th fz O O' Ol st m := by
  obtain ⟨t, p, q⟩ := h
  exact ⟨fun _ => t, fun X W h _ => ps_nox (p _ h.g), fun c hc σ H s r o e E W w => q c hc σ H s r o e E w.w0⟩
def mSkip : MM := fun s => some (.nx s)
def mSeq (a b : MM) : MM := fun s => (a s).bind fun o => match o with
  | .nx s' => b s'
  | o => some o
def mSet (i : Nat) (a : ME) : MM := fun s => (a s).map fun p => .nx (p.2.set i (some p.1))
def mSetF (i : Nat) (a : MF) : MM := fun s => (a s).bind fun p => if i < p.2.length then some (.nx (p.2.set i (some (.list p.1)))) else none
def mAsg (a : ME) (b : D → MS → Option MS) : MM := fun s => (a s).bind fun p => (b p.1 p.2).map .nx
def mPar (i j : Nat) (a : MF) : MM := fun s => (a s).bind fun p => match p.1 with
  | [x, y] => some (.nx ((p.2.set i (some x)).set j (some y)))
  | _ => none
def mIf (c : MT) (a b : MM) : MM := fun s => (c s).bind fun p => if p.1 = true then a p.2 else b p.2
def mRet (a : ME) : MM := fun s => (a s).map fun p => .rt p.1 p.2
def mRetF (a : MF) : MM := fun s => (a s).map fun p => .rt (.list p.1) p.2
def mRetN : MM := fun s => some (.rt .none s)
def mDrop (a : ME) : MM := fun s => (a s).map fun p => .nx p.2
def mBrk : MM := fun s => some (.bk s)
def mCt : MM := fun s => some (.ct s)
def mForget (vs : List Nat) (a : MM) : MM := fun s => (a s).map fun o => match o with
  | .nx s' => .nx (wipeM s' vs)
  | o => o
def forL (b : D → MS → Option MS) (m : MM) : List D → MS → Option Out
  | [], s => some (.nx s)
  | d :: ds, s => (b d s).bind fun s1 => (m s1).bind fun o => match o with
    | .nx s2 => forL b m ds s2
    | .ct s2 => forL b m ds s2
    | .bk s2 => some (.nx s2)
    | .rt d s2 => some (.rt d s2)
    | .ex x s2 => some (.ex x s2)
def mFor (src : MF) (b : D → MS → Option MS) (m : MM) : MM := fun s => (src s).bind fun p => forL b m p.1 p.2
section
variable {Γ : G} {Th : List Nat} {fz : Bool} {O O1 O' Ol L L0 W : List Nat} {st : Stmt} {sts : List Stmt} {e a : Expr} {m m1 m2 : MM} {me ma : ME} {mf ms : MF} {mt : MT} {pos : Pos}
theorem mapNx_of {α β : Type} {f : α → β} {x : Option α} {o : β} (h : x.map f = some o) : ∃ p, x = some p ∧ o = f p := by
  cases x with
  | none => cases h
  | some p => cases h; exact ⟨p, rfl, rfl⟩
theorem bind_of {α β : Type} {f : α → Option β} {x : Option α} {o : β} (h : x.bind f = some o) : ∃ p, x = some p ∧ f p = some o := by
  cases x with
  | none => cases h
  | some p => exact ⟨p, rfl, h⟩
/-- an effect of an expression, seen from the frame -/
theorem Fr.of_ex {σ : L2.St} {H H' : Hp} (hW : ∀ j ∈ W, j ∈ O) (x : Ex (hide (Own W σ) H) (hide (Own W σ) H')) : Fr O σ H O σ H' := ex_wide (own_sub hW) x

theorem sss_nil : TrSs Γ Th fz O O Ol [] mSkip := ⟨fun _ => tNext, fun _ _ _ _ => pss_nil, fun c hc σ H s r o e E W w => by cases e; exact w.nx s σ H rfl r (Fr.refl _ _ _)⟩
theorem sim_seq {K : PySem.W.Frag} {Ox : List Nat} {t u : WX → TS} (h1 : SimS K Th fz O O1 Ol Ox t m1) (h2 : SimS K Th fz O1 O' Ol Ox u m2) : SimS K Th fz O O' Ol Ox (fun W => tSeq (t W) (u W)) (mSeq m1 m2) := fun c hc σ H s r o e E W w => by
  unfold mSeq at e
  obtain ⟨o1, e1, e2⟩ := bind_of e
  refine h1 c hc σ H s r o1 e1 _ W ⟨fun s' σ' H' eo r' f => ?_, fun s' σ' H' eo r' f => ?_, fun s' σ' H' eo r' f => ?_, fun d s' v H' eo rt => ?_, fun x s' σ' H' cls d eo r' f rx => ?_⟩
  · subst eo
    exact h2 c hc σ' H' s' r' o e2 E W ⟨fun s2 σ2 H2 eo r2 f2 => w.nx s2 σ2 H2 eo r2 (f.trans f2), fun s2 σ2 H2 eo r2 f2 => w.bk s2 σ2 H2 eo r2 (f.trans f2), fun s2 σ2 H2 eo r2 f2 => w.ct s2 σ2 H2 eo r2 (f.trans f2), fun d s2 v H2 eo rt => w.rt d s2 v H2 eo (rt.ahead f), fun x s2 σ2 H2 cls d eo r2 f2 rx => w.ex x s2 σ2 H2 cls d eo r2 (f.trans f2) rx⟩
  · subst eo
    cases e2
    exact w.bk s' σ' H' rfl r' f
  · subst eo
    cases e2
    exact w.ct s' σ' H' rfl r' f
  · subst eo
    cases e2
    exact w.rt d s' v H' rfl rt
  · subst eo
    cases e2
    exact w.ex x s' σ' H' cls d rfl r' f rx
theorem sss_cons (h1 : TrS Γ Th fz O O1 Ol st m1) (h2 : TrSs Γ Th fz O1 O' Ol sts m2) : TrSs Γ Th fz O O' Ol (st :: sts) (mSeq m1 m2) := by
  obtain ⟨t, p, q⟩ := h1
  obtain ⟨u, p2, q2⟩ := h2
  exact ⟨fun W => tSeq (t W) (u W), fun X W h k => pss_cons (p X W h k) (p2 X W h k), sim_seq q q2⟩
theorem sss_one (h1 : TrS Γ Th fz O O' Ol st m1) : TrSs Γ Th fz O O' Ol [st] m1 := by
  obtain ⟨t, p, q⟩ := h1
  exact ⟨t, fun X W h k => pss_one (p X W h k), q⟩
theorem wipeR2 {K : PySem.W.Frag} {c : Cn} {s : MS} {σ : L2.St} {H : Hp} (r : R K c O s σ H) : ∀ vs : List Nat, (∀ j ∈ vs, j ∉ O) → R K c O (wipeM s vs) σ H
  | [], _ => r
  | v :: vs, h => by
    unfold wipeM
    exact (wipeR2 r vs fun j hj => h j (List.mem_cons_of_mem _ hj)).forget (h v List.mem_cons_self)
theorem sim_forget {K : PySem.W.Frag} {Ox : List Nat} {t : WX → TS} (vs : List Nat) (h : SimS K Th fz O O' Ol Ox t m) (hv : ∀ j ∈ vs, j ∉ O') : SimS K Th fz O O' Ol Ox t (mForget vs m) := fun c hc σ H s r o e E W w => by
  unfold mForget at e
  obtain ⟨o1, e1, rfl⟩ := mapNx_of e
  refine h c hc σ H s r o1 e1 E W ⟨fun s' σ' H' eo r' f => ?_, fun s' σ' H' eo r' f => ?_, fun s' σ' H' eo r' f => ?_, fun d s' v H' eo rt => ?_, fun x s' σ' H' cls d eo r' f rx => ?_⟩
  · subst eo
    exact w.nx _ σ' H' rfl (wipeR2 r' vs hv) f
  · subst eo; exact w.bk s' σ' H' rfl r' f
  · subst eo; exact w.ct s' σ' H' rfl r' f
  · subst eo; exact w.rt d s' v H' rfl rt
  · subst eo; exact w.ex x s' σ' H' cls d rfl r' f rx
theorem sss_forget (vs : List Nat) (h : TrSs Γ Th fz O O' Ol sts m) (hv : ∀ j ∈ vs, j ∉ O') : TrSs Γ Th fz O O' Ol sts (mForget vs m) := by
  obtain ⟨t, p, q⟩ := h
  exact ⟨t, p, sim_forget vs q hv⟩
theorem Ways.after {K : PySem.W.Frag} {Ox : List Nat} {c : Cn} {σ σ1 : L2.St} {H H1 : Hp} {o : Out} {E : Ends} {W : WX} (f : Fr O σ H O1 σ1 H1) (w : Ways K fz c O O' Ol Ox σ H o E W) : Ways K fz c O1 O' Ol Ox σ1 H1 o E W :=
  ⟨fun s2 σ2 H2 eo r2 f2 => w.nx s2 σ2 H2 eo r2 (f.trans f2), fun s2 σ2 H2 eo r2 f2 => w.bk s2 σ2 H2 eo r2 (f.trans f2), fun s2 σ2 H2 eo r2 f2 => w.ct s2 σ2 H2 eo r2 (f.trans f2), fun d s2 v H2 eo rt => w.rt d s2 v H2 eo (rt.ahead f), fun x s2 σ2 H2 cls d eo r2 f2 rx => w.ex x s2 σ2 H2 cls d eo r2 (f.trans f2) rx⟩
/-- slots are let go -/
theorem sss_free (h : TrSs Γ Th fz L O' Ol sts m) (hL : ∀ j ∈ L, j ∈ O) (hT : ∀ j ∈ Th, j ∈ L) : TrSs Γ Th fz O O' Ol sts m := by
  obtain ⟨t, p, q⟩ := h
  refine ⟨t, p, fun c hc σ H s r o e E W w => ?_⟩
  obtain ⟨r1, x1⟩ := r.free hL (by rw [hc]; exact hT)
  exact q c hc σ H s r1 o e E W (w.after x1)
theorem sss_out (h : TrSs Γ Th fz O O1 Ol sts m) (hL : ∀ j ∈ O', j ∈ O1) (hT : ∀ j ∈ Th, j ∈ O') : TrSs Γ Th fz O O' Ol sts m := by
  obtain ⟨t, p, q⟩ := h
  refine ⟨t, p, fun c hc σ H s r o e E W w => q c hc σ H s r o e E W ⟨fun s2 σ2 H2 eo r2 f2 => ?_, w.bk, w.ct, w.rt, w.ex⟩⟩
  obtain ⟨r1, x1⟩ := r2.free hL (by rw [hc]; exact hT)
  exact w.nx s2 σ2 H2 eo r1 (Fr.trans f2 x1)

/-! ### stores -/
theorem setR {K : PySem.W.Frag} {c : Cn} {s : MS} {σ : L2.St} {H : Hp} {i : Nat} {v : V} {d : D} (r : R K c O s σ H) (hd : Rp K (hide (c.msk O σ) H) v d) (ht : i ∉ c.Th) (hO : ∀ j ∈ O', j ∈ O.filter (· ≠ i)) (hT : ∀ j ∈ c.Th, j ∈ O') :
    R K c O' (s.set i (some d)) (σ.set i (some v)) H ∧ Fr O σ H O' (σ.set i (some v)) H := by
  by_cases hl : i < σ.length
  · obtain ⟨r1, x1⟩ := r.set hd ht hl
    obtain ⟨r2, x2⟩ := r1.free hO hT
    exact ⟨r2, x1.trans x2⟩
  · have e1 : s.set i (some d) = s := List.set_eq_of_length_le (by rw [r.len]; omega)
    have e2 : σ.set i (some v) = σ := List.set_eq_of_length_le (by omega)
    rw [e1, e2]
    exact r.free (fun j hj => (List.mem_filter.mp (hO j hj)).1) hT
theorem ss_set {i : Nat} {x : Str} {p2 : Pos} (hN : Γ.N[i]? = some x) (hv : locB Γ x = true) (he : TrE Γ O O W e me) (ht : i ∉ Th) (hO : ∀ j ∈ O', j ∈ O.filter (· ≠ i)) (hT : ∀ j ∈ Th, j ∈ O') (hW : ∀ j ∈ W, j ∈ O) (hs : ∀ env : Env, swapsWith e (some (.Name x p2)) pos.line env = pure false := by intro _; rfl) :
    TrS Γ Th fz O O' Ol (.Assign [.Name x p2] e pos) (mSet i me) := TrS0.up <| by
  obtain ⟨t, p, q⟩ := he
  refine ⟨tAsg t (gName i), fun X h => ps_set h.ndX (h.nx hN) (h.loc hv).1 (p X h) (hs X.env) (h.loc hv).2, fun c hc σ H s r o e E w => ?_⟩
  unfold mSet at e
  obtain ⟨pr, e1, rfl⟩ := mapNx_of e
  refine q c σ H s r _ _ e1 _ fun v H1 r1 x1 d1 => ?_
  obtain ⟨r2, x2⟩ := setR r1 d1 (by rw [hc]; exact ht) hO (by rw [hc]; exact hT)
  exact w.nx _ _ H1 rfl r2 ((Fr.of_ex hW x1).trans x2)
theorem setOwnR {K : PySem.W.Frag} {c : Cn} {s : MS} {σ : L2.St} {H' : Hp} {i : Nat} {p : Addr} {vs : List V} {ds : List D} (r : R K c O s σ (hide (· = p) H')) (hp : H' p = some (.lst vs)) (hd : RpAll K (hide (c.msk O σ) (hide (· = p) H')) vs ds) (ht : i ∉ c.Th) (hi : i < σ.length) (hO : ∀ j ∈ O', j ∈ i :: O.filter (· ≠ i)) (hT : ∀ j ∈ c.Th, j ∈ O') :
    R K c O' (s.set i (some (.list ds))) (σ.set i (some (.ref p))) H' ∧ Fr O σ (hide (· = p) H') O' (σ.set i (some (.ref p))) H' := by
  obtain ⟨r1, x1⟩ := r.setOwn hp hd ht hi
  obtain ⟨r2, x2⟩ := r1.free hO hT
  exact ⟨r2, x1.trans x2⟩
/-- a frame of that scope -/
def envS (sc : Scope) : Env := { scope := sc, locals := 0, globals := 0, cells := [], qual := "", func := none, code := .none, frame := none, builtins := 0 }
theorem swaps_sc {env env' : Env} {v : Expr} {o : Option Expr} {l : Nat} (h : env.scope = env'.scope) : swapsWith v o l env = swapsWith v o l env' := by
  unfold swapsWith Env.blockKind Env.kindOf
  rw [h]
theorem swapped_sc {env env' : Env} {ts : List Expr} {v : Expr} (h : env.scope = env'.scope) : swappedStores ts v env = swappedStores ts v env' := by
  unfold swappedStores Env.blockKind Env.kindOf
  rw [h]
theorem simF_set {K : PySem.W.Frag} {t : TE} {i : Nat} (q : SimF K O O W t mf) (ht : i ∉ Th) (hO : ∀ j ∈ O', j ∈ i :: O.filter (· ≠ i)) (hT : ∀ j ∈ Th, j ∈ O') (hW : ∀ j ∈ W, j ∈ O) : SimS0 K Th fz O O' Ol (tAsg t (gName i)) (mSetF i mf) := fun c hc σ H s r o e E w => by
  unfold mSetF at e
  obtain ⟨pr, e1, e2⟩ := bind_of e
  split at e2
  · rename_i hl
    cases e2
    refine q c σ H s r _ _ e1 _ fun p vs H1 hp r1 x1 h1 d1 => ?_
    obtain ⟨r2, x2⟩ := setOwnR r1 h1 d1 (by rw [hc]; exact ht) (by rw [← r1.len]; exact hl) hO (by rw [hc]; exact hT)
    exact w.nx _ _ H1 rfl r2 ((Fr.of_ex hW x1).trans x2)
  · cases e2
/-- a slot takes a new list, and owns it -/
theorem ss_setF {i : Nat} {x : Str} {p2 : Pos} (hN : Γ.N[i]? = some x) (hv : locB Γ x = true) (he : TrF Γ O O W e mf) (ht : i ∉ Th) (hO : ∀ j ∈ O', j ∈ i :: O.filter (· ≠ i)) (hT : ∀ j ∈ Th, j ∈ O') (hW : ∀ j ∈ W, j ∈ O) (hs : swapsWith e (some (.Name x p2)) pos.line (envS Γ.sc) = pure false := by rfl) :
    TrS Γ Th fz O O' Ol (.Assign [.Name x p2] e pos) (mSetF i mf) := TrS0.up <| by
  obtain ⟨t, p, q⟩ := he
  exact ⟨tAsg t (gName i), fun X h => ps_set h.ndX (h.nx hN) (h.loc hv).1 (p X h) ((swaps_sc (h.sc.trans rfl)).trans hs) (h.loc hv).2, simF_set q ht hO hT hW⟩
/-- .. and keeps it unowned -/
theorem ss_setFu {i : Nat} {x : Str} {p2 : Pos} (hN : Γ.N[i]? = some x) (hv : locB Γ x = true) (he : TrF Γ O O W e mf) (ht : i ∉ Th) (hO : ∀ j ∈ O', j ∈ O.filter (· ≠ i)) (hT : ∀ j ∈ Th, j ∈ O') (hW : ∀ j ∈ W, j ∈ O) (hs : swapsWith e (some (.Name x p2)) pos.line (envS Γ.sc) = pure false := by rfl) :
    TrS Γ Th fz O O' Ol (.Assign [.Name x p2] e pos) (mSet i (xLst mf)) := TrS0.up <| by
  obtain ⟨t, p, q⟩ := tr_F (fun _ z => z) he
  refine ⟨tAsg t (gName i), fun X h => ps_set h.ndX (h.nx hN) (h.loc hv).1 (p X h) ((swaps_sc (h.sc.trans rfl)).trans hs) (h.loc hv).2, fun c hc σ H s r o e E w => ?_⟩
  unfold mSet at e
  obtain ⟨pr, e1, rfl⟩ := mapNx_of e
  refine q c σ H s r _ _ e1 _ fun v H1 r1 x1 d1 => ?_
  obtain ⟨r2, x2⟩ := setR r1 d1 (by rw [hc]; exact ht) hO (by rw [hc]; exact hT)
  exact w.nx _ _ H1 rfl r2 ((Fr.of_ex hW x1).trans x2)
section
variable {vs : List Nat} {elt tg iter : Expr} {ifs : List Expr} {scope : Scope} {msrc : MF} {b : D → MS → Option MS}
/-- y = [..] on one line, y a local: the comprehension itself, for ps_setLc -/
theorem setLc_t {i : Nat} {y : Str} {py lpos : Pos} (own : List (Str × Nat)) (hN : Γ.N[i]? = some y) (hyl : Γ.sc.names.lookup y = some .local) (hsw : swapsWith (.ListComp elt [⟨tg, iter, ifs, 0⟩] scope lpos) (some (.Name y py)) pos.line (envS Γ.sc) = pure true)
    (hi : TrI Γ O W tg iter msrc) (ok : blkC Γ.N Γ.sc scope own = true) (hg : TrG (Γ.blk scope) O (own.map (·.2)) tg b) (ht : TrTs (Γ.blk scope) O W ifs mt) (he : TrE (Γ.blk scope) O O W elt me)
    (hv : ∀ j ∈ O, j ∉ own.map (·.2)) (hW : ∀ j ∈ W, j ∈ O) (hs : ∀ (env : Env) x, foldedSetIterable iter env x = pure x := by intro _ _; rfl) (hcm : Γ.calm = true := by rfl) :
    ∃ t : TE, (∀ X, InG Γ X → PS X (.Assign [.Name y py] (.ListComp elt [⟨tg, iter, ifs, 0⟩] scope lpos) pos) (tAsg t (gName i))) ∧ SimF Γ.K O O W t (xLc msrc (own.map (·.2)) b mt me) := by
  obtain ⟨wi, pi, si⟩ := hi
  obtain ⟨g, pg, sg⟩ := hg
  obtain ⟨t, pt, st⟩ := ht
  obtain ⟨te, pe, se⟩ := he
  exact ⟨tLc wi g t te (own.map (·.2)), fun X h => ps_setLc (h.cm hcm) h.ndX (h.nx hN) (by rw [h.sc]; exact hyl) ((swaps_sc (h.sc.trans rfl)).trans hsw) (pi X h) (by rw [h.N, h.sc]; exact blkOk_by ok) (fun s H C cl fp => pg _ (h.blk scope s H C cl fp)) (fun s H C cl fp => pt _ (h.blk scope s H C cl fp)) (fun s H C cl fp => pe _ (h.blk scope s H C cl fp)) (hs X.env), sim_lc si sg st se hv hW (fun _ z => z)⟩
theorem ss_lc {i : Nat} {y : Str} {py lpos : Pos} (h : ∃ t : TE, (∀ X, InG Γ X → PS X (.Assign [.Name y py] (.ListComp elt [⟨tg, iter, ifs, 0⟩] scope lpos) pos) (tAsg t (gName i))) ∧ SimF Γ.K O O W t mf) (ht : i ∉ Th) (hO : ∀ j ∈ O', j ∈ i :: O.filter (· ≠ i)) (hT : ∀ j ∈ Th, j ∈ O') (hW : ∀ j ∈ W, j ∈ O) :
    TrS Γ Th fz O O' Ol (.Assign [.Name y py] (.ListComp elt [⟨tg, iter, ifs, 0⟩] scope lpos) pos) (mSetF i mf) := TrS0.up <| by
  obtain ⟨t, p, q⟩ := h
  exact ⟨tAsg t (gName i), p, simF_set q ht hO hT hW⟩
theorem ss_lcu {i : Nat} {y : Str} {py lpos : Pos} (h : ∃ t : TE, (∀ X, InG Γ X → PS X (.Assign [.Name y py] (.ListComp elt [⟨tg, iter, ifs, 0⟩] scope lpos) pos) (tAsg t (gName i))) ∧ SimF Γ.K O O W t mf) (ht : i ∉ Th) (hO : ∀ j ∈ O', j ∈ O.filter (· ≠ i)) (hT : ∀ j ∈ Th, j ∈ O') (hW : ∀ j ∈ W, j ∈ O) :
    TrS Γ Th fz O O' Ol (.Assign [.Name y py] (.ListComp elt [⟨tg, iter, ifs, 0⟩] scope lpos) pos) (mSet i (xLst mf)) := TrS0.up <| by
  obtain ⟨t, p, q⟩ := h
  refine ⟨tAsg t (gName i), p, fun c hc σ H s r o e E w => ?_⟩
  unfold mSet at e
  obtain ⟨pr, e1, rfl⟩ := mapNx_of e
  refine q.toE (fun _ z => z) c σ H s r _ _ e1 _ fun v H1 r1 x1 d1 => ?_
  obtain ⟨r2, x2⟩ := setR r1 d1 (by rw [hc]; exact ht) hO (by rw [hc]; exact hT)
  exact w.nx _ _ H1 rfl r2 ((Fr.of_ex hW x1).trans x2)
end
/-- a tuple parted, or any target that is not owned -/
theorem ss_asg {tg : Expr} {vs : List Nat} {b : D → MS → Option MS} (he : TrE Γ O O W e me) (hg : TrG Γ O vs tg b) (hv : ∀ j ∈ O, j ∉ vs) (hW : ∀ j ∈ W, j ∈ O) (hs : swapsWithSole [tg] e pos.line (envS Γ.sc) = pure false := by rfl) (hw : swappedStores [tg] e (envS Γ.sc) = pure none := by rfl)
    (h1 : ∀ env : Env, (assignEach [tg] env).map (·.2) = [assign tg env] := by intro _; rfl) : TrS Γ Th fz O O Ol (.Assign [tg] e pos) (mAsg me b) := TrS0.up <| by
  obtain ⟨t, p, q⟩ := he
  obtain ⟨g, pg, sg⟩ := hg
  refine ⟨tAsg t g, fun X h => ps_asg (p X h) (pg X h) ((swaps_sc (h.sc.trans rfl)).trans hs) ((swapped_sc (h.sc.trans rfl)).trans hw) (h1 X.env), fun c hc σ H s r o e E w => ?_⟩
  unfold mAsg at e
  obtain ⟨pr, e1, e2⟩ := bind_of e
  obtain ⟨s2, e3, rfl⟩ := mapNx_of e2
  refine q c σ H s r _ _ e1 _ fun v H1 r1 x1 d1 => ?_
  refine sg c σ H1 _ v _ r1 d1 s2 e3 _ fun σ2 r2 o2 => ?_
  refine w.nx _ _ H1 rfl r2 ((Fr.of_ex hW x1).trans ?_)
  unfold Fr
  rw [o2.own hv]
  exact Ex.refl _
/-- a, b = x, y: two locals at once -/
theorem ss_par {i j : Nat} {x y : Str} {a b : Expr} {px py pt : Pos} {kt k2 : Nat} {pt2 : Pos} (hN : Γ.N[i]? = some x) (hN2 : Γ.N[j]? = some y) (hij : i ≠ j) (hx : Γ.sc.names.lookup x = some .local) (hy : Γ.sc.names.lookup y = some .local) (ha : TrA Γ O O W [a, b] mf)
    (ht : i ∉ Th) (ht2 : j ∉ Th) (hO : ∀ k ∈ O', k ∈ (O.filter (· ≠ i)).filter (· ≠ j)) (hT : ∀ k ∈ Th, k ∈ O') (hW : ∀ j ∈ W, j ∈ O)
    (hw : swappedStores [.Tuple [.Name x px, .Name y py] kt pt] (.Tuple [a, b] k2 pt2) (envS Γ.sc) = pure (some [x, y]) := by rfl) (hcm : Γ.calm = true := by rfl) : TrS Γ Th fz O O' Ol (.Assign [.Tuple [.Name x px, .Name y py] kt pt] (.Tuple [a, b] k2 pt2) pos) (mPar i j mf) := TrS0.up <| by
  obtain ⟨t, p, q⟩ := ha
  refine ⟨tPar i j t, fun X h => ps_par (h.cm hcm) h.ndX (h.nx hN) (h.nx hN2) hij (by rw [h.sc]; exact hx) (by rw [h.sc]; exact hy) (p X h) ((swapped_sc (h.sc.trans rfl)).trans hw), fun c hc σ H s r o e E w => ?_⟩
  unfold mPar at e
  obtain ⟨pr, e1, e2⟩ := bind_of e
  split at e2
  · rename_i d1 d2 ed
    cases e2
    refine q c σ H s r _ _ e1 _ fun vs H1 r1 x1 dd => ?_
    rw [ed] at dd
    cases dd with
    | cons h1 dd =>
      cases dd with
      | cons h2 dd =>
        cases dd
        have hT1 : ∀ k ∈ c.Th, k ∈ O.filter (· ≠ i) := fun k hk => (List.mem_filter.mp (hO k (hT k (by rw [← hc]; exact hk)))).1
        obtain ⟨r2, x2⟩ := setR (O' := O.filter (· ≠ i)) r1 h1 (by rw [hc]; exact ht) (fun _ z => z) hT1
        obtain ⟨r3, x3⟩ := setR (O' := O') r2 (dp_ex (fun a u z => by
          obtain ⟨n, z⟩ := of_hide z
          exact hide_of (fun y => y.elim (fun y => n (.inl y)) fun y => (of_hide (x2 a u (hide_of (fun k => n (.inr k)) z))).1 y) z) h2) (by rw [hc]; exact ht2) hO (by rw [hc]; exact hT)
        exact ⟨_, _, rfl, w.nx _ _ H1 rfl r3 (((Fr.of_ex hW x1).trans x2).trans x3)⟩
  · cases e2
end
end Z


namespace Z
open PySem PySem.Spec PyProof.Rows L2
section
variable {Γ : G} {Th : List Nat} {fz : Bool} {O O1 O' Ol L L0 W : List Nat} {st : Stmt} {sts sts2 : List Stmt} {e a : Expr} {m m1 m2 : MM} {me ma : ME} {mf ms : MF} {mt : MT} {pos : Pos}

/-! ### if, pass, break, continue, dropped values -/
theorem pg_nox {X : Cx} {tg : Expr} {g : TG} (h : PG X.nox tg g) : PG X tg g := ⟨fun pins s σ H v u Q I r hw =>
  wpAny_mono (h.run pins s σ H v u Q (I.wish _) r hw) (fun _ _ ⟨σ', H', I', q⟩ => ⟨σ', H', I'.unwish, q⟩) fun _ _ z => False.elim z⟩
theorem pi_nox {X : Cx} {tg it : Expr} {wi : TI} (h : PI X.nox tg it wi) : PI X tg it wi := ⟨fun pins s σ H R I hw =>
  wpAny_mono (h.run pins s σ H R (I.wish _) hw) (fun _ _ q => wpAny_mono q (fun _ _ ⟨a, fp, tn, J, H', e, I', T, k, f, r⟩ => ⟨a, fp, tn, J, H', e, I'.unwish, T, k, f, r⟩) fun _ _ z => False.elim z) fun _ _ z => False.elim z⟩
theorem ss_if (hc : TrT Γ O W e mt) (ha : TrSs Γ Th fz O O' Ol sts m1) (hb : TrSs Γ Th fz O O' Ol sts2 m2) (hW : ∀ j ∈ W, j ∈ O) : TrS Γ Th fz O O' Ol (.If e sts sts2 pos) (mIf mt m1 m2) := by
  obtain ⟨t, p, q⟩ := hc
  obtain ⟨u, p2, q2⟩ := ha
  obtain ⟨v, p3, q3⟩ := hb
  refine ⟨fun W => tIfS t (u W) (v W), fun X W h k => ps_if (p _ h.g).nox (p2 X W h k) (p3 X W h k), fun c hc σ H s r o e E W w => ?_⟩
  unfold mIf at e
  obtain ⟨⟨k, s1⟩, e1, e2⟩ := bind_of e
  refine q c σ H s r _ _ e1 _ fun H1 r1 x1 => ?_
  cases k with
  | true =>
    rw [if_pos rfl] at e2 ⊢
    exact q2 c hc σ H1 s1 r1 o e2 E W (w.after (Fr.of_ex hW x1))
  | false =>
    rw [if_neg Bool.false_ne_true] at e2 ⊢
    exact q3 c hc σ H1 s1 r1 o e2 E W (w.after (Fr.of_ex hW x1))
theorem ss_pass : TrS Γ Th fz O O Ol (.Pass pos) mSkip := TrS0.up ⟨tNext, fun _ _ => ps_pass, fun c hc σ H s r o e E w => by cases e; exact w.nx s σ H rfl r (Fr.refl _ _ _)⟩
theorem ss_break (hL : ∀ j ∈ Ol, j ∈ O) (hT : ∀ j ∈ Th, j ∈ Ol) : TrS Γ Th fz O O' Ol (.Break pos) mBrk := TrS0.up ⟨tBreak, fun _ _ => ps_break, fun c hc σ H s r o e E w => by
  cases e
  obtain ⟨r1, x1⟩ := r.free hL (by rw [hc]; exact hT)
  exact w.bk s σ H rfl r1 x1⟩
theorem ss_continue (hL : ∀ j ∈ Ol, j ∈ O) (hT : ∀ j ∈ Th, j ∈ Ol) : TrS Γ Th fz O O' Ol (.Continue pos) mCt := TrS0.up ⟨tCont, fun _ _ => ps_continue, fun c hc σ H s r o e E w => by
  cases e
  obtain ⟨r1, x1⟩ := r.free hL (by rw [hc]; exact hT)
  exact w.ct s σ H rfl r1 x1⟩
theorem ss_expr (h : TrE Γ O L W e me) (hW : ∀ j ∈ W, j ∈ O) (hs : ∀ env : Env, swapsWith e none pos.line env = pure false := by intro _; rfl) : TrS Γ Th fz O O Ol (.Expr e pos) (mDrop me) := TrS0.up <| by
  obtain ⟨t, p, q⟩ := h
  refine ⟨tDrop t, fun X h => ps_expr (p X h) (hs X.env), fun c hc σ H s r o e E w => ?_⟩
  unfold mDrop at e
  obtain ⟨pr, e1, rfl⟩ := mapNx_of e
  exact q c σ H s r _ _ e1 _ fun v H1 r1 x1 d1 => w.nx _ σ H1 rfl r1 (Fr.of_ex hW x1)

/-! ### return -/
theorem th_ret {K : PySem.W.Frag} {c : Cn} {s : MS} {σ : L2.St} {H : Hp} (r : R K c O s σ H) : Own c.Th σ = c.T := by
  funext a
  refine propext ⟨fun ⟨i, hi, e⟩ => ⟨i, hi, by rw [← (r.th i hi).2]; exact e⟩, fun ⟨i, hi, e⟩ => ⟨i, hi, by rw [(r.th i hi).2]; exact e⟩⟩
theorem rt_th {K : PySem.W.Frag} {c : Cn} {s : MS} {σ : L2.St} {H : Hp} (r : R K c O s σ H) : ∀ i : Nat, i ∈ c.Th → ∃ (p : Addr) (vs : List V) (ds : List D), c.τ[i]? = some (some (.ref p)) ∧ s[i]? = some (some (.list ds)) ∧ H p = some (.lst vs) ∧ RpAll K (hide (fun a => c.C a ∨ c.T a) H) vs ds := fun i hi => by
  obtain ⟨h0, h1⟩ := r.th i hi
  obtain ⟨ds, k2⟩ := r.tl i hi
  obtain ⟨p, vs, k1, k3, k4, k5⟩ := r.owl h0 k2
  refine ⟨p, vs, ds, by rw [← h1]; exact k1, k2, k3, dpa_ex (ex_hide_sub fun a z => ?_) k4⟩
  rcases z with z | z
  · exact .inl z
  · rw [← th_ret r] at z
    exact .inr (own_sub (fun j hj => (r.th j hj).1) a z)
theorem rt_ex {K : PySem.W.Frag} {c : Cn} {s : MS} {σ : L2.St} {H H1 : Hp} (r : R K c O s σ H1) (hW : ∀ j ∈ W, j ∈ O) (x : Ex (hide (Own W σ) H) (hide (Own W σ) H1)) : Ex (hide (Own O σ) H) (hide c.T H1) := fun a u z => by
  have := ex_wide (own_sub hW) x a u z
  obtain ⟨n, z⟩ := of_hide this
  refine hide_of (fun y => ?_) z
  rw [← th_ret r] at y
  exact n (own_sub (fun j hj => (r.th j hj).1) a y)
theorem msk_th {K : PySem.W.Frag} {c : Cn} {s : MS} {σ : L2.St} {H : Hp} (r : R K c O s σ H) : c.msk c.Th σ = fun a => c.C a ∨ c.T a := by
  unfold Cn.msk
  rw [th_ret r]
theorem ss_ret (h : TrE Γ O Th W e me) (hW : ∀ j ∈ W, j ∈ O) : TrS Γ Th false O O' Ol (.Return (some e) pos) (mRet me) := TrS0.up <| by
  obtain ⟨t, p, q⟩ := h
  refine ⟨tRet t, fun X h => ps_ret (p X h), fun c hc σ H s r o e E w => ?_⟩
  unfold mRet at e
  obtain ⟨pr, e1, rfl⟩ := mapNx_of e
  refine q c σ H s r _ _ e1 _ fun v H1 r1 x1 d1 => w.rt _ _ v H1 rfl ⟨rt_ex r1 hW x1, rt_th r1, ?_, fun z => Bool.noConfusion z⟩
  rw [← hc, msk_th r1] at d1
  exact d1
theorem ss_retN : TrS Γ Th false O O' Ol (.Return none pos) mRetN := TrS0.up ⟨tRetN, fun _ _ => ps_retN, fun c hc σ H s r o e E w => by
  cases e
  exact w.rt _ _ .non H rfl ⟨rt_ex (W := []) r (fun _ z => nomatch z) (Ex.refl _), rt_th r, .non, fun z => Bool.noConfusion z⟩⟩
/-- a new list is returned -/
theorem ss_retF (h : TrF Γ O Th W e mf) (hW : ∀ j ∈ W, j ∈ O) : TrS Γ Th fz O O' Ol (.Return (some e) pos) (mRetF mf) := TrS0.up <| by
  obtain ⟨t, p, q⟩ := h
  refine ⟨tRet t, fun X h => ps_ret (p X h), fun c hc σ H s r o e E w => ?_⟩
  unfold mRetF at e
  obtain ⟨pr, e1, rfl⟩ := mapNx_of e
  refine q c σ H s r _ _ e1 _ fun p vs H1 hp r1 x1 h1 d1 => ?_
  have r2 := r1.ex ex_hide0
  have nt : ¬ c.T p := fun z => by
    rw [← th_ret r1] at z
    obtain ⟨i, hi, z⟩ := z
    obtain ⟨p', vs', _, k1, _, k3, _⟩ := r1.ow i (r1.th i hi).1
    rw [z] at k1
    cases k1
    exact (of_hide k3).1 rfl
  have nc : ¬ c.C p := fun z => by
    obtain ⟨u, k⟩ := r1.cs p z
    exact (of_hide k).1 rfl
  rw [← hc, msk_th r1] at d1
  refine w.rt _ _ _ H1 rfl ⟨rt_ex r2 hW (x1.trans (ex_hide ex_hide0)), rt_th r2, .lst (.inl (.inl (hide_of (fun z => z.elim nc nt) h1))) (dpa_ex (ex_hide ex_hide0) d1), fun _ => ⟨p, vs, _, rfl, rfl, ?_, nt, nc, h1, dpa_ex (fun a u z => ?_) d1⟩⟩
  · cases k : hide (Own O σ) H p with
    | none => rfl
    | some u => rw [(of_hide k).2] at hp; cases hp
  · obtain ⟨n, z⟩ := of_hide z
    obtain ⟨n2, z⟩ := of_hide z
    exact hide_of (fun y => y.elim n n2) z
/-- an owned list is returned -/
theorem ss_retO {i : Nat} {x : Str} {p2 : Pos} (hN : Γ.N[i]? = some x) (hv : visB Γ.sc x = true) (hi : i ∈ O) (ht : i ∉ Th) (hd : (x == ("__debug__" : Str)) = false := by decide) (hcd : (x == ("__classdict__" : Str)) = false := by decide) : TrS Γ Th fz O O' Ol (.Return (some (.Name x p2)) pos) (mRet (xLst (xOwn i))) := TrS0.up <| by
  refine ⟨tRet (tVar i), fun X h => ps_ret (pe_var (h.nx hN) (h.vis hv) hd hcd), fun c hc σ H s r o e E w => ?_⟩
  unfold mRet at e
  obtain ⟨pr, e1, rfl⟩ := mapNx_of e
  unfold xLst at e1
  obtain ⟨⟨ds, s1⟩, e2, rfl⟩ := mapNx_of e1
  obtain ⟨e3, rfl⟩ := xOwn_of e2
  obtain ⟨p, vs, h1, h3, h4, h5⟩ := r.owl hi e3
  have nt : ¬ c.T p := fun ⟨j, hj, z⟩ => by
    obtain ⟨k1, k2⟩ := r.th j hj
    rw [← k2] at z
    have := r.nd i j p hi k1 h1 z
    subst this
    rw [hc] at hj
    exact ht hj
  have sub : ∀ a, ((c.C a ∨ c.T a) ∨ a = p) → c.msk O σ a := fun a z => by
    rcases z with (z | z) | z
    · exact .inl z
    · rw [← th_ret r] at z
      exact .inr (own_sub (fun j hj => (r.th j hj).1) a z)
    · rw [z]; exact .inr ⟨i, hi, h1⟩
  refine ⟨.ref p, h1, w.rt _ _ (.ref p) H rfl ⟨rt_ex (W := []) r (fun _ z => nomatch z) (Ex.refl _), rt_th r, .lst (.inl (.inl (hide_of (fun z => z.elim h5 nt) h3))) (dpa_ex (ex_hide_sub fun a z => sub a (.inl z)) h4), fun _ => ⟨p, vs, _, rfl, rfl, hide_no ⟨i, hi, h1⟩, nt, h5, h3, dpa_ex (ex_hide_sub sub) h4⟩⟩⟩

/-! ### for -/
theorem ss_for {tg iter : Expr} {vs : List Nat} {b : D → MS → Option MS} (hi : TrI Γ O W tg iter ms) (hg : TrG Γ O vs tg b) (hb : TrSs Γ Th fz O O O sts m) (hv : ∀ j ∈ O, j ∉ vs) (hW : ∀ j ∈ W, j ∈ O) (hs : ∀ (env : Env) x, foldedSetIterable iter env x = pure x := by intro _ _; rfl) (hcm : Γ.calm = true := by rfl) :
    TrS Γ Th fz O O Ol (.For tg iter sts [] pos) (mFor ms b m) := by
  obtain ⟨wi, pi, si⟩ := hi
  obtain ⟨g, pg, sg⟩ := hg
  obtain ⟨t, pb, sb⟩ := hb
  refine ⟨fun W => tFor wi g (t W), fun X W h k => ps_for h.po (h.g.cm hcm) (pi_nox (pi _ h.g)) (pg_nox (pg _ h.g)) (pb X W h k) (hs X.env), fun c hc σ H s r o e E W w => ?_⟩
  unfold mFor at e
  obtain ⟨⟨xs, s1⟩, e1, e2⟩ := bind_of e
  refine si c σ H s r _ _ e1 _ fun J H1 r1 x1 it => ?_
  have f1 : Fr O σ H O σ H1 := Fr.of_ex hW x1
  let Pv : Nat → L2.St → Hp → Prop := fun i σ' H' => ∃ si : MS, R Γ.K c O si σ' H' ∧ Fr O σ H1 O σ' H' ∧ forL b m (xs.drop i) si = some o
  refine ⟨fun i k σ' H' => k = xs.length - i ∧ i ≤ xs.length ∧ Pv i σ' H', ⟨xs.length, by simp, Nat.zero_le _, s1, r1, Fr.refl _ _ _, e2⟩, ?_⟩
  rintro i k σ' H' ⟨rfl, hile, si, ri, fi, run⟩
  have exm : Ex (hide (c.msk O σ) H1) (hide (c.msk O σ') H') := fun a u z => by
    obtain ⟨n, z⟩ := of_hide z
    obtain ⟨n2, z2⟩ := of_hide (fi a u (hide_of (fun y => n (.inr y)) z))
    exact hide_of (fun y => y.elim (fun y => n (.inl y)) n2) z2
  obtain ⟨itgo, itstop⟩ := it i c σ' H' exm (msk_there ri fun _ z => z)
  by_cases hlt : i < xs.length
  · obtain ⟨d, hd⟩ : ∃ d, xs[i]? = some d := ⟨xs[i], List.getElem?_eq_getElem hlt⟩
    obtain ⟨go, yl⟩ := itgo d hd
    have edrop : xs.drop i = d :: xs.drop (i + 1) := by
      rw [List.drop_eq_getElem_cons hlt]
      rw [List.getElem?_eq_getElem hlt] at hd
      cases hd; rfl
    rw [edrop] at run
    unfold forL at run
    obtain ⟨s2, e3, run⟩ := bind_of run
    obtain ⟨ob, e4, run⟩ := bind_of run
    refine .inr ⟨go, Pv (i + 1), fun σ2 H2 p2 => ⟨xs.length - (i + 1), by omega, rfl, hlt, p2⟩, fun x H2 y => ?_⟩
    obtain ⟨ex2, dx⟩ := yl x H2 y
    refine sg c σ' H2 si x d (ri.ex ex2) dx s2 e3 _ fun σ2 r2 o2 => ?_
    have f2 : Fr O σ H1 O σ2 H2 := fi.trans (by unfold Fr; rw [o2.own hv]; exact ex_hide ex2)
    refine sb c hc σ2 H2 s2 r2 ob e4 _ W ⟨fun s3 σ3 H3 eo r3 f3 => ?_, fun s3 σ3 H3 eo r3 f3 => ?_, fun s3 σ3 H3 eo r3 f3 => ?_, fun d3 s3 v3 H3 eo rt => ?_, fun x3 s3 σ3 H3 cls d3 eo r3 f3 rx => ?_⟩
    · subst eo
      exact ⟨s3, r3, f2.trans f3, run⟩
    · subst eo
      cases run
      exact w.nx s3 σ3 H3 rfl r3 ((f1.trans f2).trans f3)
    · subst eo
      exact ⟨s3, r3, f2.trans f3, run⟩
    · subst eo
      cases run
      exact w.rt d3 s3 v3 H3 rfl (rt.ahead (f1.trans f2))
    · subst eo
      cases run
      exact w.ex x3 s3 σ3 H3 cls d3 rfl r3 ((f1.trans f2).trans f3) rx
  · have hie : i = xs.length := by omega
    rw [hie, List.drop_length] at run
    unfold forL at run
    cases run
    exact .inl ⟨itstop hie, w.nx si σ' H' rfl ri (f1.trans fi)⟩

/-! ### while, by fuel -/
def whileM (c : MT) (m : MM) : Nat → MS → Option Out
  | 0, _ => none
  | n + 1, s => (c s).bind fun p => if p.1 = true then (m p.2).bind fun o => match o with
      | .nx s2 => whileM c m n s2
      | .ct s2 => whileM c m n s2
      | .bk s2 => some (.nx s2)
      | .rt d s2 => some (.rt d s2)
      | .ex x s2 => some (.ex x s2) else some (.nx p.2)
theorem ss_while (n : Nat) (hc : TrT Γ O W e mt) (hb : TrSs Γ Th fz O O O sts m) (hW : ∀ j ∈ W, j ∈ O) : TrS Γ Th fz O O Ol (.While e sts [] pos) (whileM mt m n) := by
  obtain ⟨t, p, q⟩ := hc
  obtain ⟨u, pb, sb⟩ := hb
  refine ⟨fun W => tWhile t (u W), fun X W h k => ps_while h.po (p _ h.g).nox (pb X W h k), fun c hc σ H s r o e E W w => ?_⟩
  refine ⟨fun k σ' H' => ∃ si : MS, R Γ.K c O si σ' H' ∧ Fr O σ H O σ' H' ∧ whileM mt m k si = some o, ⟨n, s, r, Fr.refl _ _ _, e⟩, ?_⟩
  rintro k σ' H' ⟨si, ri, fi, run⟩
  cases k with
  | zero => cases run
  | succ k =>
    unfold whileM at run
    obtain ⟨⟨bt, s1⟩, e1, run⟩ := bind_of run
    refine q c σ' H' si ri _ _ e1 _ fun H1 r1 x1 => ?_
    have f1 : Fr O σ H O σ' H1 := fi.trans (Fr.of_ex hW x1)
    cases bt with
    | true =>
      rw [if_pos rfl] at run ⊢
      obtain ⟨ob, e4, run⟩ := bind_of run
      refine ⟨fun σ3 H3 => ∃ s3 : MS, R Γ.K c O s3 σ3 H3 ∧ Fr O σ H O σ3 H3 ∧ whileM mt m k s3 = some o, fun σ3 H3 p3 => ⟨k, Nat.lt_succ_self k, p3⟩, ?_⟩
      refine sb c hc σ' H1 s1 r1 ob e4 _ W ⟨fun s3 σ3 H3 eo r3 f3 => ?_, fun s3 σ3 H3 eo r3 f3 => ?_, fun s3 σ3 H3 eo r3 f3 => ?_, fun d3 s3 v3 H3 eo rt => ?_, fun x3 s3 σ3 H3 cls d3 eo r3 f3 rx => ?_⟩
      · subst eo
        exact ⟨s3, r3, f1.trans f3, run⟩
      · subst eo
        cases run
        exact w.nx s3 σ3 H3 rfl r3 (f1.trans f3)
      · subst eo
        exact ⟨s3, r3, f1.trans f3, run⟩
      · subst eo
        cases run
        exact w.rt d3 s3 v3 H3 rfl (rt.ahead f1)
      · subst eo
        cases run
        exact w.ex x3 s3 σ3 H3 cls d3 rfl r3 (f1.trans f3) rx
    | false =>
      rw [if_neg Bool.false_ne_true] at run ⊢
      cases run
      exact w.nx s1 σ' H1 rfl r1 f1

/-! ### owned lists changed -/
theorem own_at {K : PySem.W.Frag} {c : Cn} {s : MS} {σ : L2.St} {H : Hp} {i : Nat} {ds : List D} (r : R K c O s σ H) (hi : i ∈ O) (e : s.getD i none = some (.list ds)) {p0 : Addr} (h0 : σ[i]? = some (some (.ref p0))) : ∃ vs, H p0 = some (.lst vs) ∧ RpAll K (hide (c.msk O σ) H) vs ds := by
  have e2 : s[i]? = some (some (.list ds)) := by
    rw [List.getD_eq_getElem?_getD] at e
    cases e3 : s[i]? with
    | none => rw [e3] at e; cases e
    | some o => rw [e3] at e; exact congrArg some e
  obtain ⟨p, vs, k1, k3, k4, k5⟩ := r.owl hi e2
  rw [h0] at k1
  cases k1
  exact ⟨vs, k3, k4⟩
/-- does a list stand there -/
def lsO : Option D → Bool
  | some (.list _) => true
  | _ => false
theorem lsO_of {o : Option D} (h : lsO o = true) : ∃ ds, o = some (.list ds) := by
  unfold lsO at h
  split at h
  · exact ⟨_, rfl⟩
  · cases h
theorem own_list {K : PySem.W.Frag} {c : Cn} {s : MS} {σ : L2.St} {H : Hp} {i : Nat} (r : R K c O s σ H) (hi : i ∈ O) (h : lsO (s.getD i none) = true) : ∃ (p : Addr) (vs : List V), σ[i]? = some (some (.ref p)) ∧ H p = some (.lst vs) := by
  obtain ⟨ds, e⟩ := lsO_of h
  obtain ⟨p, o, d, k1, _⟩ := r.ow i hi
  obtain ⟨vs, k3, _⟩ := own_at r hi e k1
  exact ⟨p, vs, k1, k3⟩
def mApp (i : Nat) (a : ME) : MM := fun s => if lsO (s.getD i none) = true then (a s).bind fun p => match p.2.getD i none with
    | some (.list ds) => if ds.length ≤ 1000000 then some (.nx (p.2.set i (some (.list (ds ++ [p.1]))))) else none
    | _ => none
  else none
theorem ss_app {i : Nat} {x : Str} {px apos cpos : Pos} (hN : Γ.N[i]? = some x) (hv : visB Γ.sc x = true) (hi : i ∈ O) (he : TrE Γ O O W e me) (hW : ∀ j ∈ W, j ∈ O) (hst : ∀ env : Env, starEach [e] env = (false, eval e env) :: starEach [] env := by intro _; rfl) (hd : (x == ("__debug__" : Str)) = false := by decide) (hcd : (x == ("__classdict__" : Str)) = false := by decide)
    (hbase : ∀ env : Env, attributeBase (.Name x px) "append" env (eval (.Name x px) env) = eval (.Name x px) env := by intro _; rfl)
    (hfew : ∀ env : Env, ((backTo cpos (starEach [e] env)).all (fun x => !x.1) && (backToKw cpos (keywordEach [] env)).all (fun x => x.1.isSome)
      && decide (([e] : List Expr).length + ([] : List Keyword).length + (if ([] : List Keyword).isEmpty then 0 else 1) < 30)) = true := by intro _; rfl)
    (hline : (apos.endLine == cpos.line) = true := by rfl) :
    TrS Γ Th fz O O Ol (.Expr (.Call (.Attribute (.Name x px) "append" apos) [e] [] cpos) pos) (mApp i me) := TrS0.up <| by
  obtain ⟨t, p, q⟩ := he
  refine ⟨tDrop (tBM Γ.K "list" rAppend (tVar i) (tCons t tNil)), fun X h => by rw [← h.K]; exact ps_expr (pe_bm PySem.F.plainAttrs_list PySem.F.slot_list_append PySem.F.type_list_append mt_append (pe_var (h.nx hN) (h.vis hv) hd hcd) (pa_cons (p X h) pa_nil (hst X.env)) (hbase X.env) (hfew X.env) hline (hst X.env)), fun c hc σ H s r o e E w => ?_⟩
  unfold mApp at e
  split at e <;> first | (cases e; done) | skip
  rename_i hls
  obtain ⟨⟨d, s1⟩, e1, e2⟩ := bind_of e
  dsimp only at e2
  split at e2
  · rename_i ds e3
    split at e2
    · rename_i hl
      cases e2
      obtain ⟨p0, vs0, h1, h3⟩ := own_list r hi hls
      refine ⟨.ref p0, h1, .inl ⟨rfl, vs0, .inl (.inl h3)⟩, ?_⟩
      refine q c σ H s r _ _ e1 _ fun v H1 r1 x1 d1 => ?_
      obtain ⟨vs, k3, k4⟩ := own_at r1 hi e3 h1
      refine ⟨p0, vs, v, rfl, rfl, k3, Nat.lt_of_lt_of_le (show vs.length < 1000001 by rw [dpa_len k4]; omega) (by decide), ?_⟩
      obtain ⟨r2, x2⟩ := r1.chg hi h1 (vs := vs ++ [v]) (ds := ds ++ [d]) (dpa_app k4 (.cons d1 .nil))
      exact w.nx _ σ _ rfl r2 ((Fr.of_ex hW x1).trans (ex_wide (own_sub fun j hj => by rw [List.mem_singleton.mp hj]; exact hi) x2))
    · cases e2
  · cases e2
def mExt (i : Nat) (a : MF) : MM := fun s => if lsO (s.getD i none) = true then (a s).bind fun p => match p.2.getD i none with
    | some (.list ds) => if ds.length + p.1.length ≤ 1000000 then some (.nx (p.2.set i (some (.list (ds ++ p.1))))) else none
    | _ => none
  else none
/-- xs.extend(a new list) -/
theorem ss_ext {i : Nat} {x : Str} {px apos cpos : Pos} (hN : Γ.N[i]? = some x) (hv : visB Γ.sc x = true) (hi : i ∈ O) (he : TrF Γ O O W e mf) (hW : ∀ j ∈ W, j ∈ O) (hst : ∀ env : Env, starEach [e] env = (false, eval e env) :: starEach [] env := by intro _; rfl) (hd : (x == ("__debug__" : Str)) = false := by decide) (hcd : (x == ("__classdict__" : Str)) = false := by decide)
    (hbase : ∀ env : Env, attributeBase (.Name x px) "extend" env (eval (.Name x px) env) = eval (.Name x px) env := by intro _; rfl)
    (hfew : ∀ env : Env, ((backTo cpos (starEach [e] env)).all (fun x => !x.1) && (backToKw cpos (keywordEach [] env)).all (fun x => x.1.isSome)
      && decide (([e] : List Expr).length + ([] : List Keyword).length + (if ([] : List Keyword).isEmpty then 0 else 1) < 30)) = true := by intro _; rfl)
    (hline : (apos.endLine == cpos.line) = true := by rfl) :
    TrS Γ Th fz O O Ol (.Expr (.Call (.Attribute (.Name x px) "extend" apos) [e] [] cpos) pos) (mExt i mf) := TrS0.up <| by
  obtain ⟨t, p, q⟩ := he
  refine ⟨tDrop (tBM Γ.K "list" rExtend (tVar i) (tCons t tNil)), fun X h => by rw [← h.K]; exact ps_expr (pe_bm PySem.F.plainAttrs_list PySem.F.slot_list_extend PySem.F.type_list_extend mt_extend (pe_var (h.nx hN) (h.vis hv) hd hcd) (pa_cons (p X h) pa_nil (hst X.env)) (hbase X.env) (hfew X.env) hline (hst X.env)), fun c hc σ H s r o e E w => ?_⟩
  unfold mExt at e
  split at e <;> first | (cases e; done) | skip
  rename_i hls
  obtain ⟨⟨es, s1⟩, e1, e2⟩ := bind_of e
  dsimp only at e2
  split at e2
  · rename_i ds e3
    split at e2
    · rename_i hl
      cases e2
      obtain ⟨p0, vs0, h1, h3⟩ := own_list r hi hls
      refine ⟨.ref p0, h1, .inl ⟨rfl, vs0, .inl (.inl h3)⟩, ?_⟩
      refine q c σ H s r _ _ e1 _ fun b us H1 hb r1 x1 hb1 d1 => ?_
      obtain ⟨vs, k3, k4⟩ := own_at r1 hi e3 h1
      have r1' := r1.ex (ex_hide0 (A := (· = b)))
      have k4' := dpa_ex (ex_hide (ex_hide0 (A := (· = b)))) k4
      have d1' := dpa_ex (ex_hide (ex_hide0 (A := (· = b)))) d1
      refine ⟨p0, b, vs, us, rfl, rfl, (of_hide k3).2, hb1, sz1M (by rw [dpa_len k4, dpa_len d1]; exact hl), ?_⟩
      obtain ⟨r2, x2⟩ := r1'.chg hi h1 (vs := vs ++ us) (ds := ds ++ es) (dpa_app k4' d1')
      exact w.nx _ σ _ rfl r2 ((Fr.of_ex hW (x1.trans (ex_hide ex_hide0))).trans (ex_wide (own_sub fun j hj => by rw [List.mem_singleton.mp hj]; exact hi) x2))
    · cases e2
  · cases e2
def mSetIx (i : Nat) (v k : ME) : MM := fun s => (v s).bind fun p => (k p.2).bind fun q => match q.1, q.2.getD i none with
  | .int n, some (.list ds) => (ixN ds.length n).map fun j => .nx (q.2.set i (some (.list (ds.set j p.1))))
  | _, _ => none
/-- xs[k] = v -/
theorem ss_setIx {i : Nat} {x : Str} {px tpos : Pos} {k : Expr} {mk : ME} (hN : Γ.N[i]? = some x) (hv : visB Γ.sc x = true) (hi : i ∈ O) (he : TrE Γ O O W e me) (hk : TrE Γ O L0 W k mk) (hW : ∀ j ∈ W, j ∈ O) (hs : ∀ env : Env, swapsWithSole [.Subscript (.Name x px) k tpos] e pos.line env = pure false := by intro _; rfl) (hw : ∀ env : Env, swappedStores [.Subscript (.Name x px) k tpos] e env = pure none := by intro _; rfl)
    (h1 : ∀ env : Env, (assignEach [.Subscript (.Name x px) k tpos] env).map (·.2) = [assign (.Subscript (.Name x px) k tpos) env] := by intro _; rfl)
    (ha : ∀ (env : Env) v, assign (.Subscript (.Name x px) k tpos) env v = (do
      let ov ← holding [v] (eval (.Name x px) env)
      let iv ← holding [v, ov] (eval k env)
      standAt tpos
      holding [v, ov, iv] (setItem ov iv v)
      release [v, ov, iv] []) := by intro _ _; rfl) (hd : (x == ("__debug__" : Str)) = false := by decide) (hcd : (x == ("__classdict__" : Str)) = false := by decide) :
    TrS Γ Th fz O O Ol (.Assign [.Subscript (.Name x px) k tpos] e pos) (mSetIx i me mk) := TrS0.up <| by
  obtain ⟨t, p, q⟩ := he
  obtain ⟨t2, p2, q2⟩ := hk
  refine ⟨tAsg t (gSub (tVar i) t2 rSetL), fun X h => ps_asg (p X h) (pg_sub (pe_var (h.nx hN) (h.vis hv) hd hcd) (p2 X h) set_list (ha X.env)) (hs X.env) (hw X.env) (h1 X.env), fun c hc σ H s r o e E w => ?_⟩
  unfold mSetIx at e
  obtain ⟨⟨d, s1⟩, e1, e2⟩ := bind_of e
  obtain ⟨⟨dk, s2⟩, e3, e4⟩ := bind_of e2
  dsimp only at e4
  split at e4
  · rename_i n ds e5
    obtain ⟨j, ej, rfl⟩ := mapNx_of e4
    obtain ⟨p0, vs0, _, h1, _, _, _⟩ := r.ow i hi
    refine q c σ H s r _ _ e1 _ fun v H1 r1 x1 d1 => ?_
    refine ⟨.ref p0, h1, ?_⟩
    refine q2 c σ H1 s1 r1 _ _ e3 _ fun u H2 r2 x2 d2 => ?_
    cases d2
    obtain ⟨vs, k3, k4⟩ := own_at r2 hi e5 h1
    refine ⟨p0, vs, n, j, rfl, rfl, k3, by rw [dpa_len k4]; exact ej, ?_⟩
    obtain ⟨r3, x3⟩ := r2.chg hi h1 (vs := vs.set j v) (ds := ds.set j d) (dpa_set (dp_ex (keep hW x2) d1) j k4)
    exact w.nx _ σ _ rfl r3 ((Fr.of_ex hW (x1.trans x2)).trans (ex_wide (own_sub fun j hj => by rw [List.mem_singleton.mp hj]; exact hi) x3))
  · cases e4
theorem pget_list {X : Cx} : PGet X (fun o i H Q => ∃ p xs k v, o = .ref p ∧ i = .int k ∧ H p = some (.lst xs) ∧ 0 ≤ k ∧ xs[k.toNat]? = some v ∧ Q v H) := by
  intro pins s σ H o i ov iv Q I ro ri h
  obtain ⟨p, xs, k, v, rfl, rfl, hp, h0, hv, q⟩ := h
  cases ro
  obtain ⟨t, rfl⟩ := ri
  obtain ⟨its, n, r, ho, hz⟩ := I.lst hp
  obtain ⟨u, hu, ru⟩ := r.get hv
  have hl := r.length
  have hn := line63
  have hk := (List.getElem?_eq_some_iff.mp hu).1
  exact wpAny_getItem_list (IsL.isList ho) h0 (by omega) (by simpa using hu) ⟨v, H, I, ru, q⟩
/-- xs[k] op= v, of ints -/
def mAugIx (f : D → D → Option D) (i : Nat) (k v : ME) : MM := fun s => (k s).bind fun q => match q.1, q.2.getD i none with
  | .int n, some (.list ds) => if 0 ≤ n then match ds[n.toNat]? with
      | some d => (v q.2).bind fun p => match p.2.getD i none with
        | some (.list es) => if n < es.length then (f d p.1).map fun z => .nx (p.2.set i (some (.list (es.set n.toNat z)))) else none
        | _ => none
      | none => none else none
  | _, _ => none
theorem ss_augIx {op : Operator} {r : R2} {f : D → D → Option D} {i : Nat} {x : Str} {px tpos : Pos} {k : Expr} {mk : ME} (ho : ∀ X, InG Γ X → OpR X (inplaceOp op) r) (hr : RS Γ.K r f) (hN : Γ.N[i]? = some x) (hv : visB Γ.sc x = true) (hi : i ∈ O) (hk : TrE Γ O L0 [] k mk) (he : TrE Γ O L [] e me)
    (ha : ∀ ov iv new, augStore k ov iv new = (do holding [new, ov, iv] (setItem ov iv new); release [new, ov, iv] []; pure .next) := by intros; rfl) (hd : (x == ("__debug__" : Str)) = false := by decide) (hcd : (x == ("__classdict__" : Str)) = false := by decide) :
    TrS Γ Th fz O O Ol (.AugAssign (.Subscript (.Name x px) k tpos) op e pos) (mAugIx f i mk me) := TrS0.up <| by
  obtain ⟨t, p, q⟩ := he
  obtain ⟨t2, p2, q2⟩ := hk
  refine ⟨tAugS (tVar i) t2 t (fun o i H Q => ∃ p xs k v, o = .ref p ∧ i = .int k ∧ H p = some (.lst xs) ∧ 0 ≤ k ∧ xs[k.toNat]? = some v ∧ Q v H) r rSetL, fun X h => ps_augS (pe_var (h.nx hN) (h.vis hv) hd hcd) (p2 X h) pget_list (p X h) (ho X h) set_list ha, fun c hc σ H s r0 o e E w => ?_⟩
  unfold mAugIx at e
  obtain ⟨⟨dk, s1⟩, e1, e2⟩ := bind_of e
  dsimp only at e2
  split at e2
  · rename_i n ds e3
    split at e2
    · rename_i h0
      split at e2
      · rename_i d ed
        obtain ⟨⟨dv, s2⟩, e4, e5⟩ := bind_of e2
        dsimp only at e5
        split at e5
        · rename_i es e6
          split at e5
          · rename_i hn
            obtain ⟨z, ez, rfl⟩ := mapNx_of e5
            obtain ⟨p0, vs0, _, h1, _, _, _⟩ := r0.ow i hi
            refine ⟨.ref p0, h1, ?_⟩
            refine q2 c σ H s r0 _ _ e1 _ fun u H1 r1 x1 d1 => ?_
            cases d1
            obtain ⟨vs, k3, k4⟩ := own_at r1 hi e3 h1
            obtain ⟨v, g1, g2⟩ := dpa_get k4 ed
            refine ⟨p0, vs, n, v, rfl, rfl, k3, h0, g1, ?_⟩
            refine q c σ H1 s1 r1 _ _ e4 _ fun y H2 r2 x2 d2 => ?_
            obtain ⟨us, k3', k4'⟩ := own_at r2 hi e6 h1
            have ee : Ex H1 H2 := fun a o z => (of_hide (x2 a o (hide_of (fun ⟨j, hj, _⟩ => nomatch hj) z))).2
            refine hr H2 v y d dv z (dp_ex (ex_hide0.trans ee) g2) (dp_ex ex_hide0 d2) ez _ fun zv hz => ?_
            refine ⟨p0, us, n, n.toNat, rfl, rfl, k3', ?_, ?_⟩
            · rw [dpa_len k4']
              unfold ixN
              rw [if_pos h0, if_pos hn]
            · obtain ⟨r3, x3⟩ := r2.chg hi h1 (vs := us.set n.toNat zv) (ds := es.set n.toNat z) (dpa_set (hz _) n.toNat k4')
              exact w.nx _ σ _ rfl r3 ((Fr.of_ex (W := []) (fun _ z => nomatch z) (x1.trans x2)).trans (ex_wide (own_sub fun j hj => by rw [List.mem_singleton.mp hj]; exact hi) x3))
          · cases e5
        · cases e5
      · cases e2
    · cases e2
  · cases e2
/-- name op= e, of scalars -/
def mAug (f : D → D → Option D) (i : Nat) (v : ME) : MM := fun s => match nd (s.getD i none) with
  | some d => (v s).bind fun p => (f d p.1).map fun z => .nx (p.2.set i (some z))
  | none => none
theorem ss_aug {op : Operator} {r : R2} {f : D → D → Option D} {i : Nat} {x : Str} {px : Pos} (ho : ∀ X, InG Γ X → OpR X (inplaceOp op) r) (hr : RS Γ.K r f) (hN : Γ.N[i]? = some x) (hv : locB Γ x = true) (hi : i ∉ O) (ht : i ∉ Th) (hT : ∀ j ∈ Th, j ∈ O) (he : TrE Γ O O W e me) (hW : ∀ j ∈ W, j ∈ O) :
    TrS Γ Th fz O O Ol (.AugAssign (.Name x px) op e pos) (mAug f i me) := TrS0.up <| by
  obtain ⟨t, p, q⟩ := he
  refine ⟨tAug i t r, fun X h => ps_aug h.ndX (h.nx hN) (h.loc hv).1 (p X h) (ho X h) (h.loc hv).2, fun c hc σ H s r0 o e E w => ?_⟩
  unfold mAug at e
  split at e
  · rename_i d ed
    obtain ⟨ed, hnd⟩ := nd_of ed
    obtain ⟨⟨dv, s1⟩, e1, e2⟩ := bind_of e
    obtain ⟨z, ez, rfl⟩ := mapNx_of e2
    have ed2 : s[i]? = some (some d) := by
      rw [List.getD_eq_getElem?_getD] at ed
      cases e3 : s[i]? with
      | none => rw [e3] at ed; cases ed
      | some o => rw [e3] at ed; exact congrArg some ed
    obtain ⟨v0, h1, h2⟩ := r0.sh i d hi ed2 hnd
    refine ⟨v0, h1, ?_⟩
    refine q c σ H s r0 _ _ e1 _ fun v H1 r1 x1 d1 => ?_
    refine hr H1 v0 v d dv z (dp_ex ((keep hW x1).trans ex_hide0) h2) (dp_ex ex_hide0 d1) ez _ fun zv hz => ?_
    obtain ⟨r2, x2⟩ := setR (O' := O) r1 (hz _) (by rw [hc]; exact ht) (fun j hj => List.mem_filter.mpr ⟨hj, by simpa using (fun e => hi (e ▸ hj) : j ≠ i)⟩) (by rw [hc]; exact hT)
    exact w.nx _ _ H1 rfl r2 ((Fr.of_ex hW x1).trans x2)
  · cases e
/-- xs.pop(k), xs.pop() of an owned list, as a value -/
def xPopAt (i : Nat) (k : ME) : ME := fun s => if lsO (s.getD i none) = true then (k s).bind fun q => match q.1, q.2.getD i none with
    | .int n, some (.list ds) => if (0 ≤ n ∧ n < ds.length) ∧ ds.length ≤ 1000000 then (ds[n.toNat]?).map fun d => (d, q.2.set i (some (.list (ds.eraseIdx n.toNat)))) else none
    | _, _ => none
  else none
theorem tr_popAt {i : Nat} {x : Str} {px apos cpos : Pos} {k : Expr} {mk : ME} (hN : Γ.N[i]? = some x) (hv : visB Γ.sc x = true) (hi : i ∈ O) (hiW : i ∈ W) (hk : TrE Γ O L0 W k mk) (hW : ∀ j ∈ W, j ∈ O) (hL : ∀ j ∈ L, j ∈ O) (hst : ∀ env : Env, starEach [k] env = (false, eval k env) :: starEach [] env := by intro _; rfl) (hd : (x == ("__debug__" : Str)) = false := by decide) (hcd : (x == ("__classdict__" : Str)) = false := by decide)
    (hbase : ∀ env : Env, attributeBase (.Name x px) "pop" env (eval (.Name x px) env) = eval (.Name x px) env := by intro _; rfl)
    (hfew : ∀ env : Env, ((backTo cpos (starEach [k] env)).all (fun x => !x.1) && (backToKw cpos (keywordEach [] env)).all (fun x => x.1.isSome)
      && decide (([k] : List Expr).length + ([] : List Keyword).length + (if ([] : List Keyword).isEmpty then 0 else 1) < 30)) = true := by intro _; rfl)
    (hline : (apos.endLine == cpos.line) = true := by rfl) : TrE Γ O L W (.Call (.Attribute (.Name x px) "pop" apos) [k] [] cpos) (xPopAt i mk) := by
  obtain ⟨t, p, q⟩ := hk
  refine ⟨tBM Γ.K "list" rPopAt (tVar i) (tCons t tNil), fun X h => by rw [← h.K]; exact pe_bm PySem.F.plainAttrs_list PySem.F.slot_list_pop PySem.F.type_list_pop mt_popAt (pe_var (h.nx hN) (h.vis hv) hd hcd) (pa_cons (p X h) pa_nil (hst X.env)) (hbase X.env) (hfew X.env) hline (hst X.env), fun c σ H s r d s' e Q w => ?_⟩
  unfold xPopAt at e
  split at e <;> first | (cases e; done) | skip
  rename_i hls
  obtain ⟨⟨dk, s1⟩, e1, e2⟩ := bind_of e
  dsimp only at e2
  split at e2
  · rename_i n ds e3
    split at e2
    · rename_i hn
      obtain ⟨z, ez, e4⟩ := mapNx_of e2
      cases e4
      obtain ⟨p0, vs0, h1, h3⟩ := own_list r hi hls
      refine ⟨.ref p0, h1, .inl ⟨rfl, vs0, .inl (.inl h3)⟩, ?_⟩
      refine q c σ H s r _ _ e1 _ fun v H1 r1 x1 d1 => ?_
      cases d1
      obtain ⟨vs, k3, k4⟩ := own_at r1 hi e3 h1
      obtain ⟨y, g1, g2⟩ := dpa_get k4 ez
      have hlen : vs.length = ds.length := dpa_len k4
      obtain ⟨hn, hsz⟩ := hn
      refine ⟨p0, vs, n, n.toNat, y, rfl, rfl, k3, by omega, by omega, ?_, g1, ?_⟩
      · rw [PySem.StrLaws.seqIndex_nonneg hn.1 (by omega)]
      · obtain ⟨r2, x2⟩ := r1.chg hi h1 (vs := vs.eraseIdx n.toNat) (ds := ds.eraseIdx n.toNat) (dpa_erase n.toNat k4)
        refine w y _ r2 (x1.trans (ex_wide (own_sub fun j hj => by rw [List.mem_singleton.mp hj]; exact hiW) x2)) ?_
        exact dp_ex (ex_hide_sub (msk_sub hL)) (dp_ex (ex_hide_up (.inr ⟨i, hi, h1⟩)) g2)
    · cases e2
  · cases e2
end
end Z


namespace Z
open PySem PySem.Spec PyProof.Rows L2

/-! ## a def's promise by its body -/
def startM (n : Nat) (ds : List D) : MS := ds.map some ++ List.replicate (n - ds.length) none
def outP : Out → Option D
  | .rt d _ => some d
  | .nx _ => some .none
  | _ => none
def outL : Out → Option (List D)
  | .rt (.list ds) _ => some ds
  | _ => none
def outT : Out → Option (D × List D)
  | .rt d s => match s.getD 0 none with
    | some (.list fs) => some (d, fs)
    | _ => none
  | .nx s => match s.getD 0 none with
    | some (.list fs) => some (.none, fs)
    | _ => none
  | _ => none
def fnP (a n : Nat) (m : MM) : List D → Option D := fun ds => if ds.length = a then (m (startM n ds)).bind outP else none
def fnL (a n : Nat) (m : MM) : List D → Option (List D) := fun ds => if ds.length = a then (m (startM n ds)).bind outL else none
def fnT (a n : Nat) (m : MM) : List D → List D → Option (D × List D) := fun fs ds => if ds.length + 1 = a then (m (startM n (.list fs :: ds))).bind outT else none
section
variable {K : PySem.W.Frag} {H : Hp}
theorem dpa_getV : ∀ {vs : List V} {ds : List PyData} {i : Nat} {v : V}, RpAll K H vs ds → vs[i]? = some v → ∃ d, ds[i]? = some d ∧ Rp K H v d
  | _, _, _, _, .nil, e => by simp at e
  | _, _, 0, _, .cons h a, e => by
    simp at e; subst e; exact ⟨_, rfl, h⟩
  | _, _, i + 1, _, .cons h a, e => by
    obtain ⟨v, h1, h2⟩ := dpa_getV (i := i) a (by simpa using e)
    exact ⟨v, by simpa using h1, h2⟩
theorem startM_get {n : Nat} {ds : List D} {i : Nat} {d : D} (h : (startM n ds)[i]? = some (some d)) : ds[i]? = some d := by
  unfold startM at h
  by_cases hi : i < ds.length
  · rw [List.getElem?_append_left (by simpa using hi), List.getElem?_map] at h
    cases e : ds[i]? with
    | none => rw [e] at h; cases h
    | some a => rw [e] at h; cases h; rfl
  · rw [List.getElem?_append_right (by simpa using hi), List.getElem?_replicate] at h
    split at h <;> cases h
theorem start_get {N : List Str} {vs : List V} {i : Nat} {v : V} (h : vs[i]? = some v) : (start N vs)[i]? = some (some v) := by
  unfold L2.start
  have hi := (List.getElem?_eq_some_iff.mp h).1
  rw [List.getElem?_append_left (by simpa using hi), List.getElem?_map, h]
  rfl
theorem start_len {N : List Str} {vs : List V} {ds : List D} {n : Nat} (hn : N.length = n) (h : vs.length = ds.length) : (startM n ds).length = (start N vs).length := by
  unfold L2.start startM
  rw [List.length_append, List.length_append, List.length_map, List.length_map, List.length_replicate, List.length_replicate, hn, h]
theorem own_nil {σ : L2.St} : Own [] σ = fun _ => False := by
  funext a
  exact propext (Iff.intro (fun ⟨i, h, _⟩ => absurd h (by simp)) (fun h => False.elim h))
theorem hide_false {H : Hp} : hide (fun _ => False) H = H := by
  funext a
  unfold hide
  rw [if_neg (fun h => h)]
/-- the entry of a def that only reads -/
theorem R_start {N : List Str} {vs : List V} {ds : List D} {n : Nat} {C : Addr → Prop} (hn : N.length = n) (hC : ∀ p, C p → ∃ o, H p = some o) (hd : RpAll K (hide C H) vs ds) : R K ⟨C, [], start N vs⟩ [] (startM n ds) (start N vs) H where
  len := start_len hn (dpa_len hd)
  sh := fun i d _ h _ => by
    obtain ⟨v, h1, h2⟩ := dpa_get hd (startM_get h)
    exact ⟨v, start_get h1, dp_ex (ex_hide_sub fun a z => Or.elim z id fun ⟨_, q, _⟩ => nomatch q) h2⟩
  ow := fun i h => nomatch h
  nd := fun i j p h => nomatch h
  cs := hC
  th := fun i h => nomatch h
  tl := fun i h => nomatch h
end
section
abbrev FnP (K : PySem.W.Frag) (x qual : Str) (st : Stmt) (f : Addr) (fd : FuncData) : Prop := FunD K x qual (defArgs st) (defBody st) (defScope st) [] [] f fd
variable {P : Program} {w : World} {K : PySem.W.Frag} {mg : Str → Option Value} {base : Heap} {x qual : Str} {st : Stmt} {f : Addr} {fd : FuncData} {N ps : List Str} {k a n : Nat} {m : MM}
abbrev G0 (P : Program) (w : World) (K : PySem.W.Frag) (mg : Str → Option Value) (base : Heap) (A : Around) (N : List Str) (sc : Scope) : G := ⟨P, w, K, mg, base, A, N, sc, fun _ => true, true, []⟩
theorem inX0 {CX : CXT} {A : Around} {outer : List Env} {s : Shared} {H : Hp} {E : XK} {cdv : Value} (nd : N.Nodup) : InX (G0 P w K mg base (A.deeper (envOfC qual (defScope st) s.heap.objs.size f cdv)) N (defScope st)) (cxOf CX P w K mg base N qual (defScope st) f cdv A outer s H E) where
  g := ⟨rfl, rfl, rfl, rfl, rfl, rfl, rfl, rfl, rfl, nd, rfl, rfl⟩
  po := passes_of (E₁ := fun e' s'' => CX outer H s E e' s'') rfl
  st := rfl
  fr := rfl
theorem fn_P (F : FnP K x qual st f fd) (S : FnScope N ps (defScope st)) (ha : ps.length = a) (hn : N.length = n) (h : ∀ A, Room k A → TrSs (G0 P w K mg base A N (defScope st)) [] false [] [] [] (defBody st) m) : FnOk P w K mg base CX0 (k + 1) f fd ps (spP K (fnP a n m)) := by
  refine F.ok S (fun vs H Q E hs => ?_) (fun cdv A outer s H vs Q E hr hs => ?_)
  · obtain ⟨C, ds, d, _, hd, e, _⟩ := hs
    unfold fnP at e
    split at e
    · rw [dpa_len hd, ha]; assumption
    · cases e
  · obtain ⟨C, ds, d, hC, hd, e, q⟩ := hs
    unfold fnP at e
    split at e
    · obtain ⟨o, e1, e2⟩ := bind_of e
      obtain ⟨t, pt, st'⟩ := h _ hr
      refine ⟨t fun _ _ _ _ => False, pt _ _ (inX0 S.nd) takes_none5, st' ⟨C, [], start N vs⟩ rfl (start N vs) H (startM n ds) (R_start hn hC hd) o e1 _ _ ⟨fun s' σ' H' eo r' fr => ?_, fun s' σ' H' eo r' fr => ?_, fun s' σ' H' eo r' fr => ?_, fun d' s' v H' eo rt => ?_, fun x s' σ' H' cls d' eo r' fr rx => by subst eo; cases e2⟩⟩
      · subst eo
        cases e2
        unfold Fr at fr
        rw [own_nil, own_nil, hide_false, hide_false] at fr
        exact q .non H' fr .non
      · subst eo; cases e2
      · subst eo; cases e2
      · subst eo
        cases e2
        have fr := rt.fr
        have hT : (Cn.mk C [] (start N vs)).T = fun _ => False := own_nil
        rw [own_nil, hT, hide_false, hide_false] at fr
        exact q v H' fr (dp_ex (ex_hide_sub fun a z => .inl z) rt.val)
    · cases e
theorem fn_L (F : FnP K x qual st f fd) (S : FnScope N ps (defScope st)) (ha : ps.length = a) (hn : N.length = n) (h : ∀ A, Room k A → TrSs (G0 P w K mg base A N (defScope st)) [] true [] [] [] (defBody st) m) : FnOk P w K mg base CX0 (k + 1) f fd ps (spL K (fnL a n m)) := by
  refine F.ok S (fun vs H Q E hs => ?_) (fun cdv A outer s H vs Q E hr hs => ?_)
  · obtain ⟨C, ds, es, _, hd, e, _⟩ := hs
    unfold fnL at e
    split at e
    · rw [dpa_len hd, ha]; assumption
    · cases e
  · obtain ⟨C, ds, es, hC, hd, e, q⟩ := hs
    unfold fnL at e
    split at e
    · obtain ⟨o, e1, e2⟩ := bind_of e
      obtain ⟨t, pt, st'⟩ := h _ hr
      refine ⟨t fun _ _ _ _ => False, pt _ _ (inX0 S.nd) takes_none5, st' ⟨C, [], start N vs⟩ rfl (start N vs) H (startM n ds) (R_start hn hC hd) o e1 _ _ ⟨fun s' σ' H' eo r' fr => ?_, fun s' σ' H' eo r' fr => ?_, fun s' σ' H' eo r' fr => ?_, fun d' s' v H' eo rt => ?_, fun x s' σ' H' cls d' eo r' fr rx => by subst eo; cases e2⟩⟩
      · subst eo; cases e2
      · subst eo; cases e2
      · subst eo; cases e2
      · subst eo
        have fr := rt.fr
        have hT : (Cn.mk C [] (start N vs)).T = fun _ => False := own_nil
        rw [own_nil, hT, hide_false, hide_false] at fr
        obtain ⟨p, us, ds', rfl, rfl, k3, k4, k5, k6, k7⟩ := rt.fresh rfl
        cases e2
        rw [own_nil, hide_false] at k3
        refine q p us H' k3 (fun b o z => hide_of (ne_of_none z k3) (fr b o z)) k6 (dpa_ex (fun b o z => ?_) k7)
        obtain ⟨n1, z⟩ := of_hide z
        exact hide_of (fun y => n1 (.inl (.inl y))) (hide_of (fun y => n1 (.inr y)) z)
    · cases e
theorem fn_T (F : FnP K x qual st f fd) (S : FnScope N ps (defScope st)) (ha : ps.length = a) (hn : N.length = n) (h : ∀ A, Room k A → TrSs (G0 P w K mg base A N (defScope st)) [0] false [0] [0] [0] (defBody st) m) : FnOk P w K mg base CX0 (k + 1) f fd ps (spT K (fnT a n m)) := by
  refine F.ok S (fun vs H Q E hs => ?_) (fun cdv A outer s H vs Q E hr hs => ?_)
  · obtain ⟨C, p, us, ws, fs, ds, d, fs', rfl, _, _, _, _, hd, e, _⟩ := hs
    unfold fnT at e
    split at e
    · rw [List.length_cons, dpa_len hd, ha]; assumption
    · cases e
  · obtain ⟨C, p, us, ws, fs, ds, d, fs', rfl, hCp, hC, hp, hus, hd, e, q⟩ := hs
    unfold fnT at e
    split at e
    · obtain ⟨o, e1, e2⟩ := bind_of e
      obtain ⟨t, pt, st'⟩ := h _ hr
      have hs0 : (start N (.ref p :: ws))[0]? = some (some (.ref p)) := start_get rfl
      have own : ∀ b, Own [0] (start N (.ref p :: ws)) b ↔ b = p := fun b => ⟨fun ⟨i, hi, e⟩ => by
        rw [List.mem_singleton.mp hi, hs0] at e
        cases e; rfl, fun e => ⟨0, by simp, by rw [e]; exact hs0⟩⟩
      have sub : ∀ b, (Cn.mk (fun a => C a ∧ a ≠ p) [0] (start N (.ref p :: ws))).msk [0] (start N (.ref p :: ws)) b → C b := fun b z => by
        rcases z with z | z
        · exact z.1
        · rw [(own b).mp z]; exact hCp
      have R0 : R K ⟨fun a => C a ∧ a ≠ p, [0], start N (.ref p :: ws)⟩ [0] (startM n (.list fs :: ds)) (start N (.ref p :: ws)) H := by
        refine ⟨start_len hn (by rw [List.length_cons, List.length_cons, dpa_len hd]), fun i d hi e _ => ?_, fun i hi => ?_, fun i j _ hi hj _ _ => ?_, fun b z => hC b z.1, fun i hi => ⟨hi, rfl⟩, fun i hi => ⟨fs, by rw [List.mem_singleton.mp hi]; rfl⟩⟩
        · have e' := startM_get e
          cases i with
          | zero => exact absurd (by simp) hi
          | succ i =>
            obtain ⟨v, h1, h2⟩ := dpa_get hd (i := i) (by simpa using e')
            exact ⟨v, start_get (by simpa using h1), dp_ex (ex_hide_sub sub) h2⟩
        · rw [List.mem_singleton.mp hi]
          exact ⟨p, _, _, hs0, by unfold startM; rfl, hp, .lst (dpa_ex (ex_hide_sub sub) hus), fun z => z.2 rfl⟩
        · rw [List.mem_singleton.mp hi, List.mem_singleton.mp hj]
      have fin : ∀ {H' : Hp} {v : V} {d' : D} {s' : MS}, Ex (hide (Own [0] (start N (.ref p :: ws))) H) (hide (Cn.mk (fun a => C a ∧ a ≠ p) [0] (start N (.ref p :: ws))).T H') → (∃ (p' : Addr) (vs : List V) (ds : List D), (start N (.ref p :: ws))[0]? = some (some (.ref p')) ∧ s'[0]? = some (some (.list ds)) ∧ H' p' = some (.lst vs) ∧ RpAll K (hide C H') vs ds) → Rp K (hide C H') v d' →
          (match s'.getD 0 none with | some (.list fs) => some (d', fs) | _ => none) = some (d, fs') → Q v H' := fun {H' v d' s'} fr th val e => by
        obtain ⟨p', vs', ds', g1, g2, g3, g4⟩ := th
        rw [hs0] at g1
        cases g1
        rw [List.getD_eq_getElem?_getD, g2] at e
        cases e
        refine q v H' vs' (fun b o z => ?_) g3 g4 val
        obtain ⟨n1, z⟩ := of_hide z
        exact hide_of n1 (of_hide (fr b o (hide_of (fun y => n1 ((own b).mp y)) z))).2
      have big : ∀ b, C b → (C b ∧ b ≠ p) ∨ (Cn.mk (fun a => C a ∧ a ≠ p) [0] (start N (.ref p :: ws))).T b := fun b z => by
        by_cases e : b = p
        · exact .inr ((own b).mpr e)
        · exact .inl ⟨z, e⟩
      have big2 : ∀ b, (C b ∧ b ≠ p) ∨ (Cn.mk (fun a => C a ∧ a ≠ p) [0] (start N (.ref p :: ws))).T b → C b := fun b z => by
        rcases z with z | z
        · exact z.1
        · rw [(own b).mp z]; exact hCp
      refine ⟨t fun _ _ _ _ => False, pt _ _ (inX0 S.nd) takes_none5, st' ⟨fun a => C a ∧ a ≠ p, [0], start N (.ref p :: ws)⟩ rfl (start N (.ref p :: ws)) H (startM n (.list fs :: ds)) R0 o e1 _ _ ⟨fun s' σ' H' eo r' fr => ?_, fun s' σ' H' eo r' fr => ?_, fun s' σ' H' eo r' fr => ?_, fun d' s' v H' eo rt => ?_, fun x s' σ' H' cls d' eo r' fr rx => by subst eo; cases e2⟩⟩
      · subst eo
        have f2 := rt_ex (W := []) r' (fun _ z => nomatch z) (Ex.refl _)
        obtain ⟨p', vs', ds', g1, g2, g3, g4⟩ := rt_th r' 0 (by simp)
        exact fin (s' := s') (Ex.trans fr f2) ⟨p', vs', ds', g1, g2, g3, dpa_ex (ex_hide_sub big) g4⟩ .non e2
      · subst eo; cases e2
      · subst eo; cases e2
      · subst eo
        obtain ⟨p', vs', ds', g1, g2, g3, g4⟩ := rt.th 0 (by simp)
        exact fin (s' := s') rt.fr ⟨p', vs', ds', g1, g2, g3, dpa_ex (ex_hide_sub big) g4⟩ (dp_ex (ex_hide_sub big) rt.val) e2
    · cases e
theorem fnAt {sp : Sp} (F : FnP K x qual st f fd) (G : FnOk P w K mg base CX0 k f fd ps sp) (hm : mg x = some (.ref f)) (hb : Binds K fd ps []) : FnAt P w K mg base k x ps sp := ⟨f, fd, G, hm, F.kp, hb⟩
end

/-! ## the law -/
def spLaw (K : PySem.W.Frag) : Sp := fun vs H Q _ => ∃ (a : Addr) (ns : List Int), vs = [.ref a] ∧ SqL K H a (ns.map V.int) ∧ ns.length ≤ 63 ∧ ∀ H', Q (.bl true) H'
theorem law_of {P : Program} {w : World} {K : PySem.W.Frag} {mg : Str → Option Value} {base : Heap} {k : Nat} {f : Addr} {fd : FuncData} {ps : List Str} {mf : List D → Option D} (h : FnOk P w K mg base CX0 k f fd ps (spP K mf)) (hl : ∀ ns : List Int, ns.length ≤ 63 → mf [.list (ns.map PyData.int)] = some (.bool true)) : FnOk P w K mg base CX0 k f fd ps (spLaw K) :=
  h.imp fun vs H Q E ⟨a, ns, e, hs, hn, q⟩ => by
    subst e
    refine ⟨fun _ => False, [.list (ns.map PyData.int)], .bool true, fun _ z => False.elim z, .cons (.lst (by rw [hide_false]; exact hs) (dpa_ints ns)) .nil, hl ns hn, fun v H' _ hv => ?_⟩
    cases hv
    exact q H'
end Z


namespace Z
open PySem PySem.Spec PyProof.Rows L2

/-! ## weaker judgements -/
section
variable {Γ : G} {O L L' W : List Nat} {e : Expr} {es : List Expr} {m : ME} {mf : MF} {mt : MT}
theorem own_emp {W : List Nat} {σ : L2.St} : ∀ a, Own [] σ a → Own W σ a := fun a ⟨i, h, _⟩ => absurd h (by simp)
theorem tr_wk (h : TrE Γ O L [] e m) : TrE Γ O L W e m := by
  obtain ⟨t, p, q⟩ := h
  exact ⟨t, p, fun c σ H s r d s' e Q k => q c σ H s r d s' e Q fun v H' r' x => k v H' r' (ex_wide own_emp x)⟩
theorem tt_wk (h : TrT Γ O [] e mt) : TrT Γ O W e mt := by
  obtain ⟨t, p, q⟩ := h
  exact ⟨t, p, fun c σ H s r d s' e Q k => q c σ H s r d s' e Q fun H' r' x => k H' r' (ex_wide own_emp x)⟩
theorem tf_wk (h : TrF Γ O L [] e mf) : TrF Γ O L W e mf := by
  obtain ⟨t, p, q⟩ := h
  exact ⟨t, p, fun c σ H s r d s' e Q k => q c σ H s r d s' e Q fun v vs H' n r' x => k v vs H' n r' (ex_wide own_emp x)⟩
theorem ta_wk (h : TrA Γ O L [] es mf) : TrA Γ O L W es mf := by
  obtain ⟨t, p, q⟩ := h
  exact ⟨t, p, fun c σ H s r d s' e Q k => q c σ H s r d s' e Q fun v H' r' x => k v H' r' (ex_wide own_emp x)⟩
theorem tr_lo (h : TrE Γ O L' W e m) (hL : ∀ j ∈ L, j ∈ L') : TrE Γ O L W e m := by
  obtain ⟨t, p, q⟩ := h
  exact ⟨t, p, fun c σ H s r d s' e Q k => q c σ H s r d s' e Q fun v H' r' x d => k v H' r' x (dp_ex (ex_hide_sub (msk_sub hL)) d)⟩
theorem tf_lo (h : TrF Γ O L' W e mf) (hL : ∀ j ∈ L, j ∈ L') : TrF Γ O L W e mf := by
  obtain ⟨t, p, q⟩ := h
  exact ⟨t, p, fun c σ H s r d s' e Q k => q c σ H s r d s' e Q fun v vs H' n r' x h d => k v vs H' n r' x h (dpa_ex (ex_hide_sub (msk_sub hL)) d)⟩
theorem tb_lo (h : TrB Γ O L' W e mf) (hL : ∀ j ∈ L, j ∈ L') : TrB Γ O L W e mf := by
  obtain ⟨t, p, q⟩ := h
  exact ⟨t, p, fun c σ H s r d s' e Q k => q c σ H s r d s' e Q fun v vs H' r' x h d => k v vs H' r' x h (dpa_ex (ex_hide_sub (msk_sub hL)) d)⟩
theorem tq_lo (h : TrQ Γ O L' W e mf) (hL : ∀ j ∈ L, j ∈ L') : TrQ Γ O L W e mf := by
  obtain ⟨t, p, q⟩ := h
  exact ⟨t, p, fun c σ H s r d s' e Q k => q c σ H s r d s' e Q fun v vs H' r' x h d => k v vs H' r' x h (dpa_ex (ex_hide_sub (msk_sub hL)) d)⟩
/-- a list's other way round, made anew -/
theorem tf_rev {k : Nat} {p1 p2 p3 pos : Pos} (ha : TrB Γ O L W e mf) (hW : ∀ j ∈ W, j ∈ O) : TrF Γ O L W (.Subscript e (.Slice none none (some (.UnaryOp .USub (.Constant (.int 1) k p1) p2)) p3) pos) (xfMap (fun ds => some ds.reverse) mf) := by
  obtain ⟨t, p, q⟩ := ha
  refine ⟨tRevL Γ.K t, fun X h => by rw [← h.K]; exact pe_revL (p X h), fun c σ H s r d s' e Q k => ?_⟩
  obtain ⟨es, e1, e2⟩ := xfMap_of e
  cases e2
  refine q c σ H s r _ _ e1 _ fun a vs H1 r1 x1 hs d1 => ⟨a, vs, rfl, sql_ex ex_hide0 hs, ?_⟩
  exact simF_new r1 x1 (fresh_of r1 hW x1) (dpa_rev d1) k
end

/-! ## a dict written out, and one of its values taken at once -/
section
variable {K : PySem.W.Frag} {H : Hp} {p : Addr} {k1 : List (Key × V)} {o : HO} {A : Addr → Prop}
theorem rd_dk {a : Addr} {u : HO} (hp : H p = some (.dK k1)) (hu : (∀ k, u ≠ .dK k)) (h : Rd (hide A H) a u) : Rd (hide A (upd H p o)) a u := by
  rcases h with h | ⟨q, h⟩
  · obtain ⟨n, h⟩ := of_hide h
    refine .inl (hide_of n ?_)
    rw [upd_ne (by intro e; subst e; rw [hp] at h; cases h; exact hu _ rfl)]
    exact h
  · obtain ⟨n, h⟩ := of_hide h
    refine .inr ⟨q, hide_of n ?_⟩
    rw [upd_ne (by intro e; subst e; rw [hp] at h; cases h)]
    exact h
mutual
theorem rp_dk (hp : H p = some (.dK k1)) : ∀ {v : V} {d : PyData}, Rp K (hide A H) v d → Rp K (hide A (upd H p o)) v d
  | _, _, .non => .non
  | _, _, .bl b => .bl b
  | _, _, .int i => .int i
  | _, _, .str x => .str x
  | _, _, .lst h a => .lst (h.imp (rd_dk hp (fun _ => HO.noConfusion)) id) (rpa_dk hp a)
  | _, _, .tup h a => .tup (h.imp (rd_dk hp (fun _ => HO.noConfusion)) id) (rpa_dk hp a)
theorem rpa_dk (hp : H p = some (.dK k1)) : ∀ {vs : List V} {ds : List PyData}, RpAll K (hide A H) vs ds → RpAll K (hide A (upd H p o)) vs ds
  | _, _, .nil => .nil
  | _, _, .cons h a => .cons (rp_dk hp h) (rpa_dk hp a)
end
theorem kva_dk (hp : H p = some (.dK k1)) : ∀ {kvs : List (Key × V)} {ps : List (D × D)}, KvAll K (hide A H) kvs ps → KvAll K (hide A (upd H p o)) kvs ps
  | _, _, .nil => .nil
  | _, _, .cons h r => .cons (rp_dk hp h) (kva_dk hp r)
theorem R.dk {c : Cn} {O : List Nat} {s : MS} {σ : L2.St} (r : R K c O s σ H) (hp : H p = some (.dK k1)) (no : ¬ Own O σ p) : R K c O s σ (upd H p o) where
  len := r.len
  sh := fun i d hi h hd => let ⟨v, h1, h2⟩ := r.sh i d hi h hd; ⟨v, h1, rp_dk hp h2⟩
  tl := r.tl
  ow := fun i hi => let ⟨q, vs, ds, h1, h2, h3, h4, h5⟩ := r.ow i hi; ⟨q, vs, ds, h1, h2, by rw [upd_ne (by intro e; subst e; exact no ⟨i, hi, h1⟩)]; exact h3, (by cases h4 with
    | lst a => exact .lst (rpa_dk hp a)
    | dk a => exact .dk (kva_dk hp a)), h5⟩
  nd := r.nd
  cs := fun b h => by
    by_cases e : b = p
    · exact ⟨o, by rw [e]; exact upd_same⟩
    · rw [upd_ne e]; exact r.cs b h
  th := r.th
theorem R.notOwn {c : Cn} {O : List Nat} {s : MS} {σ : L2.St} (r : R K c O s σ H) (hp : H p = none) : ¬ Own O σ p := fun ⟨i, hi, e⟩ => by
  obtain ⟨q, vs, ds, h1, _, h3, _⟩ := r.ow i hi
  rw [e] at h1
  cases h1
  rw [hp] at h3
  cases h3
end
def findK : List Str → List D → Str → Option D
  | k :: ks, d :: ds, z => if k = z then some d else findK ks ds z
  | _, _, _ => none
def pairsK (ks : List Str) (vs : List V) : List (Key × V) := (ks.zip vs).map fun p => (.inr p.1, p.2)
theorem findK_val {K : PySem.W.Frag} {H : Hp} : ∀ {ks : List Str} {vs : List V} {ds : List D} {z : Str} {d : D}, RpAll K H vs ds → findK ks ds z = some d → ∃ v, valV (pairsK ks vs) (.inr z) = some v ∧ Rp K H v d
  | [], _, ds, z, d, _, e => by cases ds <;> cases e
  | k :: ks, _, [], z, d, _, e => by cases e
  | k :: ks, _, d' :: ds, z, d, .cons (v := v) (vs := vs) h a, e => by
    unfold findK at e
    unfold pairsK
    rw [List.zip_cons_cons, List.map_cons]
    by_cases c : k = z
    · rw [if_pos c] at e
      cases e
      exact ⟨v, valV_pos (congrArg Sum.inr c), h⟩
    · rw [if_neg c] at e
      obtain ⟨v', h1, h2⟩ := findK_val a e
      exact ⟨v', by rw [valV_neg (by intro q; exact c (Sum.inr.inj q))]; exact h1, h2⟩
theorem merge_pairs : ∀ (ks : List Str) (vs : List V) (acc : List (Key × V)), ks.Nodup → (∀ k ∈ ks, ∀ p ∈ acc, p.1 ≠ .inr k) → mergeK acc (pairsK ks vs) = acc ++ pairsK ks vs
  | [], vs, acc, _, _ => by unfold pairsK mergeK; simp
  | k :: ks, [], acc, _, _ => by unfold pairsK mergeK; simp
  | k :: ks, v :: vs, acc, hn, hd => by
    have hn' := List.nodup_cons.mp hn
    have e1 : pairsK (k :: ks) (v :: vs) = (.inr k, v) :: pairsK ks vs := rfl
    have e2 : putK acc (.inr k) v = acc ++ [(.inr k, v)] := by
      unfold putK
      rw [if_neg]
      intro z
      obtain ⟨p, hp, e⟩ := List.any_eq_true.mp z
      exact hd k List.mem_cons_self p hp (of_decide_eq_true e)
    rw [e1]
    show mergeK (putK acc (.inr k) v) (pairsK ks vs) = _
    rw [e2, merge_pairs ks vs _ hn'.2 fun k' hk p hp => ?_, List.append_assoc]
    · rfl
    · rcases List.mem_append.mp hp with hp | hp
      · exact hd k' (List.mem_cons_of_mem _ hk) p hp
      · rw [List.mem_singleton.mp hp]
        intro e
        exact hn'.1 (by rw [Sum.inr.inj e]; exact hk)
def SimPs (K : PySem.W.Frag) (O L W : List Nat) (trs : List (TE × TE)) (ks : List Str) (m : MF) : Prop := ∀ (c : Cn) (σ : L2.St) (H : Hp) (s : MS), R K c O s σ H → ∀ ds s', m s = some (ds, s') → ∀ Q : List (V × V) → Hp → Prop,
  (∀ vs H', R K c O s' σ H' → Ex (hide (Own W σ) H) (hide (Own W σ) H') → RpAll K (hide (c.msk L σ) H') vs ds → ds.length = ks.length → Q ((ks.map V.str).zip vs) H') → tPairs trs σ H Q
def TrPs (Γ : G) (O L W : List Nat) (pos : Pos) (keys : List (Option Expr)) (values : List Expr) (ks : List Str) (m : MF) : Prop := ∃ trs, (∀ X, InG Γ X → PPs X pos keys values trs) ∧ SimPs Γ.K O L W trs ks m
section
variable {Γ : G} {O L L0 W : List Nat} {e : Expr} {keys : List (Option Expr)} {values : List Expr} {m : ME} {ms : MF} {pos dpos kpos : Pos} {ks : List Str}
theorem tp_nil : TrPs Γ O L W dpos [] [] [] xaNil := ⟨[], fun _ _ => pps_nil, fun c σ H s r ds s' e Q k => by cases e; exact k [] H r (Ex.refl _) .nil rfl⟩
theorem tp_cons {z : Str} {j : Nat} (h : TrE Γ O L W e m) (hs : TrPs Γ O L W dpos keys values ks ms) (hW : ∀ j ∈ W, j ∈ L) : TrPs Γ O L W dpos (some (.Constant (.str z) j kpos) :: keys) (e :: values) (z :: ks) (xaCons m ms) := by
  obtain ⟨t, p, q⟩ := h
  obtain ⟨trs, ps, qs⟩ := hs
  refine ⟨(tC (.str z), t) :: trs, fun X h => pps_cons pe_str (p X h) (ps X h), fun c σ H s r ds s' e Q k => ?_⟩
  obtain ⟨d, s1, es, e1, e2, rfl⟩ := xaCons_of e
  show t σ H _
  refine q c σ H s r _ _ e1 _ fun v H1 r1 x1 d1 => qs c σ H1 s1 r1 _ _ e2 _ fun vs H2 r2 x2 d2 hl => ?_
  exact k (v :: vs) H2 r2 (x1.trans x2) (.cons (dp_ex (keep hW x2) d1) d2) (by rw [List.length_cons, List.length_cons, hl])
def xDGet (ks : List Str) (m : MF) (e : ME) : ME := fun s => (m s).bind fun p => (e p.2).bind fun q => match q.1 with
  | .str z => (findK ks p.1 z).map fun d => (d, q.2)
  | _ => none
theorem zip_keys : ∀ (ks : List Str) (vs : List V), (ks.map V.str).zip vs = (pairsK ks vs).map fun kv => (kV kv.1, kv.2)
  | [], _ => rfl
  | _ :: _, [] => rfl
  | k :: ks, v :: vs => by
    show (V.str k, v) :: (ks.map V.str).zip vs = _
    rw [zip_keys ks vs]; rfl
theorem tr_dget {b : Expr} {mb : ME} (hu : Γ.A.units + 64 < cLine) (hv : TrPs Γ O L W dpos keys values ks ms) (hb : TrE Γ O L0 W b mb) (hW : ∀ j ∈ W, j ∈ L) (hO : ∀ j ∈ W, j ∈ O) (hn : ks.Nodup := by decide) (hall : keys.all (·.isSome) = true := by rfl) (hl : keys.length = values.length := by rfl) (h0 : keys ≠ [] := by intro h; cases h)
    (h15 : keys.length ≤ 15 := by decide) (k15 : ks.length ≤ 15 := by decide) (hs : NoSl b := by exact fun _ _ => rfl) : TrE Γ O L W (.Subscript (.Dict keys values dpos) b pos) (xDGet ks ms mb) := by
  obtain ⟨trs, p, q⟩ := hv
  obtain ⟨tb, pb, qb⟩ := hb
  refine ⟨tDGet (tDisp trs) tb, fun X h => ?_, fun c σ H s r d s' e Q k => ?_⟩
  · exact pe_dget (by rw [h.A]; omega) (pe_disp (p X h) hall hl h0 h15) (pb X h) hs
  · have e0 : ∃ ds s1 z, ms s = some (ds, s1) ∧ mb s1 = some (.str z, s') ∧ findK ks ds z = some d := by
      unfold xDGet at e
      obtain ⟨p1, a1, a2⟩ := bind_of e
      obtain ⟨p2, b1, b2⟩ := bind_of a2
      obtain ⟨d2, s2⟩ := p2
      cases d2 <;> first | (cases b2; done) | skip
      obtain ⟨d3, c1, c2⟩ := mapNx_of b2
      cases c2
      exact ⟨_, _, _, a1, b1, c1⟩
    obtain ⟨ds, s1, z, e1, e2, e3⟩ := e0
    intro a ha
    refine q c σ _ s (r.ex (ex_upd ha)) _ _ e1 _ fun vs H2 r2 x2 d2 hl2 => ?_
    have pa0 : (upd H a (.dK [])) a = some (.dK []) := upd_same
    have no0 : ¬ Own O σ a := r.notOwn ha
    have no1 : ¬ Own W σ a := fun z => no0 (own_sub hO a z)
    have pa : H2 a = some (.dK []) := (of_hide (x2 _ _ (hide_of no1 pa0))).2
    refine ⟨pa, pairsK ks vs, zip_keys ks vs, ?_, ?_⟩
    · unfold pairsK
      rw [List.length_map, List.length_zip]
      exact Nat.le_trans (Nat.min_le_left _ _) k15
    rw [merge_pairs ks vs [] hn (fun _ _ _ h => absurd h (by simp)), List.nil_append]
    refine qb c σ _ s1 (r2.dk pa no0) _ _ e2 _ fun v H3 r3 x3 d3 => ?_
    cases d3
    obtain ⟨v', f1, f2⟩ := findK_val d2 e3
    have pb0 : (upd H2 a (.dK (pairsK ks vs))) a = some (.dK (pairsK ks vs)) := upd_same
    have no2 : ¬ Own W σ a := no1
    have pc : H3 a = some (.dK (pairsK ks vs)) := (of_hide (x3 _ _ (hide_of no2 pb0))).2
    refine ⟨a, v', rfl, ?_, k v' H3 r3 ?_ (dp_ex (keep hW x3) (rp_dk pa f2))⟩
    · have := DGet.k (k := (.inr z : Key)) pc
      rw [f1] at this
      exact this
    · intro b o hb
      obtain ⟨n1, hb⟩ := of_hide hb
      have hne : b ≠ a := ne_of_none hb ha
      have b1 := x2 b o (hide_of n1 (by rw [upd_ne hne]; exact hb))
      obtain ⟨_, b1⟩ := of_hide b1
      exact x3 b o (hide_of n1 (by rw [upd_ne hne]; exact b1))
end
end Z


namespace Z
open PySem PySem.Spec PyProof.Rows L2
/-! ## operators by name -/
section
variable {Γ : G}
theorem u64 {k : Nat} {A : Around} (hr : Room k A) : A.units + 64 < cLine := by have := hr.un; omega
theorem ho_add : ∀ X, InG Γ X → OpR X (binaryOp .Add) rAddA := fun _ _ => op_addA
theorem ho_sub : ∀ X, InG Γ X → OpR X (binaryOp .Sub) (rI0 fun i j => .int (i - j)) := fun _ _ => op_sub
theorem ho_mul : ∀ X, InG Γ X → OpR X (binaryOp .Mult) (rI CMul fun i j => .int (i * j)) := fun _ _ => op_mul
theorem ho_mod : ∀ X, InG Γ X → OpR X (binaryOp .Mod) (rI (fun _ j => 0 < j) fun i j => .int (i % j)) := fun _ _ => op_mod
theorem ho_div : ∀ X, InG Γ X → OpR X (binaryOp .FloorDiv) (rI CDiv fun i j => .int (i / j)) := fun _ _ => op_fdiv
theorem ho_pow : ∀ X, InG Γ X → OpR X (binaryOp .Pow) (rI CPow fun i j => .int (i ^ j.toNat)) := fun _ _ => op_pow
theorem ho_lt : ∀ X, InG Γ X → OpR X (compareOp .Lt) (rI0 fun i j => .bl (decide (i < j))) := fun _ _ => op_lt
theorem ho_le : ∀ X, InG Γ X → OpR X (compareOp .LtE) (rI0 fun i j => .bl (decide (i ≤ j))) := fun _ _ => op_le
theorem ho_gt : ∀ X, InG Γ X → OpR X (compareOp .Gt) (rI0 fun i j => .bl (decide (i > j))) := fun _ _ => op_gt
theorem ho_ge : ∀ X, InG Γ X → OpR X (compareOp .GtE) (rI0 fun i j => .bl (decide (i ≥ j))) := fun _ _ => op_ge
theorem ho_eq (hu : Γ.A.units + 64 < cLine) : ∀ X, InG Γ X → OpR X (compareOp .Eq) (rEqD Γ.K) := fun X h => by rw [← h.K]; exact op_eqD (by rw [h.A]; exact hu)
theorem ho_ne (hu : Γ.A.units + 64 < cLine) : ∀ X, InG Γ X → OpR X (compareOp .NotEq) (rNeD Γ.K) := fun X h => by rw [← h.K]; exact op_neD (by rw [h.A]; exact hu)
theorem ho_in : ∀ X, InG Γ X → OpR X (compareOp .In) (rIn Γ.K false) := fun X h => by rw [← h.K]; exact op_in_seq
theorem ho_nin : ∀ X, InG Γ X → OpR X (compareOp .NotIn) (rIn Γ.K true) := fun X h => by rw [← h.K]; exact op_notIn_seq
end
def dAddI : D → D → Option D
  | .int a, .int b => some (.int (a + b))
  | _, _ => none
theorem rs_addI {K : PySem.W.Frag} : RS K (rI0 fun i j => .int (i + j)) dAddI := fun H x y dx dy dz hx hy e Q q => by
  cases dx <;> first | (cases e; done) | skip
  cases dy <;> first | (cases e; done) | skip
  cases e; cases hx; cases hy
  exact ⟨_, _, rfl, rfl, q _ fun _ => .int _⟩
section
variable {Γ : G}
theorem ho_iadd : ∀ X, InG Γ X → OpR X (inplaceOp .Add) (rI0 fun i j => .int (i + j)) := fun _ _ => iop_add
theorem ho_isub : ∀ X, InG Γ X → OpR X (inplaceOp .Sub) (rI0 fun i j => .int (i - j)) := fun _ _ => iop_sub
theorem ho_imul : ∀ X, InG Γ X → OpR X (inplaceOp .Mult) (rI CMul fun i j => .int (i * j)) := fun _ _ => iop_mul
theorem ho_imod : ∀ X, InG Γ X → OpR X (inplaceOp .Mod) (rI (fun _ j => 0 < j) fun i j => .int (i % j)) := fun _ _ => iop_mod
theorem ho_idiv : ∀ X, InG Γ X → OpR X (inplaceOp .FloorDiv) (rI CDiv fun i j => .int (i / j)) := fun _ _ => iop_fdiv
end
def dNeg : D → Option D
  | .int i => some (.int (-i))
  | _ => none
section
variable {Γ : G} {O L L0 W : List Nat} {a : Expr} {ma : ME} {pos : Pos}
theorem tr_neg (ha : TrE Γ O L0 W a ma) : TrE Γ O L W (.UnaryOp .USub a pos) (xUn dNeg ma) := by
  obtain ⟨t, p, q⟩ := ha
  refine ⟨tUn (rU fun i => .int (-i)) t, fun X h => pe_un un_neg (p X h), fun c σ H s r d s' e Q k => ?_⟩
  obtain ⟨x, e1, e2⟩ := xUn_of e
  refine q c σ H s r _ _ e1 _ fun v H1 r1 x1 d1 => ?_
  cases x <;> first | (cases e2; done) | skip
  cases e2
  cases d1
  exact ⟨_, rfl, k _ H1 r1 x1 (.int _)⟩
end
end Z


namespace Z
open PySem PySem.Spec PyProof.Rows L2
/-! ## the head's facts as the layer takes them -/
def dvD : He.Dv → Option D
  | .non => some .none
  | .bl b => some (.bool b)
  | .int i => some (.int i)
  | .str x => some (.str x)
  | _ => none
def dvK : List (Str × He.Dv) → Str → Option D
  | [], _ => none
  | q :: r, z => if q.1 = z then dvD q.2 else dvK r z
theorem dvD_rp {K : PySem.W.Frag} {v : He.Dv} {d : D} (h : dvD v = some d) (M : Hp) : Rp K M (v.v K) d := by
  cases v <;> cases h
  · exact .non
  · exact .bl _
  · exact .int _
  · exact .str _
theorem dvK_mem : ∀ {kvs : List (Str × He.Dv)} {z : Str} {d : D}, dvK kvs z = some d → ∃ q ∈ kvs, q.1 = z ∧ dvD q.2 = some d
  | [], _, _, h => by cases h
  | q :: r, z, d, h => by
    unfold dvK at h
    split at h
    · exact ⟨q, List.mem_cons_self, ‹_›, h⟩
    · obtain ⟨q', h1, h2⟩ := dvK_mem h
      exact ⟨q', List.mem_cons_of_mem _ h1, h2⟩
def dvL : List He.Dv → Option (List D)
  | [] => some []
  | v :: r => (dvD v).bind fun d => (dvL r).map fun ds => d :: ds
theorem dvL_rp {K : PySem.W.Frag} (M : Hp) : ∀ {vs : List He.Dv} {ds : List D}, dvL vs = some ds → RpAll K M (vs.map (He.Dv.v K)) ds
  | [], _, h => by cases h; exact .nil
  | v :: r, ds, h => by
    unfold dvL at h
    obtain ⟨d, e1, e2⟩ := bind_of h
    obtain ⟨es, e3, e4⟩ := mapNx_of e2
    cases e4
    exact .cons (dvD_rp e1 M) (dvL_rp M e3)
section
variable {K : PySem.W.Frag} {w : World} {h : Heap} {mg : Str → Option Value} {x : Str}
theorem kdm_of {a : Addr} {kvs : List (Str × He.Dv)} (D : ∃ es n, KDict K w a es n) (hv : He.valsB K a kvs = true) : KDm K w a (dvK kvs) := fun z d e => by
  obtain ⟨es, n, D⟩ := D
  obtain ⟨q, h1, h2, h3⟩ := dvK_mem e
  obtain ⟨u, e1, e2⟩ := He.valsB_ok hv h1
  rw [h2] at e1
  exact ⟨_, ⟨es, n, u, D.at_, D.lit, e1, e2⟩, dvD_rp h3⟩
theorem gc_int (X : K.In h) (G : h.Ns mainGlobals mg) {i : Int} (c : (He.Fa.int x i).ok K = true) : ∃ u v, mg x = some u ∧ RelV v u ∧ ∀ M, Rp K M v (.int i) := by
  obtain ⟨t, e⟩ := He.int_ok X G c
  exact ⟨_, .int i, e, ⟨t, rfl⟩, fun M => .int i⟩
theorem gc_str (X : K.In h) (G : h.Ns mainGlobals mg) {z : Str} (c : (He.Fa.str x z).ok K = true) : ∃ u v, mg x = some u ∧ RelV v u ∧ ∀ M, Rp K M v (.str z) := by
  obtain ⟨t, e⟩ := He.str_ok X G c
  exact ⟨_, .str z, e, ⟨t, rfl⟩, fun M => .str z⟩
theorem gc_lst (X : K.In h) (G : h.Ns mainGlobals mg) (c : (He.Fa.glo x).ok K = true) {vs : List He.Dv} {ds : List D} (hl : He.lstB K x vs = true) (e : dvL vs = some ds) : ∃ u v, mg x = some u ∧ RelV v u ∧ ∀ M, Rp K M v (.list ds) :=
  ⟨_, .ref (He.ga K x), He.glo_ok X G c, rfl, fun M => .lst (He.lstB_ok hl M) (dvL_rp M e)⟩
theorem gc_tup (X : K.In h) (G : h.Ns mainGlobals mg) (c : (He.Fa.glo x).ok K = true) {vs : List He.Dv} {ds : List D} (hl : He.tupB K x vs = true) (e : dvL vs = some ds) : ∃ u v, mg x = some u ∧ RelV v u ∧ ∀ M, Rp K M v (.tuple ds) :=
  ⟨_, .ref (He.ga K x), He.glo_ok X G c, rfl, fun M => .tup (He.tupB_ok hl M) (dvL_rp M e)⟩
end
theorem fnAtD {P : Program} {w : World} {K : PySem.W.Frag} {mg : Str → Option Value} {base : Heap} {k : Nat} {x : Str} {st : Stmt} {f : Addr} {fd : FuncData} {ps : List Str} {sp : Sp} (F : FnP K x x st f fd) (G : FnOk P w K mg base CX0 k f fd ps sp) (hm : mg x = some (.ref f))
    (h : ∀ (kV doc pm : Value) (an : Option Addr) (cdv ct : Value) (us : List Value), us.length = ps.length → bindArgs (PySem.W.fnOf x x (defArgs st) (defBody st) (defScope st) .none kV doc pm an cdv ct) ⟨us, []⟩ = pure (ps.zip us)) : FnAt P w K mg base k x ps sp :=
  ⟨f, fd, G, hm, F.kp, F.bindsN h⟩
def defD (x : Str) (st : Stmt) : He.DefD := ⟨(x, none), x, x, defArgs st, defBody st, defScope st, [], []⟩
def anyMem (x : Str) (xs : List Str) : Bool := xs.any (· == x)
end Z


namespace Z
open PySem PySem.Spec PyProof.Rows L2
/-! ## mirrors, run: one row a combinator; what follows is held back in a word of its own until the first part is told -/
def bE {α β : Type} (o : Option (α × MS)) (k : α → MS → Option β) : Option β := o.bind fun p => k p.1 p.2
@[simp] theorem bE_some {α β : Type} (x : α) (s : MS) (k : α → MS → Option β) : bE (some (x, s)) k = k x s := by
  unfold bE; rw [Option.bind_some]
@[simp] theorem bE_none {α β : Type} (k : α → MS → Option β) : bE (none : Option (α × MS)) k = none := rfl
def ret1 {α : Type} (o : Option α) (s : MS) : Option (α × MS) := o.map fun z => (z, s)
@[simp] theorem ret1_some {α : Type} (x : α) (s : MS) : ret1 (some x) s = some (x, s) := rfl
@[simp] theorem ret1_none {α : Type} (s : MS) : ret1 (none : Option α) s = none := rfl
section
variable (f : D → D → Option D) (g : D → Option D) (h : List D → Option D) (hl : List D → Option (List D)) (a b : ME) (as bs : MF) (t u : MT) (m n : MM) (i j : Nat) (s : MS) (x y : D) (xs ys : List D) (p : Bool)
@[simp] theorem nd_none : nd none = none := rfl
@[simp] theorem nd_non : nd (some PyData.none) = some .none := rfl
@[simp] theorem nd_b (b : Bool) : nd (some (.bool b)) = some (.bool b) := rfl
@[simp] theorem nd_i (n : Int) : nd (some (.int n)) = some (.int n) := rfl
@[simp] theorem nd_s (z : Str) : nd (some (.str z)) = some (.str z) := rfl
@[simp] theorem nd_l (xs : List D) : nd (some (.list xs)) = some (.list xs) := rfl
@[simp] theorem nd_t (xs : List D) : nd (some (.tuple xs)) = some (.tuple xs) := rfl
@[simp] theorem lsO_l (xs : List D) : lsO (some (.list xs)) = true := rfl
@[simp] theorem xVar_ap : xVar i s = ret1 (nd (s.getD i none)) s := rfl
@[simp] theorem xC_ap : xC x s = some (x, s) := rfl
def kOp1 : D → MS → Option (D × MS) := fun x s => bE (b s) fun y s => ret1 (f x y) s
def kOp2 : D → MS → Option (D × MS) := fun y s => ret1 (f x y) s
@[simp] theorem xOp_ap : xOp f a b s = bE (a s) (kOp1 f b) := rfl
@[simp] theorem kOp1_ap : kOp1 f b x s = bE (b s) (kOp2 f x) := rfl
@[simp] theorem kOp2_ap : kOp2 f x y s = ret1 (f x y) s := rfl
def kUn : D → MS → Option (D × MS) := fun x s => ret1 (g x) s
@[simp] theorem xUn_ap : xUn g a s = bE (a s) (kUn g) := rfl
@[simp] theorem kUn_ap : kUn g x s = ret1 (g x) s := rfl
@[simp] theorem xaNil_ap : xaNil s = some ([], s) := rfl
def kC1 : D → MS → Option (List D × MS) := fun x s => (bs s).map fun q => (x :: q.1, q.2)
def kC2 : List D → MS → Option (List D × MS) := fun ys s => some (x :: ys, s)
@[simp] theorem xaCons_ap : xaCons a bs s = bE (a s) (kC1 bs) := rfl
@[simp] theorem kC1_ap : kC1 bs x s = bE (bs s) (kC2 x) := by
  show (bs s).map _ = _
  cases bs s <;> rfl
@[simp] theorem kC2_ap : kC2 x ys s = some (x :: ys, s) := rfl
def kFn : List D → MS → Option (D × MS) := fun xs s => ret1 (h xs) s
@[simp] theorem xFn_ap : xFn h as s = bE (as s) (kFn h) := rfl
@[simp] theorem kFn_ap : kFn h xs s = ret1 (h xs) s := rfl
def kfFn : List D → MS → Option (List D × MS) := fun xs s => ret1 (hl xs) s
@[simp] theorem xfFn_ap : xfFn hl as s = bE (as s) (kfFn hl) := rfl
@[simp] theorem xfMap_ap : xfMap hl as s = bE (as s) (kfFn hl) := rfl
@[simp] theorem kfFn_ap : kfFn hl xs s = ret1 (hl xs) s := rfl
def kLst : List D → MS → Option (D × MS) := fun xs s => some (.list xs, s)
@[simp] theorem xLst_ap : xLst as s = bE (as s) kLst := by
  show (as s).map _ = _
  cases as s <;> rfl
@[simp] theorem kLst_ap : kLst xs s = some (.list xs, s) := rfl
def kTup : List D → MS → Option (D × MS) := fun xs s => if xs.length ≤ 1000 then some (.tuple xs, s) else none
@[simp] theorem xTup_ap : xTup as s = bE (as s) kTup := rfl
@[simp] theorem kTup_ap : kTup xs s = if xs.length ≤ 1000 then some (.tuple xs, s) else none := rfl
def kT : D → MS → Option (Bool × MS) := fun x s => match x with
  | .bool b => some (b, s)
  | _ => none
@[simp] theorem xT_ap : xT a s = bE (a s) kT := rfl
@[simp] theorem kT_ap : kT (.bool p) s = some (p, s) := rfl
def kB : Bool → MS → Option (D × MS) := fun p s => some (.bool p, s)
@[simp] theorem xB_ap : xB t s = bE (t s) kB := by
  show (t s).map _ = _
  cases t s <;> rfl
@[simp] theorem kB_ap : kB p s = some (.bool p, s) := rfl
def kAnd : Bool → MS → Option (Bool × MS) := fun p s => if p = true then u s else some (false, s)
def kOr : Bool → MS → Option (Bool × MS) := fun p s => if p = true then some (true, s) else u s
@[simp] theorem xAnd_ap : xAnd t u s = bE (t s) (kAnd u) := rfl
@[simp] theorem xOr_ap : xOr t u s = bE (t s) (kOr u) := rfl
@[simp] theorem kAnd_t : kAnd u true s = u s := rfl
@[simp] theorem kAnd_f : kAnd u false s = some (false, s) := rfl
@[simp] theorem kOr_t : kOr u true s = some (true, s) := rfl
@[simp] theorem kOr_f : kOr u false s = u s := rfl
def kNot : Bool → MS → Option (Bool × MS) := fun p s => some (!p, s)
@[simp] theorem xNot_ap : xNot t s = bE (t s) kNot := by
  show (t s).map _ = _
  cases t s <;> rfl
@[simp] theorem kNot_ap : kNot p s = some (!p, s) := rfl
def kIf : Bool → MS → Option (D × MS) := fun p s => if p = true then a s else b s
@[simp] theorem xIf_ap : xIf t a b s = bE (t s) (kIf a b) := rfl
@[simp] theorem kIf_t : kIf a b true s = a s := rfl
@[simp] theorem kIf_f : kIf a b false s = b s := rfl
def kSeq : D → MS → Option (List D × MS) := fun x s => ret1 (seqOf x) s
@[simp] theorem xSeq_ap : xSeq a s = bE (a s) kSeq := rfl
@[simp] theorem kSeq_ap : kSeq x s = ret1 (seqOf x) s := rfl
@[simp] theorem seqOf_l : seqOf (.list xs) = some xs := rfl
@[simp] theorem seqOf_t : seqOf (.tuple xs) = some xs := rfl
def ownO : Option D → Option (List D)
  | some (.list ds) => some ds
  | _ => none
@[simp] theorem ownO_l : ownO (some (.list xs)) = some xs := rfl
@[simp] theorem xOwn_ap : xOwn i s = ret1 (ownO (s.getD i none)) s := by
  unfold xOwn ret1 ownO
  cases s.getD i none with
  | none => rfl
  | some d => cases d <;> rfl
def kIxOwn (i : Nat) : D → MS → Option (D × MS) := fun k s => match k, s.getD i none with
  | .int k, some (.list ds) => (atI ds k).map fun z => (z, s)
  | _, _ => none
@[simp] theorem xIxOwn_ap : xIxOwn i b s = bE (b s) (kIxOwn i) := rfl
def ixL (k : Int) : Option D → Option D
  | some (.list ds) => atI ds k
  | _ => none
@[simp] theorem ixL_l (k : Int) : ixL k (some (.list xs)) = atI xs k := rfl
@[simp] theorem kIxOwn_ap (k : Int) : kIxOwn i (.int k) s = ret1 (ixL k (s.getD i none)) s := by
  unfold kIxOwn ret1 ixL
  cases s.getD i none with
  | none => rfl
  | some d => cases d <;> rfl
def kList : D → MS → Option (List D × MS) := fun x s => match x with
  | .list ds => some (ds, s)
  | _ => none
@[simp] theorem xList_ap : xList a s = bE (a s) kList := rfl
@[simp] theorem kList_ap : kList (.list xs) s = some (xs, s) := rfl
def kDisp : List D → MS → Option (List D × MS) := fun xs s => if xs.length ≤ 1000 then some (xs, s) else none
@[simp] theorem xDisp_ap : xDisp as s = bE (as s) kDisp := rfl
@[simp] theorem kDisp_ap : kDisp xs s = if xs.length ≤ 1000 then some (xs, s) else none := rfl
def kCat1 : List D → MS → Option (List D × MS) := fun xs s => (bs s).bind fun q => if xs.length + q.1.length ≤ 1000000 then some (xs ++ q.1, q.2) else none
def kCat2 : List D → MS → Option (List D × MS) := fun ys s => if xs.length + ys.length ≤ 1000000 then some (xs ++ ys, s) else none
@[simp] theorem xCat_ap : xCat as bs s = bE (as s) (kCat1 bs) := rfl
@[simp] theorem kCat1_ap : kCat1 bs xs s = bE (bs s) (kCat2 xs) := rfl
@[simp] theorem kCat2_ap : kCat2 xs ys s = if xs.length + ys.length ≤ 1000000 then some (xs ++ ys, s) else none := rfl
def kRg1 : D → MS → Option (List D × MS) := fun x s => match x with
  | .int n => if n ≤ 1000000 ∧ -1000000 ≤ n then some (dRg 0 n, s) else none
  | _ => none
@[simp] theorem xRg1_ap : xRg1 a s = bE (a s) kRg1 := rfl
@[simp] theorem kRg1_ap (n : Int) : kRg1 (.int n) s = if n ≤ 1000000 ∧ -1000000 ≤ n then some (dRg 0 n, s) else none := rfl
def kRg21 : D → MS → Option (List D × MS) := fun x s => (b s).bind fun q => match x, q.1 with
  | .int x, .int n => if (n ≤ 1000000 ∧ -1000000 ≤ n) ∧ (x ≤ 1000000 ∧ -1000000 ≤ x) then some (dRg x n, q.2) else none
  | _, _ => none
def kRg22 : D → MS → Option (List D × MS) := fun y s => match x, y with
  | .int x, .int n => if (n ≤ 1000000 ∧ -1000000 ≤ n) ∧ (x ≤ 1000000 ∧ -1000000 ≤ x) then some (dRg x n, s) else none
  | _, _ => none
@[simp] theorem xRg2_ap : xRg2 a b s = bE (a s) (kRg21 b) := rfl
@[simp] theorem kRg21_ap : kRg21 b x s = bE (b s) (kRg22 x) := rfl
@[simp] theorem kRg22_ap (x n : Int) : kRg22 (.int x) (.int n) s = if (n ≤ 1000000 ∧ -1000000 ≤ n) ∧ (x ≤ 1000000 ∧ -1000000 ≤ x) then some (dRg x n, s) else none := rfl
@[simp] theorem xoNone_ap : xoNone s = some (none, s) := rfl
def kSm : D → MS → Option (Option Int × MS) := fun x s => match x with
  | .int n => some (some n, s)
  | _ => none
@[simp] theorem xoSome_ap : xoSome a s = bE (a s) kSm := rfl
@[simp] theorem kSm_ap (n : Int) : kSm (.int n) s = some (some n, s) := rfl
def kSl1 (f : List D → Option Int → Option Int → List D) (l h : MS → Option (Option Int × MS)) : List D → MS → Option (List D × MS) := fun xs s => (l s).bind fun q => (h q.2).map fun w => (f xs q.1 w.1, w.2)
def kSl2 (f : List D → Option Int → Option Int → List D) (h : MS → Option (Option Int × MS)) (xs : List D) : Option Int → MS → Option (List D × MS) := fun o s => (h s).map fun w => (f xs o w.1, w.2)
def kSl3 (f : List D → Option Int → Option Int → List D) (xs : List D) (o : Option Int) : Option Int → MS → Option (List D × MS) := fun o2 s => some (f xs o o2, s)
@[simp] theorem xSl_ap (f : List D → Option Int → Option Int → List D) (l h : MS → Option (Option Int × MS)) : xSl f as l h s = bE (as s) (kSl1 f l h) := rfl
@[simp] theorem kSl1_ap (f : List D → Option Int → Option Int → List D) (l h : MS → Option (Option Int × MS)) : kSl1 f l h xs s = bE (l s) (kSl2 f h xs) := rfl
@[simp] theorem kSl2_ap (f : List D → Option Int → Option Int → List D) (h : MS → Option (Option Int × MS)) (o : Option Int) : kSl2 f h xs o s = bE (h s) (kSl3 f xs o) := by
  show (h s).map _ = _
  cases h s <;> rfl
@[simp] theorem kSl3_ap (f : List D → Option Int → Option Int → List D) (o o2 : Option Int) : kSl3 f xs o o2 s = some (f xs o o2, s) := rfl
def kSs1 (l h : MS → Option (Option Int × MS)) : D → MS → Option (D × MS) := fun x s => (l s).bind fun q => (h q.2).bind fun w => match x with
  | .str z => if z.length ≤ 1000000 then some (.str (cutS z q.1 w.1), w.2) else none
  | _ => none
def kSs2 (h : MS → Option (Option Int × MS)) (x : D) : Option Int → MS → Option (D × MS) := fun o s => (h s).bind fun w => match x with
  | .str z => if z.length ≤ 1000000 then some (.str (cutS z o w.1), w.2) else none
  | _ => none
def kSs3 (x : D) (o : Option Int) : Option Int → MS → Option (D × MS) := fun o2 s => match x with
  | .str z => if z.length ≤ 1000000 then some (.str (cutS z o o2), s) else none
  | _ => none
@[simp] theorem xSlS_ap (l h : MS → Option (Option Int × MS)) : xSlS a l h s = bE (a s) (kSs1 l h) := rfl
@[simp] theorem kSs1_ap (l h : MS → Option (Option Int × MS)) : kSs1 l h x s = bE (l s) (kSs2 h x) := rfl
@[simp] theorem kSs2_ap (h : MS → Option (Option Int × MS)) (o : Option Int) : kSs2 h x o s = bE (h s) (kSs3 x o) := rfl
@[simp] theorem kSs3_ap (z : Str) (o o2 : Option Int) : kSs3 (.str z) o o2 s = if z.length ≤ 1000000 then some (.str (cutS z o o2), s) else none := rfl
def kMt1 (f : D → List D → Option D) : D → MS → Option (D × MS) := fun x s => (as s).bind fun q => (f x q.1).map fun z => (z, q.2)
def kMt2 (f : D → List D → Option D) (x : D) : List D → MS → Option (D × MS) := fun xs s => ret1 (f x xs) s
@[simp] theorem xMt_ap (f : D → List D → Option D) : xMt f a as s = bE (a s) (kMt1 as f) := rfl
@[simp] theorem kMt1_ap (f : D → List D → Option D) : kMt1 as f x s = bE (as s) (kMt2 f x) := rfl
@[simp] theorem kMt2_ap (f : D → List D → Option D) : kMt2 f x xs s = ret1 (f x xs) s := rfl
def kfMt1 (f : D → List D → Option (List D)) : D → MS → Option (List D × MS) := fun x s => (as s).bind fun q => (f x q.1).map fun z => (z, q.2)
def kfMt2 (f : D → List D → Option (List D)) (x : D) : List D → MS → Option (List D × MS) := fun xs s => ret1 (f x xs) s
@[simp] theorem xfMt_ap (f : D → List D → Option (List D)) : xfMt f a as s = bE (a s) (kfMt1 as f) := rfl
@[simp] theorem kfMt1_ap (f : D → List D → Option (List D)) : kfMt1 as f x s = bE (as s) (kfMt2 f x) := rfl
@[simp] theorem kfMt2_ap (f : D → List D → Option (List D)) : kfMt2 f x xs s = ret1 (f x xs) s := rfl
def kTru : D → MS → Option (Bool × MS) := fun x s => ret1 (dTru x) s
@[simp] theorem xTru_ap : xTru a s = bE (a s) kTru := rfl
@[simp] theorem kTru_ap : kTru x s = ret1 (dTru x) s := rfl
def kAndV : Bool → MS → Option (D × MS) := fun p s => if p = true then b s else some (.bool false, s)
def kOrV : Bool → MS → Option (D × MS) := fun p s => if p = true then some (.bool true, s) else b s
@[simp] theorem xAndV_ap : xAndV t b s = bE (t s) (kAndV b) := rfl
@[simp] theorem xOrV_ap : xOrV t b s = bE (t s) (kOrV b) := rfl
@[simp] theorem kAndV_t : kAndV b true s = b s := rfl
@[simp] theorem kAndV_f : kAndV b false s = some (.bool false, s) := rfl
@[simp] theorem kOrV_t : kOrV b true s = some (.bool true, s) := rfl
@[simp] theorem kOrV_f : kOrV b false s = b s := rfl
def kCT (i : Nat) (f : List D → List D → Option (D × List D)) : List D → MS → Option (D × MS) := fun xs s => match s.getD i none with
  | some (.list fs) => (f fs xs).map fun q => (q.1, s.set i (some (.list q.2)))
  | _ => none
@[simp] theorem xCallT_ap (f : List D → List D → Option (D × List D)) : xCallT i f as s = bE (as s) (kCT i f) := rfl
def ctO (f : List D → List D → Option (D × List D)) (xs : List D) : Option D → Option (D × List D)
  | some (.list fs) => f fs xs
  | _ => none
@[simp] theorem ctO_l (f : List D → List D → Option (D × List D)) : ctO f xs (some (.list ys)) = f ys xs := rfl
def retT (i : Nat) (o : Option (D × List D)) (s : MS) : Option (D × MS) := o.map fun q => (q.1, s.set i (some (.list q.2)))
@[simp] theorem retT_some : retT i (some (x, xs)) s = some (x, s.set i (some (.list xs))) := rfl
@[simp] theorem kCT_ap (f : List D → List D → Option (D × List D)) : kCT i f xs s = retT i (ctO f xs (s.getD i none)) s := by
  unfold kCT ctO retT
  cases s.getD i none with
  | none => rfl
  | some d => cases d <;> rfl
def kEnum : List D → MS → Option (List D × MS) := fun xs s => some (xs.mapIdx fun i d => .tuple [.int (i : Nat), d], s)
@[simp] theorem xEnum_ap : xEnum as s = bE (as s) kEnum := by
  show (as s).map _ = _
  cases as s <;> rfl
@[simp] theorem kEnum_ap : kEnum xs s = some (xs.mapIdx fun i d => .tuple [.int (i : Nat), d], s) := rfl
def kZip1 : List D → MS → Option (List D × MS) := fun xs s => (bs s).map fun q => ((xs.zip q.1).map fun w => .tuple [w.1, w.2], q.2)
def kZip2 : List D → MS → Option (List D × MS) := fun ys s => some ((xs.zip ys).map fun w => .tuple [w.1, w.2], s)
@[simp] theorem xZip_ap : xZip as bs s = bE (as s) (kZip1 bs) := rfl
@[simp] theorem kZip1_ap : kZip1 bs xs s = bE (bs s) (kZip2 xs) := by
  show (bs s).map _ = _
  cases bs s <;> rfl
@[simp] theorem kZip2_ap : kZip2 xs ys s = some ((xs.zip ys).map fun w => .tuple [w.1, w.2], s) := rfl
def kSigns : D → MS → Option (List D × MS) := fun x s => match x with
  | .str z => some (z.cps.toList.map fun k => .str ⟨#[k]⟩, s)
  | _ => none
@[simp] theorem xSigns_ap : xSigns a s = bE (a s) kSigns := rfl
@[simp] theorem kSigns_ap (z : Str) : kSigns (.str z) s = some (z.cps.toList.map fun k => .str ⟨#[k]⟩, s) := rfl
@[simp] theorem bName_ap : bName i x s = some (s.set i (some x)) := rfl
@[simp] theorem bNil_ap : bNil [] s = some s := rfl
def bO (o : Option MS) (k : MS → Option MS) : Option MS := o.bind k
@[simp] theorem bO_some (k : MS → Option MS) : bO (some s) k = k s := by
  unfold bO; rw [Option.bind_some]
@[simp] theorem bCons_ap (b : D → MS → Option MS) (r : List D → MS → Option MS) : bCons b r (x :: xs) s = bO (b x s) (r xs) := rfl
@[simp] theorem bTup_ap (r : List D → MS → Option MS) : bTup i r (.tuple xs) s = if xs.length = i then r xs s else none := rfl
@[simp] theorem xYes_ap : xYes s = some (true, s) := rfl
/-! statements -/
def thenM (o : Option Out) (b : MM) : Option Out := o.bind fun o => match o with
  | .nx s' => b s'
  | o => some o
@[simp] theorem mSeq_ap : mSeq m n s = thenM (m s) n := rfl
@[simp] theorem then_nx : thenM (some (.nx s)) n = n s := by
  unfold thenM; rw [Option.bind_some]
@[simp] theorem then_rt : thenM (some (.rt x s)) n = some (.rt x s) := rfl
@[simp] theorem then_ex (x : Exn) : thenM (some (.ex x s)) n = some (.ex x s) := rfl
@[simp] theorem then_bk : thenM (some (.bk s)) n = some (.bk s) := rfl
@[simp] theorem then_ct : thenM (some (.ct s)) n = some (.ct s) := rfl
@[simp] theorem mSkip_ap : mSkip s = some (.nx s) := rfl
def kSet (i : Nat) : D → MS → Option Out := fun x s => some (.nx (s.set i (some x)))
@[simp] theorem mSet_ap : mSet i a s = bE (a s) (kSet i) := by
  show (a s).map _ = _
  cases a s <;> rfl
@[simp] theorem kSet_ap : kSet i x s = some (.nx (s.set i (some x))) := rfl
def kSetF (i : Nat) : List D → MS → Option Out := fun xs s => if i < s.length then some (.nx (s.set i (some (.list xs)))) else none
@[simp] theorem mSetF_ap : mSetF i as s = bE (as s) (kSetF i) := rfl
@[simp] theorem kSetF_ap : kSetF i xs s = if i < s.length then some (.nx (s.set i (some (.list xs)))) else none := rfl
def kAsg (b : D → MS → Option MS) : D → MS → Option Out := fun x s => (b x s).map .nx
@[simp] theorem mAsg_ap (b : D → MS → Option MS) : mAsg a b s = bE (a s) (kAsg b) := rfl
@[simp] theorem kAsg_ap (b : D → MS → Option MS) : kAsg b x s = (b x s).map .nx := rfl
def kPar (i j : Nat) : List D → MS → Option Out := fun xs s => match xs with
  | [x, y] => some (.nx ((s.set i (some x)).set j (some y)))
  | _ => none
@[simp] theorem mPar_ap : mPar i j as s = bE (as s) (kPar i j) := rfl
@[simp] theorem kPar_ap : kPar i j [x, y] s = some (.nx ((s.set i (some x)).set j (some y))) := rfl
def kIfM : Bool → MS → Option Out := fun p s => if p = true then m s else n s
@[simp] theorem mIf_ap : mIf t m n s = bE (t s) (kIfM m n) := rfl
@[simp] theorem kIfM_t : kIfM m n true s = m s := rfl
@[simp] theorem kIfM_f : kIfM m n false s = n s := rfl
def kRet : D → MS → Option Out := fun x s => some (.rt x s)
@[simp] theorem mRet_ap : mRet a s = bE (a s) kRet := by
  show (a s).map _ = _
  cases a s <;> rfl
@[simp] theorem kRet_ap : kRet x s = some (.rt x s) := rfl
def kRetF : List D → MS → Option Out := fun xs s => some (.rt (.list xs) s)
@[simp] theorem mRetF_ap : mRetF as s = bE (as s) kRetF := by
  show (as s).map _ = _
  cases as s <;> rfl
@[simp] theorem kRetF_ap : kRetF xs s = some (.rt (.list xs) s) := rfl
@[simp] theorem mRetN_ap : mRetN s = some (.rt .none s) := rfl
def kDrop : D → MS → Option Out := fun _ s => some (.nx s)
@[simp] theorem mDrop_ap : mDrop a s = bE (a s) kDrop := by
  show (a s).map _ = _
  cases a s <;> rfl
@[simp] theorem kDrop_ap : kDrop x s = some (.nx s) := rfl
@[simp] theorem mBrk_ap : mBrk s = some (.bk s) := rfl
@[simp] theorem mCt_ap : mCt s = some (.ct s) := rfl
def fgt (vs : List Nat) (o : Option Out) : Option Out := o.map fun o => match o with
  | .nx s' => .nx (wipeM s' vs)
  | o => o
@[simp] theorem mForget_ap (vs : List Nat) : mForget vs m s = fgt vs (m s) := rfl
@[simp] theorem fgt_nx (vs : List Nat) : fgt vs (some (.nx s)) = some (.nx (wipeM s vs)) := rfl
@[simp] theorem fgt_rt (vs : List Nat) : fgt vs (some (.rt x s)) = some (.rt x s) := rfl
@[simp] theorem fgt_ex (vs : List Nat) (x : Exn) : fgt vs (some (.ex x s)) = some (.ex x s) := rfl
@[simp] theorem fgt_bk (vs : List Nat) : fgt vs (some (.bk s)) = some (.bk s) := rfl
@[simp] theorem fgt_ct (vs : List Nat) : fgt vs (some (.ct s)) = some (.ct s) := rfl
@[simp] theorem wipeM_nil : wipeM s [] = s := rfl
@[simp] theorem wipeM_cons (v : Nat) (vs : List Nat) : wipeM s (v :: vs) = (wipeM s vs).set v none := rfl
@[simp] theorem unwipe_nil (s0 : MS) : unwipe s0 s [] = s := rfl
@[simp] theorem unwipe_cons (s0 : MS) (v : Nat) (vs : List Nat) : unwipe s0 s (v :: vs) = (unwipe s0 s vs).set v (s0.getD v none) := rfl
def kApp (i : Nat) : D → MS → Option Out := fun x s => match s.getD i none with
  | some (.list ds) => if ds.length ≤ 1000000 then some (.nx (s.set i (some (.list (ds ++ [x]))))) else none
  | _ => none
def appO (i : Nat) (x : D) (s : MS) : Option D → Option Out
  | some (.list ds) => if ds.length ≤ 1000000 then some (.nx (s.set i (some (.list (ds ++ [x]))))) else none
  | _ => none
@[simp] theorem mApp_ap : mApp i a s = if lsO (s.getD i none) = true then bE (a s) (kApp i) else none := rfl
@[simp] theorem kApp_ap : kApp i x s = appO i x s (s.getD i none) := by
  unfold kApp appO
  cases s.getD i none with
  | none => rfl
  | some d => cases d <;> rfl
@[simp] theorem appO_l : appO i x s (some (.list xs)) = if xs.length ≤ 1000000 then some (.nx (s.set i (some (.list (xs ++ [x]))))) else none := rfl
def kExt (i : Nat) : List D → MS → Option Out := fun ys s => match s.getD i none with
  | some (.list ds) => if ds.length + ys.length ≤ 1000000 then some (.nx (s.set i (some (.list (ds ++ ys))))) else none
  | _ => none
def extO (i : Nat) (ys : List D) (s : MS) : Option D → Option Out
  | some (.list ds) => if ds.length + ys.length ≤ 1000000 then some (.nx (s.set i (some (.list (ds ++ ys))))) else none
  | _ => none
@[simp] theorem mExt_ap : mExt i as s = if lsO (s.getD i none) = true then bE (as s) (kExt i) else none := rfl
@[simp] theorem kExt_ap : kExt i ys s = extO i ys s (s.getD i none) := by
  unfold kExt extO
  cases s.getD i none with
  | none => rfl
  | some d => cases d <;> rfl
@[simp] theorem extO_l : extO i ys s (some (.list xs)) = if xs.length + ys.length ≤ 1000000 then some (.nx (s.set i (some (.list (xs ++ ys))))) else none := rfl
def kSI1 (i : Nat) (k : ME) : D → MS → Option Out := fun x s => (k s).bind fun q => match q.1, q.2.getD i none with
  | .int n, some (.list ds) => (ixN ds.length n).map fun j => .nx (q.2.set i (some (.list (ds.set j x))))
  | _, _ => none
def siO (i : Nat) (x : D) (n : Int) (s : MS) : Option D → Option Out
  | some (.list ds) => (ixN ds.length n).map fun j => .nx (s.set i (some (.list (ds.set j x))))
  | _ => none
def kSI2 (i : Nat) (x : D) : D → MS → Option Out := fun y s => match y with
  | .int n => siO i x n s (s.getD i none)
  | _ => none
@[simp] theorem mSetIx_ap : mSetIx i a b s = bE (a s) (kSI1 i b) := rfl
@[simp] theorem kSI1_ap : kSI1 i b x s = bE (b s) (kSI2 i x) := by
  unfold kSI1 bE kSI2 siO
  cases b s with
  | none => rfl
  | some q =>
    obtain ⟨y, s⟩ := q
    simp only [Option.bind_some]
    cases y <;> cases s.getD i none <;> first | rfl | (rename_i d; cases d <;> rfl)
@[simp] theorem kSI2_ap (n : Int) : kSI2 i x (.int n) s = siO i x n s (s.getD i none) := rfl
@[simp] theorem siO_l (n : Int) : siO i x n s (some (.list xs)) = (ixN xs.length n).map fun j => .nx (s.set i (some (.list (xs.set j x)))) := rfl
def augO (f : D → D → Option D) (i : Nat) (n : Int) (v : ME) (s : MS) : Option D → Option Out
  | some (.list ds) => if 0 ≤ n then match ds[n.toNat]? with
      | some d => (v s).bind fun p => match p.2.getD i none with
        | some (.list es) => if n < es.length then (f d p.1).map fun z => .nx (p.2.set i (some (.list (es.set n.toNat z)))) else none
        | _ => none
      | none => none else none
  | _ => none
def kAI1 (f : D → D → Option D) (i : Nat) (v : ME) : D → MS → Option Out := fun y s => match y with
  | .int n => augO f i n v s (s.getD i none)
  | _ => none
@[simp] theorem mAugIx_ap : mAugIx f i a b s = bE (a s) (kAI1 f i b) := by
  unfold mAugIx bE kAI1 augO
  cases a s with
  | none => rfl
  | some q =>
    obtain ⟨y, s⟩ := q
    simp only [Option.bind_some]
    cases y <;> cases s.getD i none <;> first | rfl | (rename_i d; cases d <;> rfl)
@[simp] theorem kAI1_ap (n : Int) : kAI1 f i b (.int n) s = augO f i n b s (s.getD i none) := rfl
def augE (f : D → D → Option D) (i n : Nat) (v : ME) (s : MS) : Option D → Option Out
  | some d => (v s).bind fun p => match p.2.getD i none with
        | some (.list es) => if n < es.length then (f d p.1).map fun z => .nx (p.2.set i (some (.list (es.set n z)))) else none
        | _ => none
  | none => none
def augF (f : D → D → Option D) (i n : Nat) (d x : D) (s : MS) : Option D → Option Out
  | some (.list es) => if n < es.length then (f d x).map fun z => .nx (s.set i (some (.list (es.set n z)))) else none
  | _ => none
def kAI2 (f : D → D → Option D) (i n : Nat) (d : D) : D → MS → Option Out := fun x s => augF f i n d x s (s.getD i none)
theorem augO_nat (n : Nat) : augO f i ((n : Nat) : Int) b s (some (.list xs)) = augE f i n b s xs[n]? := by
  unfold augO augE
  simp only [Int.toNat_natCast]
  rw [if_pos (by omega)]
  cases xs[n]? with
  | none => rfl
  | some d =>
    cases b s with
    | none => rfl
    | some q =>
      simp only [Option.bind_some]
      cases q.2.getD i none with
      | none => rfl
      | some e =>
        cases e <;> try rfl
        simp only [Int.ofNat_lt]
@[simp] theorem augO_lit (n : Nat) : augO f i (no_index (OfNat.ofNat n : Int)) b s (some (.list xs)) = augE f i n b s xs[n]? := augO_nat f b i s xs n
@[simp] theorem augE_some (n : Nat) : augE f i n b s (some x) = bE (b s) (kAI2 f i n x) := by
  unfold augE bE kAI2 augF
  cases b s with
  | none => rfl
  | some q => simp only [Option.bind_some]
@[simp] theorem kAI2_ap (n : Nat) : kAI2 f i n x y s = augF f i n x y s (s.getD i none) := rfl
@[simp] theorem augF_l (n : Nat) : augF f i n x y s (some (.list xs)) = if n < xs.length then (f x y).map fun z => .nx (s.set i (some (.list (xs.set n z)))) else none := rfl
def kAug (f : D → D → Option D) (i : Nat) (d : D) : D → MS → Option Out := fun x s => (f d x).map fun z => .nx (s.set i (some z))
def augV (f : D → D → Option D) (i : Nat) (v : ME) (s : MS) : Option D → Option Out
  | some d => bE (v s) (kAug f i d)
  | none => none
@[simp] theorem mAug_ap : mAug f i a s = augV f i a s (nd (s.getD i none)) := by
  unfold mAug augV
  cases nd (s.getD i none) <;> rfl
@[simp] theorem augV_some : augV f i a s (some x) = bE (a s) (kAug f i x) := rfl
@[simp] theorem kAug_ap : kAug f i x y s = (f x y).map fun z => .nx (s.set i (some z)) := rfl
def popO (i : Nat) (n : Int) (s : MS) : Option D → Option (D × MS)
  | some (.list ds) => if (0 ≤ n ∧ n < ds.length) ∧ ds.length ≤ 1000000 then (ds[n.toNat]?).map fun d => (d, s.set i (some (.list (ds.eraseIdx n.toNat)))) else none
  | _ => none
def kPop (i : Nat) : D → MS → Option (D × MS) := fun y s => match y with
  | .int n => popO i n s (s.getD i none)
  | _ => none
@[simp] theorem xPopAt_ap : xPopAt i a s = if lsO (s.getD i none) = true then bE (a s) (kPop i) else none := by
  unfold xPopAt bE kPop popO
  split <;> try rfl
  cases a s with
  | none => rfl
  | some q =>
    obtain ⟨y, s⟩ := q
    simp only [Option.bind_some]
    cases y <;> cases s.getD i none <;> first | rfl | (rename_i d; cases d <;> rfl)
@[simp] theorem kPop_ap (n : Int) : kPop i (.int n) s = popO i n s (s.getD i none) := rfl
@[simp] theorem popO_l (n : Int) : popO i n s (some (.list xs)) = if (0 ≤ n ∧ n < xs.length) ∧ xs.length ≤ 1000000 then (xs[n.toNat]?).map fun d => (d, s.set i (some (.list (xs.eraseIdx n.toNat)))) else none := rfl
def kDG1 (ks : List Str) (e : ME) : List D → MS → Option (D × MS) := fun xs s => (e s).bind fun q => match q.1 with
  | .str z => (findK ks xs z).map fun d => (d, q.2)
  | _ => none
def kDG2 (ks : List Str) (xs : List D) : D → MS → Option (D × MS) := fun y s => match y with
  | .str z => ret1 (findK ks xs z) s
  | _ => none
@[simp] theorem xDGet_ap (ks : List Str) : xDGet ks as b s = bE (as s) (kDG1 ks b) := rfl
@[simp] theorem kDG1_ap (ks : List Str) : kDG1 ks b xs s = bE (b s) (kDG2 ks xs) := rfl
@[simp] theorem kDG2_ap (ks : List Str) (z : Str) : kDG2 ks xs (.str z) s = ret1 (findK ks xs z) s := rfl
/-! loops: their sources first -/
def kFor (b : D → MS → Option MS) (m : MM) : List D → MS → Option Out := fun xs s => forL b m xs s
theorem mFor_ap (b : D → MS → Option MS) : mFor as b m s = bE (as s) (kFor b m) := rfl
theorem kFor_ap (b : D → MS → Option MS) : kFor b m xs s = forL b m xs s := rfl
def kLc (vs : List Nat) (b : D → MS → Option MS) (t : MT) (e : ME) : List D → MS → Option (List D × MS) := fun xs s => if xs.length ≤ 1000000 then (lcL vs b t e xs (wipeM s vs)).map fun q => (q.1, unwipe s q.2 vs) else none
theorem xLc_ap (vs : List Nat) (b : D → MS → Option MS) : xLc as vs b t a s = bE (as s) (kLc vs b t a) := rfl
end
/-! ## data -/
section
variable (a b : Int) (x y : Str) (p q : Bool) (xs ys : List D)
@[simp] theorem dAdd_ii : dAdd (.int a) (.int b) = some (.int (a + b)) := rfl
theorem dAdd_ss : dAdd (.str x) (.str y) = if x.length + y.length ≤ sizeLine then some (.str (x ++ y)) else none := rfl
@[simp] theorem dAddI_ii : dAddI (.int a) (.int b) = some (.int (a + b)) := rfl
@[simp] theorem dSub_ii : dSub (.int a) (.int b) = some (.int (a - b)) := rfl
@[simp] theorem dMul_ii : dMul (.int a) (.int b) = if (-(2 ^ 64) < a ∧ a < 2 ^ 64) ∨ (-(2 ^ 64) < b ∧ b < 2 ^ 64) then some (.int (a * b)) else none := rfl
@[simp] theorem dMod_ii : dMod (.int a) (.int b) = if 0 < b then some (.int (a % b)) else none := rfl
@[simp] theorem dDiv_ii : dDiv (.int a) (.int b) = if 0 < b ∧ b < 1073741824 then some (.int (a / b)) else none := rfl
@[simp] theorem dLt_ii : dLt (.int a) (.int b) = some (.bool (decide (a < b))) := rfl
@[simp] theorem dLe_ii : dLe (.int a) (.int b) = some (.bool (decide (a ≤ b))) := rfl
@[simp] theorem dGt_ii : dGt (.int a) (.int b) = some (.bool (decide (a > b))) := rfl
@[simp] theorem dGe_ii : dGe (.int a) (.int b) = some (.bool (decide (a ≥ b))) := rfl
@[simp] theorem dNeg_i : dNeg (.int a) = some (.int (-a)) := rfl
theorem shaped_i : SeqAt.shaped (.int a) = true := by simp [SeqAt.shaped, PyData.canLay0, PyData.depth]
@[simp] theorem dEq_ii : dEq (.int a) (.int b) = some (.bool (decide (a = b))) := by
  unfold dEq
  rw [if_pos ⟨shaped_i a, shaped_i b⟩]
  simp only [PyData.eqv]
  rfl
@[simp] theorem dNe_ii : dNe (.int a) (.int b) = some (.bool (!decide (a = b))) := by
  unfold dNe
  rw [if_pos ⟨shaped_i a, shaped_i b⟩]
  simp only [PyData.eqv]
  rfl
theorem shaped_s {x : Str} (h : PyData.strOk x = true) : SeqAt.shaped (.str x) = true := by simp [SeqAt.shaped, PyData.canLay0, PyData.depth, h]
theorem dEq_ss {x y : Str} (h : PyData.strOk x = true) (h2 : PyData.strOk y = true) : dEq (.str x) (.str y) = some (.bool (decide (x = y))) := by
  unfold dEq
  rw [if_pos ⟨shaped_s h, shaped_s h2⟩]
  simp only [PyData.eqv]
  rfl
@[simp] theorem dIx_li : dIx (.list xs) (.int a) = atI xs a := rfl
@[simp] theorem dIx_ti : dIx (.tuple xs) (.int a) = atI xs a := rfl
@[simp] theorem dLen_l : dLen [.list xs] = some (.int xs.length) := rfl
@[simp] theorem dLen_t : dLen [.tuple xs] = some (.int xs.length) := rfl
@[simp] theorem dAbs_i : dAbs [.int a] = some (.int (if a < 0 then -a else a)) := rfl
@[simp] theorem dInt_i : dInt [.int a] = some (.int a) := rfl
@[simp] theorem dTru_b : dTru (.bool p) = some p := rfl
@[simp] theorem dTru_l : dTru (.list xs) = some (!xs.isEmpty) := rfl
end
theorem ixN_nat (m n : Nat) : ixN m ((n : Nat) : Int) = if n < m then some n else none := by
  unfold ixN
  rw [if_pos (by omega)]
  by_cases h : n < m
  · rw [if_pos h, if_pos (by omega), Int.toNat_natCast]
  · rw [if_neg h, if_neg (by omega)]
@[simp] theorem ixN_lit (m n : Nat) : ixN m (no_index (OfNat.ofNat n : Int)) = if n < m then some n else none := ixN_nat m n
theorem atI_natq {α : Type} (xs : List α) (n : Nat) : atI xs ((n : Nat) : Int) = xs[n]? := by
  unfold atI
  rw [ixN_nat]
  by_cases h : n < xs.length
  · rw [if_pos h]; rfl
  · rw [if_neg h, List.getElem?_eq_none (by omega)]; rfl
@[simp] theorem atI_lit {α : Type} (xs : List α) (n : Nat) : atI xs (no_index (OfNat.ofNat n : Int)) = xs[n]? := atI_natq xs n
theorem atI_pos {α : Type} {xs : List α} {i : Int} (h0 : 0 ≤ i) (h : i < xs.length) : atI xs i = some (xs[i.toNat]'(by omega)) := by
  have e : i = ((i.toNat : Nat) : Int) := by omega
  have q := atI_natq xs i.toNat
  rw [← e] at q
  rw [q, List.getElem?_eq_getElem]
@[simp] theorem dPow_lit (a : Int) (n : Nat) : dPow (.int a) (.int (no_index (OfNat.ofNat n : Int))) = if n ≤ 1000000 ∧ a.natAbs < 2 ^ 64 then some (.int (a ^ n)) else none := by
  show (if (0 : Int) ≤ ((n : Nat) : Int) ∧ ((n : Nat) : Int) ≤ 1000000 ∧ a.natAbs < 2 ^ 64 then some (PyData.int (a ^ ((n : Nat) : Int).toNat)) else none) = _
  by_cases h : n ≤ 1000000 ∧ a.natAbs < 2 ^ 64
  · rw [if_pos h, if_pos ⟨by omega, by omega, h.2⟩, Int.toNat_natCast]
  · rw [if_neg h, if_neg fun z => h ⟨by omega, z.2.2⟩]
/-! equal data -/
mutual
theorem eqv_refl : ∀ d : D, d.canLay0 = true → PyData.eqv d d = true
  | .none, _ => by simp [PyData.eqv]
  | .bool b, _ => by simp [PyData.eqv]
  | .int i, _ => by simp [PyData.eqv]
  | .str x, _ => by simp [PyData.eqv]
  | .list xs, h => by
    rw [PyData.eqv]
    exact eqvAll_refl xs (by simpa [PyData.canLay0] using h)
  | .tuple xs, h => by
    rw [PyData.eqv]
    exact eqvAll_refl xs (by simpa [PyData.canLay0] using h)
  | .dict _, h => by simp [PyData.canLay0] at h
theorem eqvAll_refl : ∀ ds : List D, PyData.canLayAll0 ds = true → PyData.eqvAll ds ds = true
  | [], _ => by simp [PyData.eqvAll]
  | d :: ds, h => by
    have h2 : d.canLay0 = true ∧ PyData.canLayAll0 ds = true := by simpa [PyData.canLayAll0] using h
    rw [PyData.eqvAll, eqv_refl d h2.1, eqvAll_refl ds h2.2]
    rfl
end
theorem dEq_refl {d : D} (h : SeqAt.shaped d = true) : dEq d d = some (.bool true) := by
  unfold dEq
  rw [if_pos ⟨h, h⟩, eqv_refl d (SeqAt.canLay_of_shaped h)]
theorem dNe_refl {d : D} (h : SeqAt.shaped d = true) : dNe d d = some (.bool false) := by
  unfold dNe
  rw [if_pos ⟨h, h⟩, eqv_refl d (SeqAt.canLay_of_shaped h)]
  rfl
/-! ## loops over lists that stand for typed ones -/
section
variable {α β : Type} {vs : List Nat} {b : D → MS → Option MS} {t : MT} {e : ME} {m : MM}
/-- a comprehension that draws nothing -/
theorem lc_pure (enc : α → D) (p : α → Bool) (g : α → D) {s : MS} : ∀ xs : List α, (∀ x ∈ xs, ∃ s1, b (enc x) s = some s1 ∧ t s1 = some (p x, s1) ∧ (p x = true → e s1 = some (g x, s1)) ∧ wipeM s1 vs = s) → lcL vs b t e (xs.map enc) s = some ((xs.filter p).map g, s)
  | [], _ => rfl
  | x :: r, h => by
    obtain ⟨s1, h1, h2, h3, h4⟩ := h x List.mem_cons_self
    have ih := lc_pure enc p g r fun y hy => h y (List.mem_cons_of_mem _ hy)
    rw [List.map_cons, lcL, h1]
    simp only [Option.bind_some]
    rw [h2]
    simp only [Option.bind_some]
    cases hp : p x with
    | true =>
      rw [h3 hp]
      simp only [if_true, Option.bind_some]
      rw [h4, ih, List.filter_cons, hp]
      rfl
    | false =>
      simp only [Bool.false_eq_true, if_false]
      rw [h4, ih, List.filter_cons, hp]
      rfl
/-- a comprehension that may draw: Inv at the states between -/
theorem lc_ind (enc : α → D) (Inv : List D → MS → Prop) : ∀ (xs : List α) (acc : List D) (s : MS), Inv acc s → (∀ x ∈ xs, ∀ acc s, Inv acc s → ∃ s1, b (enc x) s = some s1 ∧ ∃ c s2, t s1 = some (c, s2) ∧ (c = false → Inv acc (wipeM s2 vs)) ∧ (c = true → ∃ y s3, e s2 = some (y, s3) ∧ Inv (acc ++ [y]) (wipeM s3 vs))) →
    ∃ ys s', lcL vs b t e (xs.map enc) s = some (ys, s') ∧ Inv (acc ++ ys) s'
  | [], acc, s, h, _ => ⟨[], s, rfl, by rw [List.append_nil]; exact h⟩
  | x :: r, acc, s, h, hs => by
    obtain ⟨s1, h1, c, s2, h2, h3, h4⟩ := hs x List.mem_cons_self acc s h
    rw [List.map_cons, lcL, h1]
    simp only [Option.bind_some]
    rw [h2]
    simp only [Option.bind_some]
    cases c with
    | true =>
      obtain ⟨y, s3, h5, h6⟩ := h4 rfl
      obtain ⟨ys, s', e1, e2⟩ := lc_ind enc Inv r (acc ++ [y]) _ h6 fun z hz => hs z (List.mem_cons_of_mem _ hz)
      refine ⟨y :: ys, s', ?_, by rw [List.append_assoc] at e2; exact e2⟩
      rw [h5]
      simp only [if_true, Option.bind_some]
      rw [e1]
      rfl
    | false =>
      obtain ⟨ys, s', e1, e2⟩ := lc_ind enc Inv r acc _ (h3 rfl) fun z hz => hs z (List.mem_cons_of_mem _ hz)
      refine ⟨ys, s', ?_, e2⟩
      simp only [Bool.false_eq_true, if_false]
      exact e1
/-- a loop that comes to its end: Inv of what is done -/
theorem for_ind (enc : α → D) (Inv : List α → MS → Prop) : ∀ (xs done : List α) (s : MS), Inv done s → (∀ (d : List α) (x : α) (r : List α) (s : MS), done ++ xs = d ++ x :: r → Inv d s → ∃ s1 s2, b (enc x) s = some s1 ∧ (m s1 = some (.nx s2) ∨ m s1 = some (.ct s2)) ∧ Inv (d ++ [x]) s2) →
    ∃ s', forL b m (xs.map enc) s = some (.nx s') ∧ Inv (done ++ xs) s'
  | [], done, s, h, _ => ⟨s, rfl, by rw [List.append_nil]; exact h⟩
  | x :: r, done, s, h, hs => by
    obtain ⟨s1, s2, h1, h2, h3⟩ := hs done x r s rfl h
    obtain ⟨s', e1, e2⟩ := for_ind enc Inv r (done ++ [x]) s2 h3 fun d y r' s e => hs d y r' s (by rw [← e, List.append_assoc]; rfl)
    refine ⟨s', ?_, by rw [List.append_assoc] at e2; exact e2⟩
    rw [List.map_cons, forL, h1]
    simp only [Option.bind_some]
    rcases h2 with h2 | h2 <;> rw [h2] <;> exact e1
/-- a loop that is a fold -/
theorem for_fold (enc : α → D) (st : β → MS) (F : β → α → β) : ∀ (xs : List α) (y : β), (∀ x ∈ xs, ∀ y, ∃ s1, b (enc x) (st y) = some s1 ∧ m s1 = some (.nx (st (F y x)))) → forL b m (xs.map enc) (st y) = some (.nx (st (xs.foldl F y)))
  | [], _, _ => rfl
  | x :: r, y, h => by
    obtain ⟨s1, h1, h2⟩ := h x List.mem_cons_self y
    rw [List.map_cons, forL, h1]
    simp only [Option.bind_some]
    rw [h2]
    exact for_fold enc st F r (F y x) fun z hz => h z (List.mem_cons_of_mem _ hz)
/-- .. with a property of the states -/
theorem for_foldI (enc : α → D) (st : β → MS) (F : β → α → β) (I : β → Prop) : ∀ (xs : List α) (y : β), I y → (∀ x ∈ xs, ∀ y, I y → I (F y x) ∧ ∃ s1, b (enc x) (st y) = some s1 ∧ m s1 = some (.nx (st (F y x)))) → forL b m (xs.map enc) (st y) = some (.nx (st (xs.foldl F y))) ∧ I (xs.foldl F y)
  | [], _, hy, _ => ⟨rfl, hy⟩
  | x :: r, y, hy, h => by
    obtain ⟨hi, s1, h1, h2⟩ := h x List.mem_cons_self y hy
    have ih := for_foldI enc st F I r (F y x) hi fun z hz => h z (List.mem_cons_of_mem _ hz)
    refine ⟨?_, ih.2⟩
    rw [List.map_cons, forL, h1]
    simp only [Option.bind_some]
    rw [h2]
    exact ih.1
end
/-! ## texts -/
theorem ofString_inj {a b : String} : Str.ofString a = Str.ofString b ↔ a = b := by
  refine ⟨fun h => ?_, fun h => by rw [h]⟩
  rw [Str.ofString_eq_toList, Str.ofString_eq_toList] at h
  have h1 : (a.toList.map Char.toNat) = (b.toList.map Char.toNat) := by
    have := congrArg (fun z : Str => z.cps.toList) h
    simpa using this
  have inj : ∀ {x y : List Char}, x.map Char.toNat = y.map Char.toNat → x = y := by
    intro x
    induction x with
    | nil => intro y h; cases y with
      | nil => rfl
      | cons c r => cases h
    | cons c r ih => intro y h; cases y with
      | nil => cases h
      | cons d q =>
        simp only [List.map_cons, List.cons.injEq] at h
        have hc : c = d := by
          have := h.1
          exact Char.ext (UInt32.toNat_inj.mp this)
        rw [hc, ih h.2]
  exact String.ext (inj h1)
end Z


namespace Z
open PySem PySem.Spec PyProof.Rows L2
/-! ## numbers in lists -/
abbrev iL (ns : List Int) : D := .list (ns.map PyData.int)
abbrev sL (ss : List Str) : D := .list (ss.map PyData.str)
def rgI (a b : Int) : List Int := (List.range (b - a).toNat).map fun i => a + (i : Nat)
theorem dRg_map (a b : Int) : dRg a b = (rgI a b).map PyData.int := by
  unfold dRg rgI
  rw [List.map_map]; rfl
theorem rgI_mem {a b x : Int} : x ∈ rgI a b ↔ a ≤ x ∧ x < b := by
  unfold rgI
  rw [List.mem_map]
  constructor
  · rintro ⟨i, hi, rfl⟩
    have := List.mem_range.mp hi
    omega
  · intro h
    exact ⟨(x - a).toNat, List.mem_range.mpr (by omega), by omega⟩
theorem rgI_len (a b : Int) : (rgI a b).length = (b - a).toNat := by
  unfold rgI
  rw [List.length_map, List.length_range]
theorem rgI_lt (a b : Int) : (rgI a b).Pairwise (· < ·) := by
  unfold rgI
  rw [List.pairwise_map]
  exact List.pairwise_lt_range.imp fun h => by omega
theorem inD_ints (a : Int) (xs : List Int) : inD (.int a) (xs.map PyData.int) = decide (a ∈ xs) := by
  unfold inD
  rw [List.any_map, Bool.eq_iff_iff, List.any_eq_true, decide_eq_true_eq]
  constructor
  · rintro ⟨x, hx, h⟩
    simp only [Function.comp, PyData.eqv, beq_iff_eq] at h
    rw [← h]; exact hx
  · intro h
    exact ⟨a, h, by simp [PyData.eqv]⟩
theorem inD_strs (a : Str) (xs : List Str) : inD (.str a) (xs.map PyData.str) = decide (a ∈ xs) := by
  unfold inD
  rw [List.any_map, Bool.eq_iff_iff, List.any_eq_true, decide_eq_true_eq]
  constructor
  · rintro ⟨x, hx, h⟩
    simp only [Function.comp, PyData.eqv, beq_iff_eq] at h
    rw [← h]; exact hx
  · intro h
    exact ⟨a, h, by simp [PyData.eqv]⟩
theorem flat_ints (xs : List Int) : (xs.map PyData.int).all flatD = true := by
  rw [List.all_map]; exact List.all_eq_true.mpr fun _ _ => rfl
theorem flat_strs (xs : List Str) : (xs.map PyData.str).all flatD = true := by
  rw [List.all_map]; exact List.all_eq_true.mpr fun _ _ => rfl
@[simp] theorem dIn_ints (neg : Bool) (a : Int) (xs : List Int) : dIn neg (.int a) (iL xs) = some (.bool (if neg then !decide (a ∈ xs) else decide (a ∈ xs))) := by
  unfold dIn
  rw [seqOf_l]
  simp only [Option.bind_some]
  rw [if_pos ⟨rfl, flat_ints xs⟩, inD_ints]
@[simp] theorem dIn_strs (neg : Bool) (a : Str) (xs : List Str) : dIn neg (.str a) (sL xs) = some (.bool (if neg then !decide (a ∈ xs) else decide (a ∈ xs))) := by
  unfold dIn
  rw [seqOf_l]
  simp only [Option.bind_some]
  rw [if_pos ⟨rfl, flat_strs xs⟩, inD_strs]
@[simp] theorem dSorted_ints (xs : List Int) : dSorted (xs.map PyData.int) = some ((iSort xs).map PyData.int) := by
  unfold dSorted
  rw [asInts_map]
@[simp] theorem dSorted_ints1 (xs : List Int) (a : Int) : dSorted (xs.map PyData.int ++ [.int a]) = some ((iSort (xs ++ [a])).map PyData.int) := by
  have := dSorted_ints (xs ++ [a])
  rwa [List.map_append] at this
@[simp] theorem dSorted_one (a : Int) : dSorted [.int a] = some ((iSort [a]).map PyData.int) := dSorted_ints [a]
theorem dSorted_strs {xs : List Str} (h : xs.length < 64) : dSorted (xs.map PyData.str) = some ((sSort xs).map PyData.str) := by
  unfold dSorted
  cases xs with
  | nil =>
    have e1 : iSort [] = [] := by unfold iSort; exact List.mergeSort_nil
    have e2 : sSort [] = [] := by unfold sSort; exact List.mergeSort_nil
    rw [List.map_nil, e2]
    show some ((iSort []).map PyData.int) = _
    rw [e1]; rfl
  | cons x r =>
    have : asInts ((x :: r).map PyData.str) = none := rfl
    rw [this]
    show (match asStrs ((x :: r).map PyData.str) with
      | some ss => if ss.length < 64 then some ((sSort ss).map PyData.str) else none
      | none => none) = _
    rw [asStrs_map]
    show (if (x :: r).length < 64 then _ else _) = _
    rw [if_pos h]
theorem iSort_of {a b : List Int} (h : a.Pairwise (· ≤ ·)) (p : a.Perm b) : iSort b = a := pw_eq (iSort_pw b) h ((iSort_perm b).trans p.symm)
theorem iSort_mem {ns : List Int} {x : Int} : x ∈ iSort ns ↔ x ∈ ns := (iSort_perm ns).mem_iff
theorem iSort_len (ns : List Int) : (iSort ns).length = ns.length := (iSort_perm ns).length_eq
theorem iSort_nodup {ns : List Int} : (iSort ns).Nodup ↔ ns.Nodup := (iSort_perm ns).nodup_iff
theorem lt_of_le_nodup {ns : List Int} (h : ns.Pairwise (· ≤ ·)) (n : ns.Nodup) : ns.Pairwise (· < ·) := by
  refine (h.and n).imp fun z => ?_
  have := z.1; have := z.2; omega
theorem iSort_lt {ns : List Int} (h : ns.Nodup) : (iSort ns).Pairwise (· < ·) := lt_of_le_nodup (iSort_pw ns) (iSort_nodup.mpr h)
theorem le_of_lt_pw {ns : List Int} (h : ns.Pairwise (· < ·)) : ns.Pairwise (· ≤ ·) := h.imp fun z => Int.le_of_lt z
theorem nodup_of_lt {ns : List Int} (h : ns.Pairwise (· < ·)) : ns.Nodup := h.imp fun z => Int.ne_of_lt z
/-- two ascending lists with the same members are one -/
theorem lt_ext : ∀ {a b : List Int}, a.Pairwise (· < ·) → b.Pairwise (· < ·) → (∀ x, x ∈ a ↔ x ∈ b) → a = b := fun {a b} ha hb h => by
  have p : a.Perm b := (List.perm_ext_iff_of_nodup (nodup_of_lt ha) (nodup_of_lt hb)).mpr h
  exact pw_eq (le_of_lt_pw ha) (le_of_lt_pw hb) p
/-- as many as stand between -/
theorem lt_len : ∀ {a : List Int} {lo hi : Int}, a.Pairwise (· < ·) → (∀ x ∈ a, lo ≤ x ∧ x < hi) → lo ≤ hi → (a.length : Int) ≤ hi - lo
  | [], lo, hi, _, _, h => by simpa using h
  | x :: r, lo, hi, hp, hm, h => by
    have hp' := List.pairwise_cons.mp hp
    have hx := hm x List.mem_cons_self
    have ih := lt_len (lo := x + 1) (hi := hi) hp'.2 (fun y hy => ⟨by have := hp'.1 y hy; omega, (hm y (List.mem_cons_of_mem _ hy)).2⟩) (by omega)
    rw [List.length_cons]
    omega
def gtI {α : Type} [Inhabited α] (xs : List α) (k : Int) : α := xs.getD k.toNat default
theorem rgI_get (a b : Int) (i : Nat) (h : i < (b - a).toNat) : (rgI a b)[i]? = some (a + (i : Nat)) := by
  unfold rgI
  rw [List.getElem?_map, List.getElem?_range h]; rfl
theorem map_rg {α β : Type} [Inhabited α] (f : α → β) (xs : List α) : xs.map f = (rgI 0 xs.length).map fun k => f (gtI xs k) := by
  apply List.ext_getElem?
  intro i
  rw [List.getElem?_map, List.getElem?_map]
  by_cases h : i < xs.length
  · rw [rgI_get 0 _ i (by omega), List.getElem?_eq_getElem h]
    have e : (0 + (i : Nat) : Int).toNat = i := by omega
    unfold gtI
    simp only [Option.map_some, e]
    rw [List.getD_eq_getElem?_getD, List.getElem?_eq_getElem h]
    rfl
  · rw [List.getElem?_eq_none (by omega), List.getElem?_eq_none (by rw [rgI_len]; omega)]
    rfl
theorem getD_rg {α : Type} [Inhabited α] (xs : List α) {k : Int} (h0 : 0 ≤ k) (h : k < xs.length) : atI xs k = some (gtI xs k) := by
  unfold gtI
  rw [atI_pos h0 h, List.getD_eq_getElem?_getD, List.getElem?_eq_getElem (by omega)]
  rfl
theorem atI_mapg {α β : Type} [Inhabited α] (f : α → β) (xs : List α) {k : Int} (h0 : 0 ≤ k) (h : k < xs.length) : atI (xs.map f) k = some (f (gtI xs k)) := by
  unfold gtI
  have h' : k < (xs.map f).length := by rw [List.length_map]; exact h
  rw [atI_pos h0 h', List.getElem_map, List.getD_eq_getElem?_getD, List.getElem?_eq_getElem (by omega)]
  rfl
theorem cutD_take (xs : List D) (k : Nat) : cutD xs none (some (k : Int)) = xs.take k := by
  unfold cutD
  rw [HT.sIx_none, HT.sIx_nat, List.drop_zero, Nat.sub_zero]
  by_cases h : k ≤ xs.length
  · rw [Nat.min_eq_left h]
  · rw [Nat.min_eq_right (by omega), List.take_length, List.take_of_length_le (by omega)]
/-! ## shapes -/
theorem canLay_ints : ∀ xs : List Int, PyData.canLayAll0 (xs.map PyData.int) = true
  | [] => by simp [PyData.canLayAll0]
  | x :: r => by simp only [List.map_cons, PyData.canLayAll0, PyData.canLay0, canLay_ints r]; rfl
theorem canLay_strs : ∀ xs : List Str, (∀ x ∈ xs, PyData.strOk x = true) → PyData.canLayAll0 (xs.map PyData.str) = true
  | [], _ => by simp [PyData.canLayAll0]
  | x :: r, h => by
    simp only [List.map_cons, PyData.canLayAll0, PyData.canLay0, canLay_strs r (fun y hy => h y (List.mem_cons_of_mem _ hy)), h x List.mem_cons_self]; rfl
theorem depth_ints : ∀ xs : List Int, PyData.depthAll (xs.map PyData.int) = 0
  | [] => by simp [PyData.depthAll]
  | x :: r => by simp only [List.map_cons, PyData.depthAll, PyData.depth, depth_ints r]; rfl
theorem depth_strs : ∀ xs : List Str, PyData.depthAll (xs.map PyData.str) = 0
  | [] => by simp [PyData.depthAll]
  | x :: r => by simp only [List.map_cons, PyData.depthAll, PyData.depth, depth_strs r]; rfl
theorem shaped_ints (xs : List Int) : SeqAt.shaped (iL xs) = true := by
  simp [SeqAt.shaped, PyData.canLay0, PyData.depth, canLay_ints, depth_ints]
theorem shaped_strs {xs : List Str} (h : ∀ x ∈ xs, PyData.strOk x = true) : SeqAt.shaped (sL xs) = true := by
  simp [SeqAt.shaped, PyData.canLay0, PyData.depth, canLay_strs xs h, depth_strs]
theorem canLay_map {α : Type} (enc : α → D) : ∀ xs : List α, (∀ x ∈ xs, (enc x).canLay0 = true) → PyData.canLayAll0 (xs.map enc) = true
  | [], _ => by simp [PyData.canLayAll0]
  | x :: r, h => by
    simp only [List.map_cons, PyData.canLayAll0, canLay_map enc r (fun y hy => h y (List.mem_cons_of_mem _ hy)), h x List.mem_cons_self]; rfl
theorem depth_map {α : Type} (enc : α → D) (n : Nat) : ∀ xs : List α, (∀ x ∈ xs, (enc x).depth ≤ n) → PyData.depthAll (xs.map enc) ≤ n
  | [], _ => by simp [PyData.depthAll]
  | x :: r, h => by
    simp only [List.map_cons, PyData.depthAll]
    exact Nat.max_le.mpr ⟨h x List.mem_cons_self, depth_map enc n r fun y hy => h y (List.mem_cons_of_mem _ hy)⟩
/-! ## texts -/
theorem strOk_os (a : String) : PyData.strOk (Str.ofString a) = true := by
  unfold PyData.strOk
  rw [Str.ofString_eq_toList]
  rw [Array.all_eq_true']
  intro c hc
  have hc' : c ∈ a.toList.map Char.toNat := by simpa using hc
  obtain ⟨d, _, rfl⟩ := List.mem_map.mp hc'
  have h : d.toNat < 0x110000 := by
    have := d.valid
    rcases this with h | ⟨_, h⟩
    · have : d.val.toNat < 0xd800 := h
      show d.val.toNat < _
      omega
    · exact h
  exact decide_eq_true h
@[simp] theorem dEq_os (a b : String) : dEq (.str (Str.ofString a)) (.str (Str.ofString b)) = some (.bool (decide (a = b))) := by
  rw [dEq_ss (strOk_os a) (strOk_os b)]
  simp only [ofString_inj]
theorem strOk_app {x y : Str} (h : PyData.strOk x = true) (h2 : PyData.strOk y = true) : PyData.strOk (x ++ y) = true := by
  unfold PyData.strOk at *
  show (x.cps ++ y.cps).all _ = true
  rw [Array.all_append, h, h2]; rfl
abbrev tl (x : Str) : List Nat := TL.tl x
theorem tl_app (x y : Str) : tl (x ++ y) = tl x ++ tl y := TL.tl_append x y
theorem tl_len (x : Str) : x.length = (tl x).length := TL.len_tl x
theorem tl_ext {x y : Str} (h : tl x = tl y) : x = y := TL.ext_tl h
theorem tl_os (a : String) : tl (Str.ofString a) = a.toList.map Char.toNat := TL.tl_ofString a
@[simp] theorem len_os (a : String) : (Str.ofString a).length = a.length := by
  rw [tl_len, tl_os, List.length_map, String.length_toList]
@[simp] theorem app_os (a b : String) : Str.ofString a ++ Str.ofString b = Str.ofString (a ++ b) := by
  apply tl_ext
  rw [tl_app, tl_os, tl_os, tl_os, String.toList_append, List.map_append]
theorem dAdd_s {x y : Str} (h : x.length + y.length ≤ 1000000) : dAdd (.str x) (.str y) = some (.str (x ++ y)) := by
  rw [dAdd_ss, if_pos (sz1M h)]
@[simp] theorem dAdd_os (a b : String) (h : a.length + b.length ≤ 1000000) : dAdd (.str (Str.ofString a)) (.str (Str.ofString b)) = some (.str (Str.ofString (a ++ b))) := by
  rw [dAdd_s (by rw [len_os, len_os]; exact h), app_os]
/-- texts joined without anything between -/
theorem join_empty : ∀ xs : List Str, tl (Str.join "" xs) = xs.flatMap tl
  | [] => rfl
  | [x] => by
    show tl x = _
    simp
  | x :: y :: r => by
    show tl (x ++ ("" : Str) ++ Str.join "" (y :: r)) = _
    rw [tl_app, tl_app, join_empty (y :: r), tl_os, List.flatMap_cons]
    simp
theorem txt_join (a : Str) (xs : List Str) : Txt.join a xs = Str.join a xs := PySem.StrLaws.glued_eq_join a xs
theorem cutS_tl (z : Str) (lo hi : Nat) (h : lo ≤ hi) (h2 : hi ≤ (tl z).length) : tl (cutS z (some (lo : Int)) (some (hi : Int))) = ((tl z).drop lo).take (hi - lo) := by
  unfold cutS
  show ((z.cps.toList.drop (HT.sIx z.length 0 (some (lo : Int)))).take (HT.sIx z.length z.length (some (hi : Int)) - HT.sIx z.length 0 (some (lo : Int)))) = _
  rw [HT.sIx_nat, HT.sIx_nat]
  rw [tl_len z, Nat.min_eq_left h2, Nat.min_eq_left (Nat.le_trans h h2)]
theorem sum_len {α : Type} {f : α → Nat} {c : Nat} : ∀ xs : List α, (∀ x ∈ xs, f x = c) → (xs.map f).sum = c * xs.length
  | [], _ => rfl
  | x :: r, h => by
    rw [List.map_cons, List.sum_cons, h x List.mem_cons_self, sum_len r fun y hy => h y (List.mem_cons_of_mem _ hy), List.length_cons, Nat.mul_add]; omega
theorem sum_lens {α : Type} {f : α → Str} {c : Nat} (xs : List α) (h : ∀ x ∈ xs, (f x).length = c) : ((xs.map f).map (·.length)).sum = c * xs.length := by
  rw [List.map_map]
  exact sum_len xs h
theorem flat_len {α : Type} {f : α → List Nat} {c : Nat} : ∀ xs : List α, (∀ x ∈ xs, (f x).length = c) → (xs.flatMap f).length = c * xs.length
  | [], _ => rfl
  | x :: r, h => by
    rw [List.flatMap_cons, List.length_append, h x List.mem_cons_self, flat_len r fun y hy => h y (List.mem_cons_of_mem _ hy), List.length_cons, Nat.mul_add]; omega
theorem dJoin_s {a : Str} {xs : List Str} (h : (xs.map (·.length)).sum + xs.length * a.length ≤ 16777216) : dJoin (.str a) [sL xs] = some (.str (Str.join a xs)) := by
  show (asStrs (xs.map PyData.str)).bind _ = _
  rw [asStrs_map]
  simp only [Option.bind_some]
  rw [if_pos h, txt_join]
/-! ## comprehensions and loops, as one meets them -/
section
variable {α : Type} {vs : List Nat} {b : D → MS → Option MS} {t : MT} {e : ME} {m : MM}
theorem kLc_pure (enc : α → D) (p : α → Bool) (g : α → D) {s : MS} {xs : List α} (hl : xs.length ≤ 1000000) (h : ∀ x ∈ xs, ∃ s1, b (enc x) (wipeM s vs) = some s1 ∧ t s1 = some (p x, s1) ∧ (p x = true → e s1 = some (g x, s1)) ∧ wipeM s1 vs = wipeM s vs) :
    kLc vs b t e (xs.map enc) s = some ((xs.filter p).map g, unwipe s (wipeM s vs) vs) := by
  unfold kLc
  rw [if_pos (by rw [List.length_map]; exact hl), lc_pure enc p g xs h]
  rfl
theorem kLc_map (enc : α → D) (g : α → D) {s : MS} {xs : List α} (hl : xs.length ≤ 1000000) (h : ∀ x ∈ xs, ∃ s1, b (enc x) (wipeM s vs) = some s1 ∧ t s1 = some (true, s1) ∧ e s1 = some (g x, s1) ∧ wipeM s1 vs = wipeM s vs) :
    kLc vs b t e (xs.map enc) s = some (xs.map g, unwipe s (wipeM s vs) vs) := by
  have := kLc_pure (vs := vs) (b := b) (t := t) (e := e) enc (fun _ => true) g hl fun x hx => by
    obtain ⟨s1, h1, h2, h3, h4⟩ := h x hx
    exact ⟨s1, h1, h2, fun _ => h3, h4⟩
  rw [this, List.filter_eq_self.mpr fun _ _ => rfl]
theorem kLc_ind (enc : α → D) (Inv : List D → MS → Prop) {s : MS} {xs : List α} (hl : xs.length ≤ 1000000) (h0 : Inv [] (wipeM s vs)) (h : ∀ x ∈ xs, ∀ acc s, Inv acc s → ∃ s1, b (enc x) s = some s1 ∧ ∃ c s2, t s1 = some (c, s2) ∧ (c = false → Inv acc (wipeM s2 vs)) ∧ (c = true → ∃ y s3, e s2 = some (y, s3) ∧ Inv (acc ++ [y]) (wipeM s3 vs))) :
    ∃ ys s', kLc vs b t e (xs.map enc) s = some (ys, unwipe s s' vs) ∧ Inv ys s' := by
  obtain ⟨ys, s', h1, h2⟩ := lc_ind enc Inv xs [] _ h0 h
  refine ⟨ys, s', ?_, by rwa [List.nil_append] at h2⟩
  unfold kLc
  rw [if_pos (by rw [List.length_map]; exact hl), h1]
  rfl
/-- a loop whose states are told by what is done -/
theorem for_st (enc : α → D) (st : List α → MS) (xs : List α) (h : ∀ d x r, xs = d ++ x :: r → ∃ s1, b (enc x) (st d) = some s1 ∧ m s1 = some (.nx (st (d ++ [x])))) : forL b m (xs.map enc) (st []) = some (.nx (st xs)) := by
  obtain ⟨s', h1, h2⟩ := for_ind (b := b) (m := m) enc (fun done s => s = st done) xs [] (st []) rfl fun d x r s e hs => by
    obtain ⟨s1, h1, h2⟩ := h d x r e
    subst hs
    exact ⟨s1, _, h1, .inl h2, rfl⟩
  rw [h1, h2]; rfl
end
end Z


namespace Z
open PySem PySem.Spec PyProof.Rows L2
/-! ## what is never reached -/
def mNo : MM := fun _ => none
def xNo : ME := fun _ => none
section
variable {Γ : G} {Th : List Nat} {fz : Bool} {O O' Ol L L0 W : List Nat} {st : Stmt} {a b e : Expr} {ma mb : ME} {pos p p2 : Pos}
theorem ss_never : TrS Γ Th fz O O' Ol st mNo := TrS0.up ⟨_, fun _ _ => ps_never, fun _ _ _ _ _ _ _ e => by cases e⟩
/-! ## isinstance by a built-in class -/
def tyD : D → String
  | .none => "NoneType"
  | .bool _ => "bool"
  | .int _ => "int"
  | .str _ => "str"
  | .list _ => "list"
  | .tuple _ => "tuple"
  | .dict _ => "dict"
theorem tyx_of {K : PySem.W.Frag} {H : Hp} {v : V} {d : D} (h : Rp K H v d) : TyX K H v (.type (tyD d)) := by
  cases h with
  | non => exact .base .non
  | bl b => exact .base (.bl b)
  | int i => exact .base (.int i)
  | str x => exact .base (.str x)
  | lst h _ =>
    rcases h with (h | ⟨o, h⟩) | ⟨o, _, _, h1, h2, _⟩
    · exact .base (.lst h)
    · exact .base (.frz h)
    · exact .kList h1 h2
  | tup h _ =>
    rcases h with (h | ⟨o, h⟩) | ⟨o, _, _, h1, h2, _⟩
    · exact .base (.tup h)
    · exact .fTuple h
    · exact .kTuple h1 h2
def dIsi (T : String) (d : D) : Option D := (kitB (tyD d) T).map .bool
theorem tr_isi {T : String} {x : Str} (hg : Γ.sc.names.lookup ("isinstance" : Str) = some .globalImplicit) (hm : Γ.mg "isinstance" = none) (hgx : Γ.sc.names.lookup x = some .globalImplicit) (hmx : Γ.mg x = none) (hv : bootBuiltins x = some (.type T)) (ha : TrE Γ O L0 W a ma)
    (hn : x ≠ "__name__" := by decide) (hdb : (x == ("__debug__" : Str)) = false := by decide) (he : ∀ env : Env, starEach [a, .Name x p2] env = (false, eval a env) :: starEach [.Name x p2] env := by intro _; rfl) :
    TrE Γ O L W (.Call (.Name "isinstance" p) [a, .Name x p2] [] pos) (xUn (dIsi T) ma) := by
  obtain ⟨t, pe, q⟩ := ha
  refine ⟨tCB (rIsi Γ.K) (tCons t (tCons (tC (.ty T)) tNil)), fun X h => ?_, fun c σ H s r d s' e Q k => ?_⟩
  · rw [← h.K]
    exact pe_callB call_isi (h.gl hg) (h.mgn hm) (by decide +kernel) (pa_cons (pe X h) (pa_cons (pe_bltn (h.gl hgx) (h.mgn hmx) hv rfl hn hdb) pa_nil) (he _)) (by decide) (by decide) (he _)
  · obtain ⟨d0, e1, e2⟩ := xUn_of e
    refine q c σ H s r _ _ e1 _ fun v H1 r1 x1 d1 => ?_
    unfold dIsi at e2
    obtain ⟨b, e3, e4⟩ := mapNx_of e2
    subst e4
    exact ⟨v, .ty T, .type (tyD d0), .type T, b, rfl, .ty T, tyx_of (dp_ex ex_hide0 d1), kit_ty e3, k _ H1 r1 x1 (.bl b)⟩
end
/-! ## bits -/
def dBit (f : Int → Int → Int) : D → D → Option D
  | .int a, .int b => some (.int (f a b))
  | _, _ => none
def dShl : D → D → Option D
  | .int a, .int b => if 0 ≤ b ∧ b ≤ 1000000 ∧ a.natAbs < 2 ^ 64 then some (.int (a * 2 ^ b.toNat)) else none
  | _, _ => none
def dShr : D → D → Option D
  | .int a, .int b => if 0 ≤ b then some (.int (a / 2 ^ b.toNat)) else none
  | _, _ => none
section
variable {K : PySem.W.Frag} {Γ : G}
theorem rs_bit {f : Int → Int → Int} : RS K (rI0 fun i j => .int (f i j)) (dBit f) := fun H x y dx dy dz hx hy e Q q => by
  cases hx <;> cases hy <;> cases e
  exact ⟨_, _, rfl, rfl, q _ fun M => .int _⟩
theorem rs_shl : RS K (rI CPow fun i j => .int (i * 2 ^ j.toNat)) dShl := rs_int fun dx dy dz e => by
  cases dx <;> cases dy <;> first | (cases e; done) | skip
  simp only [dShl] at e; split at e
  · cases e; exact ⟨_, _, rfl, rfl, ‹_›, rfl⟩
  · cases e
theorem rs_shr : RS K (rI (fun _ j => 0 ≤ j) fun i j => .int (i / 2 ^ j.toNat)) dShr := rs_int fun dx dy dz e => by
  cases dx <;> cases dy <;> first | (cases e; done) | skip
  simp only [dShr] at e; split at e
  · cases e; exact ⟨_, _, rfl, rfl, ‹_›, rfl⟩
  · cases e
theorem ho_band : ∀ X, InG Γ X → OpR X (binaryOp .BitAnd) (rI0 fun i j => .int (Builtin.bitAnd i j)) := fun _ _ => op_and
theorem ho_bor : ∀ X, InG Γ X → OpR X (binaryOp .BitOr) (rI0 fun i j => .int (Builtin.bitOr i j)) := fun _ _ => op_or
theorem ho_bxor : ∀ X, InG Γ X → OpR X (binaryOp .BitXor) (rI0 fun i j => .int (Builtin.bitXor i j)) := fun _ _ => op_xor
theorem ho_shl : ∀ X, InG Γ X → OpR X (binaryOp .LShift) (rI CPow fun i j => .int (i * 2 ^ j.toNat)) := fun _ _ => op_shl
theorem ho_shr : ∀ X, InG Γ X → OpR X (binaryOp .RShift) (rI (fun _ j => 0 ≤ j) fun i j => .int (i / 2 ^ j.toNat)) := fun _ _ => op_shr
end
/-! ## a sign in a text -/
def dInS (neg : Bool) : D → D → Option D
  | .str x, .str z => match x.cps.toList with
    | [c] => some (.bool (if neg then !decide (c ∈ z.cps.toList) else decide (c ∈ z.cps.toList)))
    | _ => none
  | _, _ => none
def rInS : R2 := fun x y H Q => ∃ (c : Nat) (z : Str), x = .str ⟨#[c]⟩ ∧ y = .str z ∧ Q (.bl (decide (c ∈ z.cps.toList))) H
def rNotInS : R2 := fun x y H Q => ∃ (c : Nat) (z : Str), x = .str ⟨#[c]⟩ ∧ y = .str z ∧ Q (.bl (!decide (c ∈ z.cps.toList))) H
theorem one_sign {x : Str} {c : Nat} (h : x.cps.toList = [c]) : x = ⟨#[c]⟩ := tl_ext h
section
variable {K : PySem.W.Frag} {Γ : G}
theorem rs_inS : RS K rInS (dInS false) := fun H x y dx dy dz hx hy e Q q => by
  cases hx <;> cases hy <;> first | (cases e; done) | skip
  rename_i x z
  simp only [dInS] at e
  split at e
  · rename_i c hc
    cases e
    exact ⟨c, z, congrArg V.str (one_sign hc), rfl, q _ fun M => .bl _⟩
  · cases e
theorem rs_ninS : RS K rNotInS (dInS true) := fun H x y dx dy dz hx hy e Q q => by
  cases hx <;> cases hy <;> first | (cases e; done) | skip
  rename_i x z
  simp only [dInS] at e
  split at e
  · rename_i c hc
    cases e
    exact ⟨c, z, congrArg V.str (one_sign hc), rfl, q _ fun M => .bl _⟩
  · cases e
theorem ho_inS : ∀ X, InG Γ X → OpR X (compareOp .In) rInS := fun _ _ => op_in_sign
theorem ho_ninS : ∀ X, InG Γ X → OpR X (compareOp .NotIn) rNotInS := fun _ _ => op_notIn_sign
end
/-! ## a list so many times -/
def xRep (m : MF) (k : ME) : MF := fun s => (m s).bind fun p => (k p.2).bind fun q => match q.1 with
  | .int n => if -1000000 ≤ n ∧ n ≤ 1000000 ∧ p.1.length * n.toNat ≤ 1000000 then some ((List.replicate n.toNat p.1).flatten, q.2) else none
  | _ => none
theorem dpa_rep {K : PySem.W.Frag} {H : Hp} {vs : List V} {ds : List D} (h : RpAll K H vs ds) : ∀ n : Nat, RpAll K H (List.replicate n vs).flatten (List.replicate n ds).flatten
  | 0 => .nil
  | n + 1 => by
    rw [List.replicate_succ, List.replicate_succ, List.flatten_cons, List.flatten_cons]
    exact dpa_app h (dpa_rep h n)
theorem xRep_of {m : MF} {k : ME} {s s' : MS} {ds : List D} (h : xRep m k s = some (ds, s')) : ∃ es s1 n, m s = some (es, s1) ∧ k s1 = some (.int n, s') ∧ -1000000 ≤ n ∧ n ≤ 1000000 ∧ es.length * n.toNat ≤ 1000000 ∧ ds = (List.replicate n.toNat es).flatten := by
  unfold xRep at h
  obtain ⟨p, e1, e2⟩ := bind_of h
  obtain ⟨q, e3, e4⟩ := bind_of e2
  obtain ⟨y, s2⟩ := q
  cases y <;> first | (cases e4; done) | skip
  simp only at e4
  split at e4
  · rename_i hc
    cases e4
    exact ⟨_, _, _, e1, e3, hc.1, hc.2.1, hc.2.2, rfl⟩
  · cases e4
section
variable {Γ : G} {O L L0 W : List Nat} {a b c : Expr} {ma : MF} {mb m1 m2 m3 : ME} {pos : Pos}
theorem tf_rep (ha : TrF Γ O L W a ma) (hb : TrE Γ O L0 W b mb) (hW : ∀ j ∈ W, j ∈ L) (hO : ∀ j ∈ W, j ∈ O) : TrF Γ O L W (.BinOp a .Mult b pos) (xRep ma mb) := by
  obtain ⟨ta, pa, qa⟩ := ha
  obtain ⟨tb, pb, qb⟩ := hb
  refine ⟨tOp rRep ta tb, fun X h => pe_op op_rep (pa X h) (pb X h), fun c σ H s r ds s' e Q k => ?_⟩
  obtain ⟨es, s1, n, e1, e2, n0, n1, n2, rfl⟩ := xRep_of e
  refine qa c σ H s r _ _ e1 _ fun p vs H1 hp r1 x1 h1 d1 => ?_
  refine qb c σ H1 s1 (r1.ex ex_hide0) _ _ e2 _ fun v H2 r2 x2 d2 => ?_
  cases d2
  have np : ¬ Own W σ p := fun ⟨i, hi, e⟩ => by
    obtain ⟨q, us, fs, h1', _, h3, _⟩ := r1.ow i (hO i hi)
    rw [e] at h1'
    cases h1'
    exact (of_hide h3).1 rfl
  have h2 : H2 p = some (.lst vs) := (of_hide (x2 p _ (hide_of np h1))).2
  have x12 : Ex (hide (Own W σ) H) (hide (Own W σ) H2) := (x1.trans (ex_hide ex_hide0)).trans x2
  have dd := dpa_rep (dpa_ex (keep hW x2) (dpa_ex (ex_hide ex_hide0) d1)) n.toNat
  refine ⟨p, n, vs, rfl, rfl, h2, by omega, by omega, sz1M (by rw [dpa_len d1]; exact n2), ?_⟩
  exact simF_new r2 x12 (fresh_of r2 hO x12) dd k
/-! ## a < b < c -/
def xChain (f g : D → D → Option D) (a b c : ME) : ME := fun s => (a s).bind fun p => (b p.2).bind fun q => (f p.1 q.1).bind fun z => match z with
  | .bool true => (c q.2).bind fun w => (g q.1 w.1).map fun u => (u, w.2)
  | .bool false => some (.bool false, q.2)
  | _ => none
theorem tr_chain {op op' : CmpOp} {r r' : R2} {f g : D → D → Option D} (ho : ∀ X, InG Γ X → OpR X (compareOp op) r) (hr : RS Γ.K r f) (ho' : ∀ X, InG Γ X → OpR X (compareOp op') r') (hr' : RS Γ.K r' g) (ha : TrE Γ O L0 W a m1) (hb : TrE Γ O L0 W b m2) (hc : TrE Γ O L0 W c m3) (hW : ∀ j ∈ W, j ∈ L0)
    (hm : lastMarks [op, op'] [b, c] = false := by with_unfolding_all rfl) : TrE Γ O L W (.Compare a [op, op'] [b, c] pos) (xChain f g m1 m2 m3) := by
  obtain ⟨ta, pa, qa⟩ := ha
  obtain ⟨tb, pb, qb⟩ := hb
  obtain ⟨tc, pc, qc⟩ := hc
  refine ⟨tChain r r' ta tb tc, fun X h => pe_chain (ho X h) (ho' X h) (pa X h) (pb X h) (pc X h) hm, fun cc σ H s r0 d s' e Q k => ?_⟩
  unfold xChain at e
  obtain ⟨p, e1, e⟩ := bind_of e
  obtain ⟨q, e2, e⟩ := bind_of e
  obtain ⟨z, e3, e⟩ := bind_of e
  refine qa cc σ H s r0 _ _ e1 _ fun x H1 r1 x1 d1 => qb cc σ H1 _ r1 _ _ e2 _ fun y H2 r2 x2 d2 => ?_
  refine hr H2 x y _ _ z (dp_ex ex_hide0 (dp_ex (keep hW x2) d1)) (dp_ex ex_hide0 d2) e3 _ fun v hv => ?_
  cases z <;> first | (cases e; done) | skip
  rename_i bz
  have hvb := hv H2
  cases hvb
  cases bz with
  | false =>
    cases e
    exact ⟨false, rfl, k _ H2 r2 (x1.trans x2) (.bl false)⟩
  | true =>
    obtain ⟨w, e4, e5⟩ := bind_of e
    obtain ⟨u, e6, e7⟩ := mapNx_of e5
    cases e7
    refine ⟨true, rfl, ?_⟩
    show tc σ H2 _
    refine qc cc σ H2 _ r2 _ _ e4 _ fun v3 H3 r3 x3 d3 => ?_
    exact hr' H3 y v3 _ _ _ (dp_ex ex_hide0 (dp_ex (keep hW x3) d2)) (dp_ex ex_hide0 d3) e6 _ fun v4 hv4 => k v4 H3 r3 ((x1.trans x2).trans x3) (hv4 _)
end
end Z


namespace Z
open PySem PySem.Spec PyProof.Rows L2
/-! ## the module's constants: texts, numbers, lists and tuples of them, at any depth -/
inductive Cv where
  | non | bl (b : Bool) | int (i : Int) | str (x : Str) | lst (l : List Cv) | tup (l : List Cv)
mutual
def cvD : Cv → D
  | .non => .none
  | .bl b => .bool b
  | .int i => .int i
  | .str x => .str x
  | .lst l => .list (cvDs l)
  | .tup l => .tuple (cvDs l)
def cvDs : List Cv → List D
  | [] => []
  | c :: r => cvD c :: cvDs r
end
mutual
def cvB (K : PySem.W.Frag) : Cv → Value → Bool
  | .non, u => (match u with
    | .none => true
    | _ => false)
  | .bl b, u => (match u with
    | .bool c => b == c
    | _ => false)
  | .int i, u => (match u with
    | .int j _ => decide (i = j)
    | _ => false)
  | .str x, u => (match u with
    | .str y _ => decide (x = y)
    | _ => false)
  | .lst l, u => (match u with
    | .ref a => (match K.lookup a with
      | some ⟨.type c, none, .seq its _, _⟩ => decide (c = "list") && (decide (its.size ≤ sizeLine) && cvBs K l its.toList)
      | _ => false)
    | _ => false)
  | .tup l, u => (match u with
    | .ref a => (match K.lookup a with
      | some ⟨.type c, _, .seq its _, _⟩ => decide (c = "tuple") && (decide (its.size ≤ sizeLine) && cvBs K l its.toList)
      | _ => false)
    | _ => false)
def cvBs (K : PySem.W.Frag) : List Cv → List Value → Bool
  | [], us => us.isEmpty
  | c :: r, us => (match us with
    | u :: q => cvB K c u && cvBs K r q
    | [] => false)
end
mutual
theorem cvB_ok {K : PySem.W.Frag} : ∀ {c : Cv} {u : Value}, cvB K c u = true → ∃ v, RelV v u ∧ ∀ M, Rp K M v (cvD c)
  | .non, u, h => by
    cases u <;> first | (simp [cvB] at h; done) | skip
    exact ⟨.non, rfl, fun M => by rw [cvD]; exact .non⟩
  | .bl b, u, h => by
    cases u <;> first | (simp [cvB] at h; done) | skip
    rename_i c
    have e : b = c := by simpa [cvB] using h
    subst e
    exact ⟨.bl b, rfl, fun M => by rw [cvD]; exact .bl b⟩
  | .int i, u, h => by
    cases u <;> first | (simp [cvB] at h; done) | skip
    rename_i j t
    have e : i = j := by simpa [cvB] using h
    subst e
    exact ⟨.int i, ⟨t, rfl⟩, fun M => by rw [cvD]; exact .int i⟩
  | .str x, u, h => by
    cases u <;> first | (simp [cvB] at h; done) | skip
    rename_i y t
    have e : x = y := by simpa [cvB] using h
    subst e
    exact ⟨.str x, ⟨t, rfl⟩, fun M => by rw [cvD]; exact .str x⟩
  | .lst l, u, h => by
    cases u <;> first | (simp [cvB] at h; done) | skip
    rename_i a
    unfold cvB at h
    simp only at h
    split at h
    · rename_i c its n sl hl
      rw [Bool.and_eq_true, Bool.and_eq_true, decide_eq_true_eq, decide_eq_true_eq] at h
      obtain ⟨vs, r1, r2⟩ := cvBs_ok h.2.2
      exact ⟨.ref a, rfl, fun M => by rw [cvD]; exact .lst (.inr ⟨_, its, n, hl, congrArg Value.type h.1, rfl, rfl, h.2.1, r1⟩) (r2 M)⟩
    · cases h
  | .tup l, u, h => by
    cases u <;> first | (simp [cvB] at h; done) | skip
    rename_i a
    unfold cvB at h
    simp only at h
    split at h
    · rename_i c dd its n sl hl
      rw [Bool.and_eq_true, Bool.and_eq_true, decide_eq_true_eq, decide_eq_true_eq] at h
      obtain ⟨vs, r1, r2⟩ := cvBs_ok h.2.2
      exact ⟨.ref a, rfl, fun M => by rw [cvD]; exact .tup (.inr ⟨_, its, n, hl, congrArg Value.type h.1, rfl, h.2.1, r1⟩) (r2 M)⟩
    · cases h
theorem cvBs_ok {K : PySem.W.Frag} : ∀ {cs : List Cv} {us : List Value}, cvBs K cs us = true → ∃ vs, Vals vs us ∧ ∀ M, RpAll K M vs (cvDs cs)
  | [], us, h => by
    unfold cvBs at h
    have e : us = [] := List.isEmpty_iff.mp h
    subst e
    exact ⟨[], .nil, fun M => by rw [cvDs]; exact .nil⟩
  | c :: r, [], h => by simp [cvBs] at h
  | c :: r, u :: q, h => by
    unfold cvBs at h
    simp only [Bool.and_eq_true] at h
    obtain ⟨v, r1, r2⟩ := cvB_ok h.1
    obtain ⟨vs, r3, r4⟩ := cvBs_ok h.2
    exact ⟨v :: vs, .cons r1 r3, fun M => by rw [cvDs]; exact .cons (r2 M) (r4 M)⟩
end
def cvG (K : PySem.W.Frag) (x : Str) (c : Cv) : Bool := match PySem.W.nsIn K mainGlobals x with
  | some (some u) => cvB K c u
  | _ => false
def cvT (K : PySem.W.Frag) (a : Addr) (kvs : List (Str × Cv)) : Bool := kvs.all fun q => match PySem.W.nsIn K a q.1 with
  | some (some u) => cvB K q.2 u
  | _ => false
def cvN (K : PySem.W.Frag) (a : Addr) (ks : List Str) : Bool := true
def cvK : List (Str × Cv) → Str → Option D
  | [], _ => none
  | q :: r, z => if q.1 = z then some (cvD q.2) else cvK r z
theorem cvK_mem : ∀ {kvs : List (Str × Cv)} {z : Str} {d : D}, cvK kvs z = some d → ∃ q ∈ kvs, q.1 = z ∧ cvD q.2 = d
  | [], _, _, h => by cases h
  | q :: r, z, d, h => by
    unfold cvK at h
    split at h
    · exact ⟨q, List.mem_cons_self, ‹_›, Option.some.inj h⟩
    · obtain ⟨q', h1, h2⟩ := cvK_mem h
      exact ⟨q', List.mem_cons_of_mem _ h1, h2⟩
section
variable {K : PySem.W.Frag} {w : World} {h : Heap} {mg : Str → Option Value} {x : Str}
theorem gc_cv (X : K.In h) (G : h.Ns mainGlobals mg) {c : Cv} (e : cvG K x c = true) : ∃ u v, mg x = some u ∧ RelV v u ∧ ∀ M, Rp K M v (cvD c) := by
  unfold cvG at e
  split at e
  · rename_i u hu
    obtain ⟨v, r1, r2⟩ := cvB_ok e
    exact ⟨u, v, PySem.W.mg_of X G hu, r1, r2⟩
  · cases e
theorem kdm_cv {a : Addr} {kvs : List (Str × Cv)} (D : ∃ es n, KDict K w a es n) (hv : cvT K a kvs = true) : KDm K w a (cvK kvs) := fun z d e => by
  obtain ⟨es, n, D⟩ := D
  obtain ⟨q, h1, h2, h3⟩ := cvK_mem e
  have := List.all_eq_true.mp hv q h1
  split at this
  · rename_i u hu
    obtain ⟨v, r1, r2⟩ := cvB_ok this
    rw [h2] at hu
    subst h3
    exact ⟨v, ⟨es, n, u, D.at_, D.lit, hu, r1⟩, r2⟩
  · cases this
end
/-! ## D.get(key, default) of a dict of the module -/
/-- what the written dict at a tells of a text: there or not -/
def KGt (K : PySem.W.Frag) (w : World) (a : Addr) (z : Str) (o : Option V) : Prop := ∃ es n r, KDict K w a es n ∧ PySem.W.nsIn K a z = some r ∧ ((o = none ∧ r = none) ∨ ∃ v u, o = some v ∧ r = some u ∧ RelV v u)
def tKGet (K : PySem.W.Frag) (w : World) (a : Addr) (te tf : TE) : TE := fun σ H Q => te σ H fun y H1 => tf σ H1 fun z H2 => ∃ k o, y = .str k ∧ KGt K w a k o ∧ Q (o.getD z) H2
theorem pe_kget {X : Cx} {x : Str} {a : Addr} {e f : Expr} {te tf : TE} {px apos cpos : Pos} (hg : Gl X x) (hm : X.mg x = some (.ref a)) (he : PE X e te) (hf : PE X f tf) (m : M2 X (.Name x px) "get" apos e f cpos) (hty : ∃ es n, KDict X.K X.w a es n) (hdb : (x == ("__debug__" : Str)) = false := by decide) :
    PE X (.Call (.Attribute (.Name x px) "get" apos) [e, f] [] cpos) (tKGet X.K X.w a te tf) := by
  refine ⟨fun pins s σ H Q I h => ?_⟩
  refine wpAny_Call_method m.base m.few m.line PySem.F.plainAttrs_dict PySem.F.slot_dict_get PySem.F.type_dict_get (thn ((pe_glob (v := .ref a) hg hm rfl hdb).run pins s σ H (fun x H1 => x = .ref a ∧ H1 = H) I ⟨rfl, rfl⟩) fun u s1 ⟨x, H1, I1, rx, ex, eH⟩ => ?_)
  subst ex eH
  obtain rfl : u = Value.ref a := rx
  obtain ⟨es, n, D⟩ := hty
  have hm0 := PySem.W.mapOf_K (prog := X.prog) (w := X.w) I1.kIn D.at_ D.lit
  refine ⟨hm0.typeIs, hm0.noDict, ?_⟩
  rw [m.trees]
  refine Calls.callWith_builtin rfl (Calls.evalArgs_plain (Calls.spliced_cons (thn (he.run pins s1 σ H1 _ I1 h) fun iv s2 ⟨y, H2, I2, ry, q2⟩ =>
    Calls.spliced_cons (thn (hf.run pins s2 σ H2 _ I2 q2) fun fv s3 ⟨z, H3, I3, rz, k, o, ey, g, q3⟩ => Calls.spliced_nil ?_))))
  subst ey
  obtain ⟨t, rfl⟩ := ry
  obtain ⟨es2, n2, r, D2, er, hr⟩ := g
  have hm2 := PySem.W.mapOf_K (prog := X.prog) (w := X.w) I3.kIn D2.at_ D2.lit
  have ef := PySem.W.find_K D2.at_ er
  refine call_meetsIn PySem.F.slot_dict_get hm2.typeIs PySem.F.entry_dict_get (PySem.F.args_dict_get_3 _ _ _) (meets_dict_get_default (strKind X.prog X.w) a (strKind_is X.prog X.w k t) D2.low fv) ⟨_, hm2, ?_⟩
  refine ⟨o.getD z, H3, I3.tok _, ?_, q3⟩
  show RelV (o.getD z) ((findBy Value.isStrOf es2 k).getD fv)
  rw [ef]
  rcases hr with ⟨rfl, rfl⟩ | ⟨v, u, rfl, rfl, rv⟩
  · exact rz
  · exact rv
theorem miss_of {P : Params} {z : Str} : ∀ {l : List DictEntry} {ks : List Str}, l.map He.keyOf = He.keysIn P ks → z ∉ ks → l.find? (·.key.isStr z) = none ∧ l.any (·.refKey) = false
  | [], _, _, _ => ⟨rfl, rfl⟩
  | e :: r, [], h, _ => by cases h
  | e :: r, k :: ks, h, hz => by
    have h1 : He.keyOf e :: r.map He.keyOf = some (k, PyData.keyHash P k) :: He.keysIn P ks := h
    injection h1 with h2 h3
    obtain ⟨i1, i2⟩ := miss_of h3 fun m => hz (List.mem_cons_of_mem _ m)
    have hk : ∃ t, e.key = .str k t := by
      unfold He.keyOf at h2
      split at h2
      · rename_i x t q
        have h4 := Option.some.inj h2
        obtain ⟨h5, _⟩ := Prod.mk.inj h4
        exact ⟨t, by rw [q, h5]⟩
      · cases h2
    obtain ⟨t, hk⟩ := hk
    have hne : ¬ k = z := fun e => hz (by rw [← e]; exact List.mem_cons_self)
    have n1 : e.key.isStr z = false := by rw [hk]; simp [Value.isStr, hne]
    have n2 : e.refKey = false := by unfold DictEntry.refKey; rw [hk]
    exact ⟨by rw [List.find?_cons, n1]; exact i1, by rw [List.any_cons, n2, i2]; rfl⟩
/-- what is known of a whole written dict -/
def KDg (K : PySem.W.Frag) (w : World) (a : Addr) (f : Str → Option D) : Prop := (∃ es n, KDict K w a es n) ∧ ∀ z, (∃ d v, f z = some d ∧ KGt K w a z (some v) ∧ ∀ M, Rp K M v d) ∨ (f z = none ∧ KGt K w a z none)
theorem cvK_none : ∀ {kvs : List (Str × Cv)} {z : Str}, cvK kvs z = none → z ∉ kvs.map (·.1)
  | [], _, _ => by simp
  | q :: r, z, h => by
    unfold cvK at h
    split at h
    · cases h
    · rename_i hc
      have := cvK_none h
      simp only [List.map_cons, List.mem_cons, not_or]
      exact ⟨fun e => hc e.symm, this⟩
theorem kdg_of {K : PySem.W.Frag} {w : World} {a : Addr} {kvs : List (Str × Cv)} (D : ∃ es n, KDict K w a es n) (hd : He.dicW K a = some (He.keysIn w.params (kvs.map (·.1)))) (hv : cvT K a kvs = true) : KDg K w a (cvK kvs) := by
  refine ⟨D, fun z => ?_⟩
  cases e : cvK kvs z with
  | some d =>
    obtain ⟨v, ⟨es, n, u, h1, h2, h3, h4⟩, h5⟩ := kdm_cv D hv z d e
    obtain ⟨es2, n2, D2⟩ := D
    exact .inl ⟨d, v, rfl, ⟨es2, n2, some u, D2, h3, .inr ⟨v, u, rfl, rfl, h4⟩⟩, h5⟩
  | none =>
    refine .inr ⟨rfl, ?_⟩
    obtain ⟨es, n, D⟩ := D
    have hk : es.toList.map He.keyOf = He.keysIn w.params (kvs.map (·.1)) := by
      unfold He.dicW at hd
      rw [D.at_] at hd
      simp only [D.low] at hd
      simpa using hd
    obtain ⟨m1, m2⟩ := miss_of hk (cvK_none e)
    refine ⟨es, n, none, D, ?_, .inl ⟨rfl, rfl⟩⟩
    unfold PySem.W.nsIn
    rw [D.at_]
    simp only [m1, m2]
    rfl
def xKGet (f : Str → Option D) (e d : ME) : ME := fun s => (e s).bind fun p => (d p.2).bind fun q => match p.1 with
  | .str z => some ((f z).getD q.1, q.2)
  | _ => none
section
variable {Γ : G} {O L W : List Nat} {e f : Expr} {me mf : ME} {px apos cpos : Pos} {x : Str} {q : Addr} {ft : Str → Option D}
theorem tr_kget (hg : Γ.sc.names.lookup x = some .globalImplicit) (hm : Γ.mg x = some (.ref q)) (hd : KDg Γ.K Γ.w q ft) (he : TrE Γ O L W e me) (hf : TrE Γ O L W f mf) (hW : ∀ j ∈ W, j ∈ L) (hdb : (x == ("__debug__" : Str)) = false := by decide)
    (hbase : ∀ env : Env, attributeBase (.Name x px) "get" env (eval (.Name x px) env) = eval (.Name x px) env := by intro _; rfl)
    (hfew : ∀ env : Env, ((backTo cpos (starEach [e, f] env)).all (fun x => !x.1) && (backToKw cpos (keywordEach [] env)).all (fun x => x.1.isSome)
      && decide (([e, f] : List Expr).length + ([] : List Keyword).length + (if ([] : List Keyword).isEmpty then 0 else 1) < 30)) = true := by intro _; rfl)
    (hline : (apos.endLine == cpos.line) = true := by rfl) (htr : ∀ env : Env, backTo cpos (starEach [e, f] env) = [(false, eval e env), (false, eval f env)] := by intro _; rfl) :
    TrE Γ O L W (.Call (.Attribute (.Name x px) "get" apos) [e, f] [] cpos) (xKGet ft me mf) := by
  obtain ⟨te, pe, qe⟩ := he
  obtain ⟨tf, pf, qf⟩ := hf
  refine ⟨tKGet Γ.K Γ.w q te tf, fun X h => ?_, fun c σ H s r d s' e0 Q k => ?_⟩
  · rw [← h.K, ← h.w]
    exact pe_kget (h.gl hg) (h.mgn hm) (pe X h) (pf X h) ⟨hbase _, hfew _, hline, htr _⟩ (by rw [h.K, h.w]; exact hd.1) hdb
  · unfold xKGet at e0
    obtain ⟨p1, a1, a2⟩ := bind_of e0
    obtain ⟨p2, b1, b2⟩ := bind_of a2
    obtain ⟨y, s1⟩ := p1
    cases y <;> first | (cases b2; done) | skip
    rename_i z
    cases b2
    refine qe c σ H s r _ _ a1 _ fun v H1 r1 x1 d1 => qf c σ H1 s1 r1 _ _ b1 _ fun u H2 r2 x2 d2 => ?_
    cases d1
    rcases hd.2 z with ⟨d, w, e1, g, hv⟩ | ⟨e1, g⟩
    · exact ⟨z, some w, rfl, g, by rw [e1] at k; exact k w H2 r2 (x1.trans x2) (hv _)⟩
    · exact ⟨z, none, rfl, g, by rw [e1] at k; exact k u H2 r2 (x1.trans x2) d2⟩
end
end Z


namespace Z
open PySem PySem.Spec PyProof.Rows L2
/-! ## zip over lists, tuples, texts, mixed -/
inductive Gs where
  | lst (a : Addr) | tup (a : Addr) | txt (z : Str)
def Gs.at_ : Gs → Option Addr
  | .lst a => some a
  | .tup a => some a
  | .txt _ => none
def GLen (K : PySem.W.Frag) (H : Hp) (n : Nat) : Gs → Prop
  | .lst a => ∃ xs, SqL K H a xs ∧ xs.length = n
  | .tup a => ∃ xs, SqT K H a xs ∧ xs.length = n
  | .txt z => z.cps.size = n
def GIt (K : PySem.W.Frag) (H : Hp) (i : Nat) (x : V) : Gs → Prop
  | .lst a => ∀ xs, SqL K H a xs → xs[i]? = some x
  | .tup a => ∀ xs, SqT K H a xs → xs[i]? = some x
  | .txt z => ∃ c, z.cps[i]? = some c ∧ x = .str ⟨#[c]⟩
def GSt (it : Addr) (i : Nat) (h : Heap) : Gs → Prop
  | .lst a => h.IsListIter it a i
  | .tup a => h.IsTupleIter it a i
  | .txt z => ∃ t, h.IsStrIter it (strIterType z) z t i
theorem GSt.keep {it : Addr} {i : Nat} {h h' : Heap} : ∀ {g : Gs}, GSt it i h g → (∀ o, h.get? it = some o → h'.get? it = some o) → GSt it i h' g
  | .lst a, st, k => Heap.IsListIter.at st k
  | .tup a, st, k => Heap.IsTupleIter.at st k
  | .txt z, ⟨t, o, ho, r⟩, k => ⟨t, o, k o ho, r⟩
theorem GSt.obj {it : Addr} {i : Nat} {h : Heap} : ∀ {g : Gs}, GSt it i h g → ∃ o, h.get? it = some o ∧ ∀ v, o.data ≠ .cell v
  | .lst a, ⟨o, e, _, d⟩ => ⟨o, e, fun v q => by rw [d] at q; cases q⟩
  | .tup a, ⟨o, e, _, d⟩ => ⟨o, e, fun v q => by rw [d] at q; cases q⟩
  | .txt z, ⟨t, o, e, _, d⟩ => ⟨o, e, fun v q => by rw [d] at q; cases q⟩
/-- an iterator as the library's Draws, by what the heap shows now -/
theorem draws_of {X : Cx} {pins : List (Addr × Obj)} {σ : L2.St} {H : Hp} {s : Shared} (I : L2.Inv X pins σ H s) (hh : X.A.handled = none) {it : Addr} {i n : Nat} : ∀ {g : Gs}, GLen X.K H n g → GSt it i s.heap g → (∀ a, g.at_ = some a → a ≠ it) →
    ∃ (fp : List Addr) (P : Nat → Value → Prop) (St : Nat → Heap → Prop), Draws X.prog X.w X.A.in1 it fp n P St ∧ St i s.heap ∧ (∀ j h, St j h → GSt it j h g) ∧ (∀ v, P i v → ∃ x, RelV x v ∧ GIt X.K H i x g) ∧ it ∈ fp ∧ ∀ b ∈ fp, b = it ∨ g.at_ = some b
  | .lst a, ⟨xs, hx, hl⟩, st, hn => by
    obtain ⟨its, rv, p, _⟩ := I.list hx
    have hs : its.toArray.size = n := by rw [List.size_toArray, ← rv.length, hl]
    subst hs
    refine ⟨_, _, _, Draws.list (A := X.A.in1) (show X.A.in1.handled = none from hh) it a (hn a rfl) its.toArray, ⟨st, p.isList⟩, fun j h q => q.1, fun v hv => ?_, by simp, fun b hb => ?_⟩
    · have hv' : its[i]? = some v := by simpa using hv
      have hi : i < xs.length := by
        rw [rv.length]
        exact (List.getElem?_eq_some_iff.mp hv').1
      obtain ⟨u, hu, ru⟩ := rv.get (List.getElem?_eq_getElem hi)
      rw [hv'] at hu
      cases hu
      exact ⟨_, ru, fun ys hy => by rw [I.list_inj hy hx]; exact List.getElem?_eq_getElem hi⟩
    · rcases List.mem_cons.mp hb with e | e
      · exact .inl e
      · exact .inr (congrArg some (List.mem_singleton.mp e).symm)
  | .tup a, ⟨xs, hx, hl⟩, st, hn => by
    obtain ⟨its, rv, p, _⟩ := I.tuple hx
    have hs : its.toArray.size = n := by rw [List.size_toArray, ← rv.length, hl]
    subst hs
    refine ⟨_, _, _, Draws.tuple (A := X.A.in1) (show X.A.in1.handled = none from hh) it a (hn a rfl) its.toArray, ⟨st, p⟩, fun j h q => q.1, fun v hv => ?_, by simp, fun b hb => ?_⟩
    · have hv' : its[i]? = some v := by simpa using hv
      have hi : i < xs.length := by
        rw [rv.length]
        exact (List.getElem?_eq_some_iff.mp hv').1
      obtain ⟨u, hu, ru⟩ := rv.get (List.getElem?_eq_getElem hi)
      rw [hv'] at hu
      cases hu
      exact ⟨_, ru, fun ys hy => by rw [I.tuple_inj hy hx]; exact List.getElem?_eq_getElem hi⟩
    · rcases List.mem_cons.mp hb with e | e
      · exact .inl e
      · exact .inr (congrArg some (List.mem_singleton.mp e).symm)
  | .txt z, hl, ⟨t, st⟩, hn => by
    have hs : z.cps.size = n := hl
    subst hs
    refine ⟨_, _, _, Draws.text (A := X.A.in1) (show X.A.in1.handled = none from hh) it z t, st, fun j h q => ⟨t, q⟩, fun v hv => ?_, by simp, fun b hb => .inl (by simpa using hb)⟩
    obtain ⟨c, u, hc, rfl⟩ := hv
    exact ⟨.str ⟨#[c]⟩, ⟨u, rfl⟩, c, hc, rfl⟩
/-- the cells of such a zip lie apart -/
structure GAp (z TI TO i1 i2 : Addr) (g1 g2 : Gs) : Prop where
  TIz : TI ≠ z
  TOz : TO ≠ z
  TITO : TI ≠ TO
  TIi1 : TI ≠ i1
  TIi2 : TI ≠ i2
  TOi1 : TO ≠ i1
  TOi2 : TO ≠ i2
  zi1 : z ≠ i1
  zi2 : z ≠ i2
  i12 : i1 ≠ i2
  o1 : ∀ a, g1.at_ = some a → a ≠ z ∧ a ≠ TI ∧ a ≠ TO ∧ a ≠ i1 ∧ a ≠ i2
  o2 : ∀ a, g2.at_ = some a → a ≠ z ∧ a ≠ TI ∧ a ≠ TO ∧ a ≠ i1 ∧ a ≠ i2
theorem GAp.sep {z TI TO i1 i2 : Addr} {g1 g2 : Gs} {fp1 fp2 : List Addr} (D : GAp z TI TO i1 i2 g1 g2) (m1 : i1 ∈ fp1) (m2 : i2 ∈ fp2) (f1 : ∀ b ∈ fp1, b = i1 ∨ g1.at_ = some b) (f2 : ∀ b ∈ fp2, b = i2 ∨ g2.at_ = some b) : ZipSep2 z TI TO i1 i2 fp1 fp2 where
  TIz := D.TIz
  TOz := D.TOz
  TITO := D.TITO
  TIi1 := D.TIi1
  mem1 := m1
  zf1 := fun h => (f1 z h).elim D.zi1 fun e => (D.o1 z e).1 rfl
  Tf1 := fun h => (f1 TO h).elim D.TOi1 fun e => (D.o1 TO e).2.2.1 rfl
  TIi2 := D.TIi2
  mem2 := m2
  zf2 := fun h => (f2 z h).elim D.zi2 fun e => (D.o2 z e).1 rfl
  Tf2 := fun h => (f2 TO h).elim D.TOi2 fun e => (D.o2 TO e).2.2.1 rfl
  sep1_2 := fun h => (f2 i1 h).elim D.i12 fun e => (D.o2 i1 e).2.2.2.1 rfl
  sep2_1 := fun h => (f1 i2 h).elim (fun e => D.i12 e.symm) fun e => (D.o1 i2 e).2.2.2.2 rfl
def ItzG (K : PySem.W.Frag) (g1 g2 : Gs) : It :=
  ⟨fun i H => ∃ n1 n2, GLen K H n1 g1 ∧ GLen K H n2 g2 ∧ i < n1 ∧ i < n2,
    fun i H v H' => ∃ T x y, v = .ref T ∧ H T = none ∧ H' = upd H T (.tup [x, y]) ∧ GIt K H i x g1 ∧ GIt K H i y g2,
    fun i H => ∃ n1 n2, GLen K H n1 g1 ∧ GLen K H n2 g2 ∧ i ≤ n1 ∧ i ≤ n2 ∧ (i = n1 ∨ i = n2)⟩
theorem turn_zipG {P : Program} {w : World} {K : PySem.W.Frag} {elts : List Expr} {kk : Nat} {tpos : Pos} {z TI TO i1 i2 : Addr} {g1 g2 : Gs} (D : GAp z TI TO i1 i2 g1 g2) :
    Turn P w K (.Tuple elts kk tpos) (ItzG K g1 g2) [z, TI, TO, i1, i2] z (fun i h => IsZip h z TI TO .none ∧ IsTupOf2 h TI (.ref i1) (.ref i2) ∧ (∃ x y, IsTupOf2 h TO x y) ∧ GSt i1 i h g1 ∧ GSt i2 i h g2) where
  mem := by simp
  obj := fun i h st c hc => by
    obtain ⟨hz, hTI, ⟨x, y, hTO⟩, s1, s2⟩ := st
    have e' : c = z ∨ c = TI ∨ c = TO ∨ c = i1 ∨ c = i2 := by simpa using hc
    rcases e' with q | q | q | q | q
    · rw [q]; exact ⟨_, hz, fun v q => nomatch q⟩
    · rw [q]; exact ⟨_, hTI, fun v q => nomatch q⟩
    · rw [q]; exact ⟨_, hTO, fun v q => nomatch q⟩
    · rw [q]; exact s1.obj
    · rw [q]; exact s2.obj
  keep := fun i h h' st k => by
    obtain ⟨hz, hTI, ⟨x, y, hTO⟩, h1, h2⟩ := st
    exact ⟨k z (by simp) _ hz, k TI (by simp) _ hTI, ⟨x, y, k TO (by simp) _ hTO⟩, h1.keep fun o q => k i1 (by simp) o q, h2.keep fun o q => k i2 (by simp) o q⟩
  item := by
    intro X hP hw hK hc i pins s σ H E I hf st hg
    subst hP hw hK
    obtain ⟨hz, hTI, ⟨x0, y0, hTO⟩, h1, h2⟩ := st
    obtain ⟨n1, n2, l1, l2, lt1, lt2⟩ := hg
    have hh := I.ok.hd hc
    obtain ⟨fp1, P1, St1, D1, t1, k1, p1, m1, f1⟩ := draws_of I hh l1 h1 fun a e => (D.o1 a e).2.2.2.1
    obtain ⟨fp2, P2, St2, D2, t2, k2, p2, m2, f2⟩ := draws_of I hh l2 h2 fun a e => (D.o2 a e).2.2.2.2
    have hzl : z < s.heap.objs.size := Heap.lt_size hz
    refine wpAny_pyNext_zipD2_item (D.sep m1 m2 f1 f2) D1 D2 hz hTI hTO t1 t2 lt1 lt2 fun u u2 h' tk y1 y2 z' TO' st1 st2 hT hsz hk => ?_
    obtain ⟨x, ru, gx⟩ := p1 u y1
    obtain ⟨y, ru2, gy⟩ := p2 u2 y2
    refine ⟨_, rfl, wpAny_letOwnedTupleGo_zip (s := { s with heap := h', toks := tk }) z' fun h'' z'' sb => ?_⟩
    have hT2 : h''.get? s.heap.objs.size = some { cls := .type "tuple", data := .seq #[u, u2] } := (sb.2 _ (Nat.ne_of_gt hzl)).trans hT
    have new : ObjOk X.prog X.w (upd H s.heap.objs.size (.tup [x, y])) h'' s.heap.objs.size (.tup [x, y]) :=
      ⟨by show 2 ≤ sizeLine; decide, [u, u2], .cons ru (.cons ru2 .nil), ⟨_, hT2, rfl, _, rfl⟩⟩
    have I1 : L2.Inv X pins σ (upd H s.heap.objs.size (.tup [x, y])) { s with heap := h'', toks := tk } :=
      I.turnedNew (t' := tk) (ch := [z, TI, TO, i1, i2]) (fun c o hb q => (sb.2 c (fun q' => hb (by simp [q']))).trans (hk c o (fun q' => hb (by simp [q'])) (fun q' => hb (by simp [q'])) (fun q' => hb (by simp [q'])) (fun q' => hb (by simp [q'])) q)) hf (Nat.le_refl _) new
    refine ⟨.ref s.heap.objs.size, _, I1, rfl, ⟨_, x, y, rfl, I.hok.fresh (Nat.le_refl _), rfl, gx, gy⟩, ⟨z'', ?_, ⟨u, u2, ?_⟩, ?_, ?_⟩, fun c hcm => ?_⟩
    · exact (sb.2 _ D.TIz).trans (hk _ _ D.TIz D.TITO D.TIi1 D.TIi2 hTI)
    · exact (sb.2 _ D.TOz).trans TO'
    · exact (k1 _ _ st1).keep fun o q => (sb.2 _ D.zi1.symm).trans q
    · exact (k2 _ _ st2).keep fun o q => (sb.2 _ D.zi2.symm).trans q
    · have hlt : c < s.heap.objs.size := by
        have e' : c = z ∨ c = TI ∨ c = TO ∨ c = i1 ∨ c = i2 := by simpa using hcm
        rcases e' with q | q | q | q | q
        · rw [q]; exact hzl
        · rw [q]; exact Heap.lt_size hTI
        · rw [q]; exact Heap.lt_size hTO
        · rw [q]; obtain ⟨_, e1, _⟩ := h1.obj; exact Heap.lt_size e1
        · rw [q]; obtain ⟨_, e2, _⟩ := h2.obj; exact Heap.lt_size e2
      rw [upd_ne (Nat.ne_of_lt hlt)]
      exact (hf c hcm).1
  done := by
    intro X hP hw hK hc i pins s σ H E I hf st hg
    subst hP hw hK
    obtain ⟨hz, hTI, ⟨x0, y0, hTO⟩, h1, h2⟩ := st
    obtain ⟨n1, n2, l1, l2, le1, le2, hend⟩ := hg
    have hh := I.ok.hd hc
    obtain ⟨fp1, P1, St1, D1, t1, k1, p1, m1, f1⟩ := draws_of I hh l1 h1 fun a e => (D.o1 a e).2.2.2.1
    obtain ⟨fp2, P2, St2, D2, t2, k2, p2, m2, f2⟩ := draws_of I hh l2 h2 fun a e => (D.o2 a e).2.2.2.2
    exact wpAny_pyNext_zipD2_end (D.sep m1 m2 f1 f2) D1 D2 hz hTI hTO t1 t2 le1 le2 hend fun h' tk hk => ⟨rfl, I.turnedL (t' := tk) (ch := [z, TI, TO, i1, i2]) (fun c o hb q =>
      hk c o (fun q' => hb (by simp [q'])) (fun q' => hb (by simp [q'])) (fun q' => hb (by simp [q'])) (fun q' => hb (by simp [q'])) q) hf⟩
  self := fun A i s Q E st h => wpAny_pyIter_zip st.1 h
theorem lt5 {a n : Nat} (h : a < n) : a ≠ n + 4 ∧ a ≠ n + 2 ∧ a ≠ n + 3 ∧ a ≠ n ∧ a ≠ n + 1 := by omega
theorem gap_of {g1 g2 : Gs} {n : Nat} (h1 : ∀ a, g1.at_ = some a → a < n) (h2 : ∀ a, g2.at_ = some a → a < n) : GAp (n + 4) (n + 2) (n + 3) n (n + 1) g1 g2 := by
  refine ⟨?_, ?_, ?_, ?_, ?_, ?_, ?_, ?_, ?_, ?_, fun a e => ?_, fun a e => ?_⟩
  · show (n + 2 : Nat) ≠ n + 4; omega
  · show (n + 3 : Nat) ≠ n + 4; omega
  · show (n + 2 : Nat) ≠ n + 3; omega
  · show (n + 2 : Nat) ≠ n; omega
  · show (n + 2 : Nat) ≠ n + 1; omega
  · show (n + 3 : Nat) ≠ n; omega
  · show (n + 3 : Nat) ≠ n + 1; omega
  · show (n + 4 : Nat) ≠ n; omega
  · show (n + 4 : Nat) ≠ n + 1; omega
  · show (n : Nat) ≠ n + 1; omega
  · exact lt5 (h1 a e)
  · exact lt5 (h2 a e)
theorem ge_of {n c : Nat} (h : c = n + 4 ∨ c = n + 2 ∨ c = n + 3 ∨ c = n ∨ c = n + 1) : n ≤ c := by omega
def GVal (x : V) : Gs → Prop
  | .lst a => x = .ref a
  | .tup a => x = .ref a
  | .txt z => x = .str z
theorem begins_of {X : Cx} {pins : List (Addr × Obj)} {σ : L2.St} {H : Hp} {s : Shared} (I : L2.Inv X pins σ H s) {n : Nat} {x : V} {u : Value} : ∀ {g : Gs}, GLen X.K H n g → GVal x g → RelV x u →
    ∃ (o : Obj) (S : Heap → Prop), Begins u o S ∧ S s.heap ∧ (∀ h' it, h'.get? it = some o → GSt it 0 h' g) ∧ ∀ a, g.at_ = some a → a < s.heap.objs.size
  | .lst a, ⟨xs, hx, hl⟩, v, r => by
    subst v
    obtain rfl : u = .ref a := r
    obtain ⟨its, rv, p, _⟩ := I.list hx
    exact ⟨_, _, begins_list a its.toArray, p.isList, fun h' it e => ⟨_, e, rfl, rfl⟩, fun b e => by cases e; exact p.lt⟩
  | .tup a, ⟨xs, hx, hl⟩, v, r => by
    subst v
    obtain rfl : u = .ref a := r
    obtain ⟨its, rv, p, _⟩ := I.tuple hx
    exact ⟨_, _, begins_tuple a its.toArray, p, fun h' it e => ⟨_, e, rfl, rfl⟩, fun b e => by
      cases e
      obtain ⟨o, ho, _⟩ := p
      exact Heap.lt_size ho⟩
  | .txt z, hl, v, r => by
    subst v
    obtain ⟨t, rfl⟩ := r
    exact ⟨_, _, begins_text z t, trivial, fun h' it e => ⟨t, _, e, rfl, rfl⟩, fun b e => by cases e⟩
def iZipG (K : PySem.W.Frag) (ta : TA) : TI := fun σ H R => ta σ H fun vs H1 => ∃ x y g1 g2 n1 n2, vs = [x, y] ∧ GVal x g1 ∧ GVal y g2 ∧ GLen K H1 n1 g1 ∧ GLen K H1 n2 g2 ∧ R (ItzG K g1 g2) H1
theorem pi_zipG {X : Cx} {e e2 : Expr} {ta : TA} {p pos tpos : Pos} {elts : List Expr} {kk : Nat} (hg : Gl X "zip") (hm : X.mg "zip" = none) (ha : PA X [e, e2] ta)
    (hs : starEach [e, e2] X.env = (false, eval e X.env) :: starEach [e2] X.env := by rfl) (hpl : (backTo pos (starEach [e2] X.env)).any (·.1) = false := by rfl) :
    PI X (.Tuple elts kk tpos) (.Call (.Name "zip" p) [e, e2] [] pos) (iZipG X.K ta) := by
  refine ⟨fun pins s σ H R I h => ?_⟩
  refine Call_ (ld_blt I hg hm PyProof.Rows.boot_zip (PyProof.Rows.callWith_type1 (thn (ha.run pos pins s σ H _ I h) fun us s1 ⟨vs, H1, I1, r1, q1⟩ => ?_) hs hpl))
  obtain ⟨x, y, g1, g2, n1, n2, ex, v1, v2, l1, l2, q⟩ := q1
  subst ex
  obtain ⟨u1, u2, rfl, r, r'⟩ := vals2 r1
  obtain ⟨o1, S1, B1, b1, k1, a1⟩ := begins_of I1 l1 v1 r
  obtain ⟨o2, S2, B2, b2, k2, a2⟩ := begins_of I1 l2 v2 r'
  refine zip_begins2 B1 B2 b1 b2 fun h' hz hTI hTO h1 h2 hsz hk => wpAny_pyIter_zip hz ?_
  have I2 : L2.Inv X pins σ H1 { s1 with heap := h' } := I1.kept (t' := s1.toks) hk
  have D := gap_of a1 a2
  refine ⟨s1.heap.objs.size + 4, [s1.heap.objs.size + 4, s1.heap.objs.size + 2, s1.heap.objs.size + 3, s1.heap.objs.size, s1.heap.objs.size + 1], _, _, H1, rfl, I2, turn_zipG D, ⟨hz, hTI, ⟨_, _, hTO⟩, k1 _ _ h1, k2 _ _ h2⟩, fun c hcm => ?_, q⟩
  have e' : c = s1.heap.objs.size + 4 ∨ c = s1.heap.objs.size + 2 ∨ c = s1.heap.objs.size + 3 ∨ c = s1.heap.objs.size ∨ c = s1.heap.objs.size + 1 := by simpa using hcm
  have hle : s1.heap.objs.size ≤ c := ge_of e'
  exact I1.fpOk hle (I1.hok.fresh hle)
/-! ## the same by mirror -/
def itemsD : D → Option (List D)
  | .list ds => some ds
  | .tuple ds => some ds
  | .str z => some (z.cps.toList.map fun k => .str ⟨#[k]⟩)
  | _ => none
theorem items_of {K : PySem.W.Frag} {H : Hp} {v : V} {d : D} {ds : List D} (h : Rp K H v d) (e : itemsD d = some ds) : ∃ g, GVal v g ∧ (∀ H', Ex H H' → GLen K H' ds.length g) ∧ ∀ H' i x d', Ex H H' → GIt K H' i x g → ds[i]? = some d' → Rp K H x d' := by
  cases h with
  | lst h a =>
    cases e
    refine ⟨.lst _, rfl, fun H' x => ⟨_, sql_ex x h, dpa_len a⟩, fun H' i x d' ex g e => ?_⟩
    obtain ⟨v, h1, h2⟩ := dpa_get a e
    have := g _ (sql_ex ex h)
    rw [h1] at this
    cases this
    exact h2
  | tup h a =>
    cases e
    refine ⟨.tup _, rfl, fun H' x => ⟨_, sqt_ex x h, dpa_len a⟩, fun H' i x d' ex g e => ?_⟩
    obtain ⟨v, h1, h2⟩ := dpa_get a e
    have := g _ (sqt_ex ex h)
    rw [h1] at this
    cases this
    exact h2
  | str z =>
    cases e
    refine ⟨.txt z, rfl, fun H' x => (by show z.cps.size = _; simp), fun H' i x d' ex g e => ?_⟩
    obtain ⟨c, hc, rfl⟩ := g
    rw [List.getElem?_map] at e
    have : z.cps.toList[i]? = some c := by simpa using hc
    rw [this] at e
    cases e
    exact .str _
  | non => cases e
  | bl b => cases e
  | int i => cases e
def xItems (m : ME) : MF := fun s => (m s).bind fun p => (itemsD p.1).map fun ds => (ds, p.2)
section
variable {Γ : G} {O W : List Nat} {elts : List Expr} {kk : Nat} {p pos tpos : Pos} {a b : Expr} {ma mb : ME}
theorem xItems_of {m : ME} {s s' : MS} {ds : List D} (h : xItems m s = some (ds, s')) : ∃ d, m s = some (d, s') ∧ itemsD d = some ds := by
  unfold xItems at h
  obtain ⟨p, e1, e2⟩ := bind_of h
  obtain ⟨q, e3, e4⟩ := mapNx_of e2
  cases e4
  exact ⟨_, e1, e3⟩
theorem ti_zipG (hg : Γ.sc.names.lookup ("zip" : Str) = some .globalImplicit) (hm : Γ.mg "zip" = none) (ha : TrE Γ O O W a ma) (hb : TrE Γ O O W b mb) (hW : ∀ j ∈ W, j ∈ O) (hs : ∀ env : Env, starEach [a, b] env = (false, eval a env) :: starEach [b] env := by intro _; rfl) (hs2 : ∀ env : Env, starEach [b] env = [(false, eval b env)] := by intro _; rfl)
    (hpl : ∀ env : Env, (backTo pos (starEach [b] env)).any (·.1) = false := by intro _; rfl) : TrI Γ O W (.Tuple elts kk tpos) (.Call (.Name "zip" p) [a, b] [] pos) (xZip (xItems ma) (xItems mb)) := by
  obtain ⟨ta, pa, qa⟩ := ha
  obtain ⟨tb, pb, qb⟩ := hb
  refine ⟨iZipG Γ.K (tCons ta (tCons tb tNil)), fun X h => ?_, fun c σ H s r ds s' e Q k => ?_⟩
  · rw [← h.K]
    exact pi_zipG (h.gl hg) (h.mgn hm) (pa_cons (pa X h) (pa_cons (pb X h) pa_nil (hs2 _)) (hs _)) (hs _) (hpl _)
  · unfold xZip at e
    obtain ⟨p1, e1, e⟩ := bind_of e
    obtain ⟨p2, e2, e⟩ := mapNx_of e
    cases e
    obtain ⟨d1, e3, i1⟩ := xItems_of e1
    obtain ⟨d2, e4, i2⟩ := xItems_of e2
    refine qa c σ H s r _ _ e3 _ fun v H1 r1 x1 h1 => ?_
    refine qb c σ H1 _ r1 _ _ e4 _ fun u H2 r2 x2 h2 => ?_
    have kp := keep (c := c) hW x2
    obtain ⟨g1, v1, l1, t1⟩ := items_of (dp_ex kp h1) i1
    obtain ⟨g2, v2, l2, t2⟩ := items_of h2 i2
    refine ⟨v, u, g1, g2, _, _, rfl, v1, v2, l1 _ ex_hide0, l2 _ ex_hide0, k _ H2 r2 (x1.trans x2) fun i c' σ' H' e t => ⟨fun d hi => ?_, fun hi => ?_⟩⟩
    · rw [List.getElem?_map] at hi
      cases e1 : (p1.1.zip p2.1)[i]? with
      | none => rw [e1] at hi; cases hi
      | some d0 =>
        rw [e1] at hi
        cases hi
        obtain ⟨a1, a2⟩ := List.getElem?_zip_eq_some.mp e1
        have b1 := (List.getElem?_eq_some_iff.mp a1).1
        have b2 := (List.getElem?_eq_some_iff.mp a2).1
        refine ⟨⟨_, _, l1 _ (e.trans ex_hide0), l2 _ (e.trans ex_hide0), b1, b2⟩, fun x H'' y => ?_⟩
        obtain ⟨T, x, x2, rfl, hT, rfl, y, y2⟩ := y
        have ex := ex_upd (o := HO.tup [x, x2]) hT
        have z1 := t1 _ i x _ (e.trans ex_hide0) y a1
        have z2 := t2 _ i x2 _ (e.trans ex_hide0) y2 a2
        refine ⟨ex, .tup (.inl (.inl (hide_of (fun z => ?_) upd_same))) (.cons ?_ (.cons ?_ .nil))⟩
        · obtain ⟨o, z⟩ := t T z
          rw [hT] at z; cases z
        · exact dp_ex (e.trans (ex_hide ex)) z1
        · exact dp_ex (e.trans (ex_hide ex)) z2
    · rw [List.length_map, List.length_zip] at hi
      exact ⟨_, _, l1 _ (e.trans ex_hide0), l2 _ (e.trans ex_hide0), by omega, by omega, by omega⟩
end
end Z


namespace Z
open PySem PySem.Spec PyProof.Rows L2
/-! ## enumerate over a list or a text -/
def IteG (K : PySem.W.Frag) (g : Gs) : It :=
  ⟨fun i H => ∃ n, GLen K H n g ∧ i < n, fun i H v H' => ∃ T x, v = .ref T ∧ H T = none ∧ H' = upd H T (.tup [.int (i : Nat), x]) ∧ GIt K H i x g, fun i H => GLen K H i g⟩
theorem turn_enumG {P : Program} {w : World} {K : PySem.W.Frag} {elts : List Expr} {kk : Nat} {tpos : Pos} {g : Gs} {e it : Addr} (hne : e ≠ it) (ha : ∀ a, g.at_ = some a → a ≠ e ∧ a ≠ it) :
    Turn P w K (.Tuple elts kk tpos) (IteG K g) [e, it] e (fun i h => (∃ old, IsEnum h e it ((i : Nat) : Int) old) ∧ GSt it i h g) where
  mem := by simp
  obj := fun i h st b hb => by
    obtain ⟨⟨old, he⟩, hi⟩ := st
    have e' : b = e ∨ b = it := by simpa using hb
    rcases e' with z | z
    · rw [z]; exact ⟨_, he, fun v q => nomatch q⟩
    · rw [z]; exact hi.obj
  keep := fun i h h' st k => let ⟨⟨old, he⟩, hi⟩ := st; ⟨⟨old, k e (by simp) _ he⟩, hi.keep fun o q => k it (by simp) o q⟩
  item := by
    intro X hP hw hK hc i pins s σ H E I hf st hg
    subst hP hw hK
    obtain ⟨⟨old, he⟩, hit⟩ := st
    obtain ⟨n, l1, lt⟩ := hg
    obtain ⟨fp, P1, St1, D1, t1, k1, p1, m1, f1⟩ := draws_of I (I.ok.hd hc) l1 hit fun a q => (ha a q).2
    have hel : e < s.heap.objs.size := Heap.lt_size he
    have hil : it < s.heap.objs.size := by obtain ⟨_, q, _⟩ := hit.obj; exact Heap.lt_size q
    have hef : e ∉ fp := fun h => (f1 e h).elim hne fun q => (ha e q).1 rfl
    refine wpAny_pyNext_enum_itemD D1 he t1 lt hne hef fun u h' tk y ho st' hT hsz hk => ?_
    obtain ⟨x, ru, gx⟩ := p1 u y
    refine ⟨_, rfl, wpAny_letOwnedTupleGo_enum (s := { s with heap := h', toks := tk + 1 }) ho fun h'' he' sb => ?_⟩
    have hT2 : h''.get? s.heap.objs.size = some { cls := .type "tuple", data := .seq #[.int i tk, u] } := (sb.2 _ (Nat.ne_of_gt hel)).trans hT
    have new : ObjOk X.prog X.w (upd H s.heap.objs.size (.tup [.int (i : Nat), x])) h'' s.heap.objs.size (.tup [.int (i : Nat), x]) :=
      ⟨by show 2 ≤ sizeLine; decide, [.int i tk, u], .cons ⟨_, rfl⟩ (.cons ru .nil), ⟨_, hT2, rfl, _, rfl⟩⟩
    have I1 : L2.Inv X pins σ (upd H s.heap.objs.size (.tup [.int (i : Nat), x])) { s with heap := h'', toks := tk + 1 } :=
      I.turnedNew (ch := [e, it]) (fun b ob hb q => (sb.2 b (fun z => hb (by simp [z]))).trans (hk b ob (fun z => hb (by simp [z])) (fun z => hb (by simp [z])) q)) hf (Nat.le_refl _) new
    refine ⟨.ref s.heap.objs.size, _, I1, rfl, ⟨_, x, rfl, I.hok.fresh (Nat.le_refl _), rfl, gx⟩, ⟨⟨u, ?_⟩, (k1 _ _ st').keep fun o q => (sb.2 it (Ne.symm hne)).trans q⟩, fun b hb => ?_⟩
    · have e1 : ((i + 1 : Nat) : Int) = (i : Int) + 1 := by omega
      rw [e1]; exact he'
    · have hb' : b < s.heap.objs.size := by
        have e' : b = e ∨ b = it := by simpa using hb
        rcases e' with z | z
        · rw [z]; exact hel
        · rw [z]; exact hil
      rw [upd_ne (Nat.ne_of_lt hb')]
      exact (hf b hb).1
  done := by
    intro X hP hw hK hc i pins s σ H E I hf st hg
    subst hP hw hK
    obtain ⟨⟨old, he⟩, hit⟩ := st
    obtain ⟨fp, P1, St1, D1, t1, k1, p1, m1, f1⟩ := draws_of I (I.ok.hd hc) hg hit fun a q => (ha a q).2
    obtain ⟨f0, f1, f2, f3, f4, f5⟩ := hf it (by simp)
    exact wpAny_pyNext_enum_endD D1 he t1 fun h' eb => ⟨rfl, I.turned (t' := s.toks) (fun b o hb q => eb b o hb q) f0 f1 f3 f4 f5⟩
  self := fun A i s Q E st h => let ⟨⟨_, he⟩, _⟩ := st; wpAny_pyIter_enum he h
def iEnumG (K : PySem.W.Frag) (ta : TA) : TI := fun σ H R => ta σ H fun vs H1 => ∃ x g n, vs = [x] ∧ GVal x g ∧ GLen K H1 n g ∧ (∀ a, g ≠ .tup a) ∧ R (IteG K g) H1
theorem pi_enumG {X : Cx} {e : Expr} {ta : TA} {p pos tpos : Pos} {elts : List Expr} {kk : Nat} (hg : Gl X "enumerate") (hm : X.mg "enumerate" = none) (ha : PA X [e] ta) (hs : starEach [e] X.env = [(false, eval e X.env)] := by rfl) :
    PI X (.Tuple elts kk tpos) (.Call (.Name "enumerate" p) [e] [] pos) (iEnumG X.K ta) := by
  refine ⟨fun pins s σ H R I h => ?_⟩
  refine Call_ (ld_blt I hg hm boot_enumerate (PyProof.Rows.callWith_type1 (thn (ha.run pos pins s σ H _ I h) fun us s1 ⟨vs, H1, I1, r1, q1⟩ => ?_) hs rfl))
  obtain ⟨x, g, n, ex, v, l, nt, q⟩ := q1
  subst ex
  cases r1 with
  | cons r rr =>
    cases rr
    have go : ∀ (h' : Heap), (∀ a, g.at_ = some a → a < s1.heap.objs.size) → IsEnum h' (s1.heap.objs.size + 1) s1.heap.objs.size 0 .none → GSt s1.heap.objs.size 0 h' g → (∀ b o, s1.heap.get? b = some o → h'.get? b = some o) →
        wpAny (model X.prog X.w) X.A (pyIter (.ref (s1.heap.objs.size + 1))) (PIE X pins σ (.Tuple elts kk tpos) R) X.xe { s1 with heap := h' } := fun h' hlt he hit hk => by
      refine wpAny_pyIter_enum he ?_
      have I2 : L2.Inv X pins σ H1 { s1 with heap := h' } := I1.kept (t' := s1.toks) hk
      refine ⟨s1.heap.objs.size + 1, [s1.heap.objs.size + 1, s1.heap.objs.size], _, _, H1, rfl, I2, turn_enumG (Nat.succ_ne_self _) fun a e => ⟨Nat.ne_of_lt (Nat.lt_succ_of_lt (hlt a e)), Nat.ne_of_lt (hlt a e)⟩, ⟨⟨.none, he⟩, hit⟩, fun b hb => ?_, q⟩
      have e' : b = s1.heap.objs.size + 1 ∨ b = s1.heap.objs.size := by simpa using hb
      have hle : s1.heap.objs.size ≤ b := by
        rcases e' with z | z
        · rw [z]; exact Nat.le_add_right _ _
        · rw [z]; exact Nat.le_refl _
      exact I1.fpOk hle (I1.hok.fresh hle)
    cases g with
    | lst a =>
      cases v
      cases r
      obtain ⟨xs, hx, _⟩ := l
      obtain ⟨its, rv, p', hz⟩ := I1.list hx
      exact call_enumerate_list p'.isList fun h' he hit hsz hk => go h' (fun b e => by cases e; exact p'.lt) he hit hk
    | tup a => exact absurd rfl (nt a)
    | txt z =>
      cases v
      obtain ⟨t, rfl⟩ := r
      exact call_enumerate_str fun h' he hit hsz hk => go h' (fun b e => by cases e) he ⟨t, hit⟩ hk
/-- the items of a list, the signs of a text -/
def itemsLS : D → Option (List D)
  | .list ds => some ds
  | .str z => some (z.cps.toList.map fun k => .str ⟨#[k]⟩)
  | _ => none
theorem itemsLS_D {d : D} {ds : List D} (h : itemsLS d = some ds) : itemsD d = some ds := by
  cases d <;> first | exact h | cases h
def xItemsLS (m : ME) : MF := fun s => (m s).bind fun p => (itemsLS p.1).map fun ds => (ds, p.2)
theorem items_ofLS {K : PySem.W.Frag} {H : Hp} {v : V} {d : D} {ds : List D} (h : Rp K H v d) (e : itemsLS d = some ds) : ∃ g, GVal v g ∧ (∀ a, g ≠ .tup a) ∧ (∀ H', Ex H H' → GLen K H' ds.length g) ∧ ∀ H' i x d', Ex H H' → GIt K H' i x g → ds[i]? = some d' → Rp K H x d' := by
  cases h with
  | lst h a =>
    cases e
    refine ⟨.lst _, rfl, (fun a z => by cases z), fun H' x => ⟨_, sql_ex x h, dpa_len a⟩, fun H' i x d' ex g e => ?_⟩
    obtain ⟨v, h1, h2⟩ := dpa_get a e
    have := g _ (sql_ex ex h)
    rw [h1] at this
    cases this
    exact h2
  | str z =>
    cases e
    refine ⟨.txt z, rfl, (fun a q => by cases q), fun H' x => (by show z.cps.size = _; simp), fun H' i x d' ex g e => ?_⟩
    obtain ⟨c, hc, rfl⟩ := g
    rw [List.getElem?_map] at e
    have : z.cps.toList[i]? = some c := by simpa using hc
    rw [this] at e
    cases e
    exact .str _
  | tup h a => cases e
  | non => cases e
  | bl b => cases e
  | int i => cases e
section
variable {Γ : G} {O W : List Nat} {elts : List Expr} {kk : Nat} {p pos tpos : Pos} {a : Expr} {ma : ME}
theorem ti_enumG (hg : Γ.sc.names.lookup ("enumerate" : Str) = some .globalImplicit) (hm : Γ.mg "enumerate" = none) (ha : TrE Γ O O W a ma) (hs : ∀ env : Env, starEach [a] env = [(false, eval a env)] := by intro _; rfl) :
    TrI Γ O W (.Tuple elts kk tpos) (.Call (.Name "enumerate" p) [a] [] pos) (xEnum (xItemsLS ma)) := by
  obtain ⟨ta, pa, qa⟩ := ha
  refine ⟨iEnumG Γ.K (tCons ta tNil), fun X h => ?_, fun c σ H s r ds s' e Q k => ?_⟩
  · rw [← h.K]
    exact pi_enumG (h.gl hg) (h.mgn hm) (pa_cons (pa X h) pa_nil (hs _)) (hs _)
  · unfold xEnum at e
    obtain ⟨p1, e1, e⟩ := mapNx_of e
    cases e
    unfold xItemsLS at e1
    obtain ⟨q1, e2, e3⟩ := bind_of e1
    obtain ⟨es, e4, e5⟩ := mapNx_of e3
    cases e5
    refine qa c σ H s r _ _ e2 _ fun v H1 r1 x1 h1 => ?_
    obtain ⟨g, v1, nt, l1, t1⟩ := items_ofLS h1 e4
    refine ⟨v, g, _, rfl, v1, l1 _ ex_hide0, nt, k _ H1 r1 x1 fun i c' σ' H' e t => ⟨fun d hi => ?_, fun hi => ?_⟩⟩
    · rw [List.getElem?_mapIdx] at hi
      cases e1 : es[i]? with
      | none => rw [e1] at hi; cases hi
      | some d0 =>
        rw [e1] at hi
        cases hi
        have b1 := (List.getElem?_eq_some_iff.mp e1).1
        refine ⟨⟨_, l1 _ (e.trans ex_hide0), b1⟩, fun x H'' y => ?_⟩
        obtain ⟨T, x, rfl, hT, rfl, y⟩ := y
        have ex := ex_upd (o := HO.tup [.int (i : Nat), x]) hT
        have z1 := t1 _ i x _ (e.trans ex_hide0) y e1
        refine ⟨ex, .tup (.inl (.inl (hide_of (fun z => ?_) upd_same))) (.cons (.int _) (.cons (dp_ex (e.trans (ex_hide ex)) z1) .nil))⟩
        obtain ⟨o, z⟩ := t T z
        rw [hT] at z; cases z
    · rw [List.length_mapIdx] at hi
      rw [hi]
      exact l1 _ (e.trans ex_hide0)
end
/-! ## list of a text -/
def signsV (z : Str) : List V := z.cps.toList.map fun k => .str ⟨#[k]⟩
def signsD (z : Str) : List D := z.cps.toList.map fun k => .str ⟨#[k]⟩
def rListS : List V → Hp → VK → Prop := fun xs H Q => ∃ z : Str, xs = [.str z] ∧ z.cps.size ≤ sizeLine ∧ ∀ p, H p = none → Q (.ref p) (upd H p (.lst (signsV z)))
theorem vals_signs {z : Str} : ∀ (l : List Nat) (its : List Value) (i : Nat), z.cps.toList.drop i = l → its.length = l.length → (∀ j v, its[j]? = some v → ∃ c u, z.cps[i + j]? = some c ∧ v = .str ⟨#[c]⟩ u) → Vals (l.map fun k => V.str ⟨#[k]⟩) its
  | [], its, i, _, hl, _ => by
    cases its with
    | nil => exact .nil
    | cons => cases hl
  | k :: l, [], i, _, hl, _ => by cases hl
  | k :: l, v :: its, i, hd, hl, h => by
    have hk : z.cps[i]? = some k := by
      have : (z.cps.toList.drop i)[0]? = some k := by rw [hd]; rfl
      rw [List.getElem?_drop] at this
      simpa using this
    obtain ⟨c, u, hc, rfl⟩ := h 0 v rfl
    rw [Nat.add_zero, hk] at hc
    cases hc
    refine .cons ⟨u, rfl⟩ (vals_signs (z := z) l its (i + 1) ?_ (by simpa using hl) fun j w e => ?_)
    · rw [← List.drop_drop, hd]; rfl
    · obtain ⟨c, u, hc, e'⟩ := h (j + 1) w (by simpa using e)
      exact ⟨c, u, by rw [← hc]; congr 1; omega, e'⟩
theorem call_listS {X : Cx} (hc : X.calm = true) : CallR X (.type "list") rListS := by
  intro pins s σ H xs us Q I r h
  obtain ⟨z, rfl, hz, q⟩ := h
  cases r with
  | cons r rr =>
    cases rr
    obtain ⟨t, rfl⟩ := r
    have hf := I.hok.fresh (Nat.le_refl s.heap.objs.size)
    refine call_list_str (I.ok.hd hc) z t (fun h' tk acc' c' hk hS hacc => ?_) hz
    have hv : Vals (signsV z) acc'.toList := vals_signs z.cps.toList acc'.toList 0 rfl (by rw [Array.length_toList, hacc.1, Array.length_toList]) fun j v e => by
      obtain ⟨c, u, e1, e2⟩ := hacc.2 j v (by simpa using e)
      exact ⟨c, u, by rw [Nat.zero_add]; exact e1, e2⟩
    have I2 := I.laid (a := s.heap.objs.size) (o := .lst (signsV z)) (h' := h') (t' := tk) hk (Nat.le_refl _) ⟨by unfold signsV; rw [List.length_map, Array.length_toList]; exact hz, acc'.toList, c', hv, by rw [Array.toArray_toList]; exact hS⟩
    exact ⟨.ref s.heap.objs.size, _, I2, rfl, q _ hf⟩
theorem dpa_signs {K : PySem.W.Frag} {H : Hp} (z : Str) : RpAll K H (signsV z) (signsD z) := by
  unfold signsV signsD
  induction z.cps.toList with
  | nil => exact .nil
  | cons k l ih => exact .cons (.str _) ih
def xLstS (m : ME) : MF := fun s => (m s).bind fun p => match p.1 with
  | .str z => if z.length ≤ 1000000 then some (signsD z, p.2) else none
  | _ => none
section
variable {Γ : G} {O L L0 W : List Nat} {a : Expr} {ma : ME} {p pos : Pos}
theorem tf_listS (hg : Γ.sc.names.lookup ("list" : Str) = some .globalImplicit) (hm : Γ.mg "list" = none) (ha : TrE Γ O L0 W a ma) (hW : ∀ j ∈ W, j ∈ O) (hst : ∀ env : Env, starEach [a] env = (false, eval a env) :: starEach [] env := by intro _; rfl) (hcm : Γ.calm = true := by rfl) : TrF Γ O L W (.Call (.Name "list" p) [a] [] pos) (xLstS ma) := by
  obtain ⟨ta, pa, qa⟩ := ha
  refine ⟨tCB rListS (tCons ta tNil), fun X h => pe_callTy (call_listS (h.cm hcm)) (h.gl hg) (h.mgn hm) (by decide +kernel) (pa_cons (pa X h) pa_nil (hst _)) (by decide) (by decide) (hst _), fun c σ H s r ds s' e Q k => ?_⟩
  unfold xLstS at e
  obtain ⟨q1, e1, e2⟩ := bind_of e
  obtain ⟨d, s1⟩ := q1
  cases d <;> first | (cases e2; done) | skip
  rename_i z
  simp only at e2
  split at e2
  · rename_i hz
    cases e2
    refine qa c σ H s r _ _ e1 _ fun v H1 r1 x1 d1 => ?_
    cases d1
    exact ⟨z, rfl, sz1M hz, simF_new r1 x1 (fresh_of r1 hW x1) (dpa_signs z) k⟩
  · cases e2
end
theorem KDg.m {K : PySem.W.Frag} {w : World} {a : Addr} {f : Str → Option D} (h : KDg K w a f) : KDm K w a f := fun z d e => by
  rcases h.2 z with ⟨d', v, e1, ⟨es, n, r, D, e2, hr⟩, h2⟩ | ⟨e1, _⟩
  · rw [e] at e1
    cases e1
    rcases hr with ⟨q, _⟩ | ⟨v', u, q1, q2, r1⟩
    · cases q
    · cases q1
      subst q2
      exact ⟨v, ⟨es, n, u, D.at_, D.lit, e2, r1⟩, h2⟩
  · rw [e] at e1; cases e1
theorem tabW {fa : List He.Fa} {fn : List He.DefD} {ts : List He.Tab} {w : World} {K : PySem.W.Frag} (c : He.SaysT fa fn ts w K) (i : Nat) {t : He.Tab} (h : ts[i]? = some t := by rfl) : He.dicW K (t.1 K) = some (He.keysIn w.params t.2) := by
  have e : ts.map (fun t => He.dicW K (t.1 K)) = ts.map fun t => some (He.keysIn w.params t.2) := congrArg (fun z : He.AlT => z.2) c
  have e2 : (ts.map fun t => He.dicW K (t.1 K))[i]? = (ts.map fun t => some (He.keysIn w.params t.2))[i]? := by rw [e]
  rw [List.getElem?_map, List.getElem?_map, h] at e2
  exact Option.some.inj e2
end Z


namespace Z
open PySem PySem.Spec PyProof.Rows L2
/-! simp rows that run the mirrors of Z13, Z18 .. Z21 -/
@[simp] theorem dBit_ii (f : Int → Int → Int) (a b : Int) : dBit f (.int a) (.int b) = some (.int (f a b)) := rfl
theorem dShl_ii {a b : Int} (h : 0 ≤ b) (h2 : b ≤ 1000000) (h3 : a.natAbs < 2 ^ 64) : dShl (.int a) (.int b) = some (.int (a * 2 ^ b.toNat)) := if_pos ⟨h, h2, h3⟩
@[simp] theorem dShl_1 (b : Nat) (h2 : b ≤ 1000000) : dShl (.int 1) (.int (b : Int)) = some (.int ((2 ^ b : Nat) : Int)) := by
  rw [dShl_ii (by omega) (by omega) (by decide), Int.one_mul, Int.toNat_natCast, Int.natCast_pow]; rfl
theorem dShr_ii {a b : Int} (h : 0 ≤ b) : dShr (.int a) (.int b) = some (.int (a / 2 ^ b.toNat)) := if_pos h
@[simp] theorem dShr_nn (a b : Nat) : dShr (.int (a : Int)) (.int (b : Int)) = some (.int ((a / 2 ^ b : Nat) : Int)) := by
  rw [dShr_ii (by omega), Int.toNat_natCast, Int.natCast_ediv, Int.natCast_pow]; rfl
section
variable {s : MS} {xs : List D}
def repK (xs : List D) (n : Int) (s : MS) : Option (List D × MS) := if -1000000 ≤ n ∧ n ≤ 1000000 ∧ xs.length * n.toNat ≤ 1000000 then some ((List.replicate n.toNat xs).flatten, s) else none
def kRep1 (k : ME) : List D → MS → Option (List D × MS) := fun xs s => (k s).bind fun q => match q.1 with
  | .int n => repK xs n q.2
  | _ => none
def kRep2 (xs : List D) : D → MS → Option (List D × MS) := fun x s => match x with
  | .int n => repK xs n s
  | _ => none
@[simp] theorem xRep_ap (m : MF) (k : ME) : xRep m k s = bE (m s) (kRep1 k) := rfl
@[simp] theorem kRep1_ap (k : ME) : kRep1 k xs s = bE (k s) (kRep2 xs) := rfl
@[simp] theorem kRep2_ap (n : Int) : kRep2 xs (.int n) s = repK xs n s := rfl
theorem rep1 {x : D} {n : Nat} (h : n ≤ 1000000) : repK [x] (n : Int) s = some (List.replicate n x, s) := by
  unfold repK
  rw [if_pos ⟨by omega, by omega, by simp; omega⟩, Int.toNat_natCast]
  congr 2
  induction n with
  | zero => rfl
  | succ n ih => rw [List.replicate_succ, List.flatten_cons, ih (by omega)]; rfl
def kItems : D → MS → Option (List D × MS) := fun x s => ret1 (itemsD x) s
@[simp] theorem xItems_ap (m : ME) : xItems m s = bE (m s) kItems := rfl
@[simp] theorem kItems_ap (x : D) : kItems x s = ret1 (itemsD x) s := rfl
@[simp] theorem itemsD_l : itemsD (.list xs) = some xs := rfl
@[simp] theorem itemsD_t : itemsD (.tuple xs) = some xs := rfl
@[simp] theorem itemsD_s (z : Str) : itemsD (.str z) = some (signsD z) := rfl
def kItemsLS : D → MS → Option (List D × MS) := fun x s => ret1 (itemsLS x) s
@[simp] theorem xItemsLS_ap (m : ME) : xItemsLS m s = bE (m s) kItemsLS := rfl
@[simp] theorem kItemsLS_ap (x : D) : kItemsLS x s = ret1 (itemsLS x) s := rfl
@[simp] theorem itemsLS_l : itemsLS (.list xs) = some xs := rfl
@[simp] theorem itemsLS_s (z : Str) : itemsLS (.str z) = some (signsD z) := rfl
def kLstS : D → MS → Option (List D × MS) := fun x s => match x with
  | .str z => if z.length ≤ 1000000 then some (signsD z, s) else none
  | _ => none
@[simp] theorem xLstS_ap (m : ME) : xLstS m s = bE (m s) kLstS := rfl
@[simp] theorem kLstS_ap (z : Str) : kLstS (.str z) s = if z.length ≤ 1000000 then some (signsD z, s) else none := rfl
def kKG1 (f : Str → Option D) (d : ME) : D → MS → Option (D × MS) := fun x s => (d s).bind fun q => match x with
  | .str z => some ((f z).getD q.1, q.2)
  | _ => none
def kKG2 (f : Str → Option D) (z : Str) : D → MS → Option (D × MS) := fun y s => some ((f z).getD y, s)
@[simp] theorem xKGet_ap (f : Str → Option D) (e d : ME) : xKGet f e d s = bE (e s) (kKG1 f d) := rfl
@[simp] theorem kKG1_ap (f : Str → Option D) (d : ME) (z : Str) : kKG1 f d (.str z) s = bE (d s) (kKG2 f z) := rfl
@[simp] theorem kKG2_ap (f : Str → Option D) (z : Str) (y : D) : kKG2 f z y s = some ((f z).getD y, s) := rfl
def kCh1 (f g : D → D → Option D) (b c : ME) : D → MS → Option (D × MS) := fun x s => (b s).bind fun q => (f x q.1).bind fun z => match z with
  | .bool true => (c q.2).bind fun w => (g q.1 w.1).map fun u => (u, w.2)
  | .bool false => some (.bool false, q.2)
  | _ => none
def kCh2 (f g : D → D → Option D) (c : ME) (x : D) : D → MS → Option (D × MS) := fun y s => (f x y).bind fun z => match z with
  | .bool true => (c s).bind fun w => (g y w.1).map fun u => (u, w.2)
  | .bool false => some (.bool false, s)
  | _ => none
@[simp] theorem xChain_ap (f g : D → D → Option D) (a b c : ME) : xChain f g a b c s = bE (a s) (kCh1 f g b c) := rfl
@[simp] theorem kCh1_ap (f g : D → D → Option D) (b c : ME) (x : D) : kCh1 f g b c x s = bE (b s) (kCh2 f g c x) := rfl
def kCh3 (g : D → D → Option D) (c : ME) (y : D) (p : Bool) (s : MS) : Option (D × MS) := if p = true then bE (c s) (kOp2 g y) else some (.bool false, s)
@[simp] theorem kCh3_t (g : D → D → Option D) (c : ME) (y : D) : kCh3 g c y true s = bE (c s) (kOp2 g y) := rfl
@[simp] theorem kCh3_f (g : D → D → Option D) (c : ME) (y : D) : kCh3 g c y false s = some (.bool false, s) := rfl
def bB (o : Option D) (k : Bool → Option (D × MS)) : Option (D × MS) := match o with
  | some (.bool p) => k p
  | _ => none
@[simp] theorem bB_some (p : Bool) (k : Bool → Option (D × MS)) : bB (some (.bool p)) k = k p := by
  unfold bB; simp only
@[simp] theorem kCh2_ap (f g : D → D → Option D) (c : ME) (x y : D) : kCh2 f g c x y s = bB (f x y) fun p => kCh3 g c y p s := by
  unfold kCh2 bB kCh3
  cases h : f x y with
  | none => rfl
  | some z =>
    cases z <;> try rfl
    rename_i p
    cases p <;> rfl
@[simp] theorem dIsi_ap (T : String) (x : D) : dIsi T x = (kitB (tyD x) T).map .bool := rfl
/-! loops over a list that is written out: simp [forL_n, forL_c] -/
section
variable (b : D → MS → Option MS) (m : MM) (d : D) (ds : List D) (s : MS)
def bM (o : Option MS) (k : MM) : Option Out := o.bind k
@[simp] theorem bM_some : bM (some s) m = m s := by
  unfold bM; rw [Option.bind_some]
def lp (o : Option Out) : Option Out := o.bind fun o => match o with
  | .nx s2 => forL b m ds s2
  | .ct s2 => forL b m ds s2
  | .bk s2 => some (.nx s2)
  | .rt d s2 => some (.rt d s2)
  | .ex x s2 => some (.ex x s2)
theorem forL_n : forL b m [] s = some (.nx s) := rfl
theorem forL_c : forL b m (d :: ds) s = lp b m ds (bM (b d s) m) := by
  show (b d s).bind _ = _
  unfold lp bM
  cases b d s with
  | none => rfl
  | some s1 => rfl
@[simp] theorem lp_nx : lp b m ds (some (.nx s)) = forL b m ds s := by
  unfold lp; rw [Option.bind_some]
@[simp] theorem lp_ct : lp b m ds (some (.ct s)) = forL b m ds s := by
  unfold lp; rw [Option.bind_some]
@[simp] theorem lp_bk : lp b m ds (some (.bk s)) = some (.nx s) := by
  unfold lp; rw [Option.bind_some]
@[simp] theorem lp_ex (x : Exn) : lp b m ds (some (.ex x s)) = some (.ex x s) := by
  unfold lp; rw [Option.bind_some]
@[simp] theorem lp_rt : lp b m ds (some (.rt d s)) = some (.rt d s) := by
  unfold lp; rw [Option.bind_some]
end
@[simp] theorem mNo_ap : mNo s = none := rfl
@[simp] theorem xNo_ap : xNo s = none := rfl
end
end Z


namespace Z
open PySem PySem.Spec PyProof.Rows L2
section
variable {α : Type} {vs : List Nat} {b : D → MS → Option MS} {t : MT} {e : ME} {m : MM}
/-- a comprehension that takes all, told by what is done, what is found and the state -/
theorem lc_each (enc : α → D) (Inv : List α → List D → MS → Prop) : ∀ (xs done : List α) (acc : List D) (s : MS), Inv done acc s → (∀ d x r, done ++ xs = d ++ x :: r → ∀ acc s, Inv d acc s → ∃ s1 s2 y s3, b (enc x) s = some s1 ∧ t s1 = some (true, s2) ∧ e s2 = some (y, s3) ∧ Inv (d ++ [x]) (acc ++ [y]) (wipeM s3 vs)) →
    ∃ ys s', lcL vs b t e (xs.map enc) s = some (ys, s') ∧ Inv (done ++ xs) (acc ++ ys) s'
  | [], done, acc, s, h, _ => ⟨[], s, rfl, by rw [List.append_nil, List.append_nil]; exact h⟩
  | x :: r, done, acc, s, h, hs => by
    obtain ⟨s1, s2, y, s3, h1, h2, h3, h4⟩ := hs done x r rfl acc s h
    obtain ⟨ys, s', e1, e2⟩ := lc_each enc Inv r (done ++ [x]) (acc ++ [y]) _ h4 fun d z q w => hs d z q (by rw [← w, List.append_assoc]; rfl)
    refine ⟨y :: ys, s', ?_, by rw [List.append_assoc, List.append_assoc] at e2; exact e2⟩
    rw [List.map_cons, lcL, h1]
    simp only [Option.bind_some]
    rw [h2]
    simp only [Option.bind_some]
    rw [h3]
    simp only [if_true, Option.bind_some]
    rw [e1]
    rfl
theorem kLc_each (enc : α → D) (Inv : List α → List D → MS → Prop) {s : MS} {xs : List α} (hl : xs.length ≤ 1000000) (h0 : Inv [] [] (wipeM s vs)) (h : ∀ d x r, xs = d ++ x :: r → ∀ acc s, Inv d acc s → ∃ s1 s2 y s3, b (enc x) s = some s1 ∧ t s1 = some (true, s2) ∧ e s2 = some (y, s3) ∧ Inv (d ++ [x]) (acc ++ [y]) (wipeM s3 vs)) :
    ∃ ys s', kLc vs b t e (xs.map enc) s = some (ys, unwipe s s' vs) ∧ Inv xs ys s' := by
  obtain ⟨ys, s', h1, h2⟩ := lc_each enc Inv xs [] [] _ h0 h
  refine ⟨ys, s', ?_, h2⟩
  unfold kLc
  rw [if_pos (by rw [List.length_map]; exact hl), h1]
  rfl
end
@[simp] theorem dInt_b (b : Bool) : dInt [.bool b] = some (.int (if b then 1 else 0)) := rfl
end Z


namespace Z
open PySem PySem.Spec PyProof.Rows L2
/-! ## defs that may let an exception out -/
def spX (K : PySem.W.Frag) (f : List D → Option (D ⊕ Exn)) : Sp := fun vs H Q E => ∃ (C : Addr → Prop) (ds : List D) (r : D ⊕ Exn), (∀ p, C p → ∃ o, H p = some o) ∧ RpAll K (hide C H) vs ds ∧ f ds = some r ∧
  (∀ d, r = .inl d → ∀ v H', Ex H H' → Rp K (hide C H') v d → Q v H') ∧ (∀ x, r = .inr x → ∀ cls d H', Ex H H' → RX K (hide C H') cls d x → E cls d H')
def outX : Out → Option (D ⊕ Exn)
  | .rt d _ => some (.inl d)
  | .nx _ => some (.inl .none)
  | .ex x _ => some (.inr x)
  | _ => none
def fnX (a n : Nat) (m : MM) : List D → Option (D ⊕ Exn) := fun ds => if ds.length = a then (m (startM n ds)).bind outX else none
section
variable {P : Program} {w : World} {K : PySem.W.Frag} {mg : Str → Option Value} {base : Heap} {x qual : Str} {st : Stmt} {f : Addr} {fd : FuncData} {N ps : List Str} {k a n : Nat} {m : MM}
theorem fn_X (F : FnP K x qual st f fd) (S : FnScope N ps (defScope st)) (ha : ps.length = a) (hn : N.length = n) (h : ∀ A, Room k A → TrSs (G0 P w K mg base A N (defScope st)) [] false [] [] [] (defBody st) m) : FnOk P w K mg base (L2.CX P w) (k + 1) f fd ps (spX K (fnX a n m)) := by
  refine F.ok S (fun vs H Q E hs => ?_) (fun cdv A outer s H vs Q E hr hs => ?_)
  · obtain ⟨C, ds, r, _, hd, e, _⟩ := hs
    unfold fnX at e
    split at e
    · rw [dpa_len hd, ha]; assumption
    · cases e
  · obtain ⟨C, ds, r, hC, hd, e, q, qx⟩ := hs
    unfold fnX at e
    split at e
    · obtain ⟨o, e1, e2⟩ := bind_of e
      obtain ⟨t, pt, st'⟩ := h _ hr
      have hx : (cxOf (L2.CX P w) P w K mg base N qual (defScope st) f cdv A outer s H E).xe = fun e' s' => wpAny (model P w) (A.deeper (envOfC qual (defScope st) s.heap.objs.size f cdv)) (leaving (envOfC qual (defScope st) s.heap.objs.size f cdv) e') (fun _ s'' => L2.CX P w outer H s E e' s'') (fun e'' s'' => L2.CX P w outer H s E e'' s'') s' := rfl
      refine ⟨t fun cls d _ H => E cls d H, pt _ _ (inX0 S.nd) (fun u s' z => ?_), st' ⟨C, [], start N vs⟩ rfl (start N vs) H (startM n ds) (R_start hn hC hd) o e1 _ _ ⟨fun s' σ' H' eo r' fr => ?_, fun s' σ' H' eo r' fr => ?_, fun s' σ' H' eo r' fr => ?_, fun d' s' v H' eo rt => ?_, fun x' s' σ' H' cls d' eo r' fr rx => ?_⟩⟩
      · rw [hx]
        exact XE.leave (X := cxOf (L2.CX P w) P w K mg base N qual (defScope st) f cdv A outer s H E) (W := fun cls d _ H => E cls d H) (E := E) rfl rfl rfl (fun _ _ _ _ h => h) z
      · subst eo
        cases e2
        unfold Fr at fr
        rw [own_nil, own_nil, hide_false, hide_false] at fr
        exact q _ rfl .non H' fr .non
      · subst eo; cases e2
      · subst eo; cases e2
      · subst eo
        cases e2
        have fr := rt.fr
        have hT : (Cn.mk C [] (start N vs)).T = fun _ => False := own_nil
        rw [own_nil, hT, hide_false, hide_false] at fr
        exact q _ rfl v H' fr (dp_ex (ex_hide_sub fun a z => .inl z) rt.val)
      · subst eo
        cases e2
        unfold Fr at fr
        rw [own_nil] at fr
        have e0 : Own (G0 P w K mg base (A.deeper (envOfC qual (defScope st) s.heap.objs.size f cdv)) N (defScope st)).ox σ' = fun _ => False := own_nil
        rw [e0, hide_false, hide_false] at fr
        refine qx _ rfl cls d' H' fr (rx_ex (ex_hide_sub fun a z => .inl z) rx)
    · cases e
/-- what stands of a def of the module that may let an exception out -/
structure FnAtX (P : Program) (w : World) (K : PySem.W.Frag) (mg : Str → Option Value) (base : Heap) (k : Nat) (x : Str) (ps : List Str) (sp : Sp) : Prop where
  ex : ∃ f fd, FnOk P w K mg base (L2.CX P w) k f fd ps sp ∧ mg x = some (.ref f) ∧ PySem.W.keepIn K (.ref f) = true ∧ Binds K fd ps []
theorem fnAtX {sp : Sp} (F : FnP K x qual st f fd) (G : FnOk P w K mg base (L2.CX P w) k f fd ps sp) (hm : mg x = some (.ref f)) (hb : Binds K fd ps []) : FnAtX P w K mg base k x ps sp := ⟨f, fd, G, hm, F.kp, hb⟩
end
theorem passF {X : Cx} : Passes (L2.CX X.prog X.w) X (fun _ _ _ => False) := fun _ _ _ _ _ _ _ ⟨_, _, _, _, _, _, _, _, _, _, _, _, h⟩ => h.elim
theorem pa_nox {X : Cx} {es : List Expr} {t : TA} (h : PA X.nox es t) : PA X es t := ⟨fun pos pins s σ H Q I hw =>
  wpAny_mono (h.run pos pins s σ H Q (I.wish _) hw) (fun _ _ ⟨vs, H', I', r, q⟩ => ⟨vs, H', I'.unwish, r, q⟩) fun _ _ z => False.elim z⟩
def okX (mf : List D → Option (D ⊕ Exn)) : List D → Option D := fun ds => (mf ds).bind fun r => match r with
  | .inl d => some d
  | .inr _ => none
section
variable {Γ : G} {O L L0 W : List Nat} {e : Expr} {es : List Expr} {ms : MF} {x : Str} {p pos : Pos} {k : Nat} {ps : List Str}
theorem InG.fnX {Γ : G} {X : Cx} {f : Addr} {fd : FuncData} (h : InG Γ X) {sp : Sp} (F : FnOk Γ.P Γ.w Γ.K Γ.mg Γ.base (L2.CX Γ.P Γ.w) k f fd ps sp) : FnOk X.prog X.w X.K X.mg X.base (L2.CX X.prog X.w) k f fd ps sp := by
  rw [h.prog, h.w, h.K, h.mg, h.base]; exact F
/-- .. called where it lets none out -/
theorem tr_callX {mf : List D → Option (D ⊕ Exn)} (F : FnAtX Γ.P Γ.w Γ.K Γ.mg Γ.base k x ps (spX Γ.K mf)) (hr : Room k Γ.A) (hg : Γ.sc.names.lookup x = some .globalImplicit) (ha : TrA Γ O L W (e :: es) ms) (hL : ∀ j ∈ L, j ∈ O)
    (hdb : (x == ("__debug__" : Str)) = false := by decide) (he : ∀ env : Env, starEach (e :: es) env = (false, eval e env) :: starEach es env := by intro _; rfl) (hpl : ∀ env : Env, (backTo pos (starEach es env)).any (·.1) = false := by intro _; rfl) :
    TrE Γ O L W (.Call (.Name x p) (e :: es) [] pos) (xFn (okX mf) ms) := by
  obtain ⟨f, fd, F, hm, hk, hb⟩ := F.ex
  obtain ⟨t, pa, sa⟩ := ha
  refine ⟨tCall (spX Γ.K mf) [] (fun _ _ _ => False) t, fun X h => pe_call (h.fnX F) (h.room hr) (h.gl hg) (h.mgn hm) (h.kp hk) (h.bd hb) .nil passF (pa X h) hdb (he X.env) (hpl X.env), fun c σ H s r d s' e Q q => ?_⟩
  obtain ⟨ds, e1, e2⟩ := xFn_of e
  refine sa c σ H s r _ _ e1 _ fun vs H1 r1 x1 d1 => ?_
  unfold okX at e2
  obtain ⟨r0, e3, e4⟩ := bind_of e2
  cases r0 with
  | inr y => cases e4
  | inl d0 =>
    cases e4
    exact ⟨c.msk L σ, ds, .inl d, msk_there r1 hL, by rw [List.append_nil]; exact d1, e3, fun d' ed v H2 x2 d2 => by cases ed; exact q v H2 (r1.ex x2) (x1.trans (ex_hide x2)) d2, fun y ey => by cases ey⟩
/-! ## expressions whose last step may let one out -/
abbrev MC := MS → Option ((D ⊕ Exn) × MS)
def SimC (K : PySem.W.Frag) (O L W : List Nat) (t : (L2.St → XK) → TE) (m : MC) : Prop := ∀ (c : Cn) (σ : L2.St) (H : Hp) (s : MS), R K c O s σ H → ∀ r s', m s = some (r, s') → ∀ (Q : VK) (E : L2.St → XK),
  (∀ d, r = .inl d → ∀ v H', R K c O s' σ H' → Ex (hide (Own W σ) H) (hide (Own W σ) H') → Rp K (hide (c.msk L σ) H') v d → Q v H') →
  (∀ x, r = .inr x → ∀ cls d H', R K c O s' σ H' → Ex (hide (Own W σ) H) (hide (Own W σ) H') → RX K (hide (c.msk L σ) H') cls d x → E σ cls d H') → t E σ H Q
def TrC (Γ : G) (O L W : List Nat) (e : Expr) (m : MC) : Prop := ∃ t, (∀ X V, InX Γ X → Takes X V → PE X e (t (WE V))) ∧ SimC Γ.K O L W t m
def xCall (f : List D → Option (D ⊕ Exn)) (as : MF) : MC := fun s => (as s).bind fun p => (f p.1).map fun z => (z, p.2)
theorem tc_call {mf : List D → Option (D ⊕ Exn)} (F : FnAtX Γ.P Γ.w Γ.K Γ.mg Γ.base k x ps (spX Γ.K mf)) (hr : Room k Γ.A) (hg : Γ.sc.names.lookup x = some .globalImplicit) (ha : TrA Γ O L W (e :: es) ms) (hL : ∀ j ∈ L, j ∈ O)
    (hdb : (x == ("__debug__" : Str)) = false := by decide) (he : ∀ env : Env, starEach (e :: es) env = (false, eval e env) :: starEach es env := by intro _; rfl) (hpl : ∀ env : Env, (backTo pos (starEach es env)).any (·.1) = false := by intro _; rfl) :
    TrC Γ O L W (.Call (.Name x p) (e :: es) [] pos) (xCall mf ms) := by
  obtain ⟨f, fd, F, hm, hk, hb⟩ := F.ex
  obtain ⟨t, pa, sa⟩ := ha
  refine ⟨fun E => tCallS (spX Γ.K mf) E t, fun X V h tk => pe_callS (X := X) (CX := L2.CX X.prog X.w) (h.g.fnX F) (h.g.room hr) (h.g.gl hg) (h.g.mgn hm) (h.g.kp hk) (h.g.bd hb) (fun σ => passAt tk σ) (pa_nox (pa _ h.g)) hdb (he X.env) (hpl X.env), fun c σ H s r r0 s' e Q E q qx => ?_⟩
  · unfold xCall at e
    obtain ⟨⟨ds, s1⟩, e1, e2⟩ := bind_of e
    obtain ⟨r1', e3, e4⟩ := mapNx_of e2
    cases e4
    refine sa c σ H s r _ _ e1 _ fun vs H1 r1 x1 d1 => ?_
    exact ⟨c.msk L σ, ds, _, msk_there r1 hL, d1, e3, fun d' ed v H2 x2 d2 => q d' ed v H2 (r1.ex x2) (x1.trans (ex_hide x2)) d2, fun y ey cls d H2 x2 rx => qx y ey cls d H2 (r1.ex x2) (x1.trans (ex_hide x2)) rx⟩
end
section
variable {Γ : G} {Th : List Nat} {fz : Bool} {O O' Ol L W : List Nat} {e : Expr} {m : MC} {pos : Pos}
def toO (g : D → MS → Option Out) : (D ⊕ Exn) × MS → Option Out := fun p => match p.1 with
  | .inl d => g d p.2
  | .inr x => some (.ex x p.2)
def mSetC (i : Nat) (m : MC) : MM := fun s => (m s).bind (toO fun d s => some (.nx (s.set i (some d))))
def mRetC (m : MC) : MM := fun s => (m s).bind (toO fun d s => some (.rt d s))
def mDropC (m : MC) : MM := fun s => (m s).bind (toO fun _ s => some (.nx s))
def mAsgC (m : MC) (b : D → MS → Option MS) : MM := fun s => (m s).bind (toO fun d s => (b d s).map .nx)
/-- an exception that leaves a statement -/
theorem ex_out {c : Cn} {σ : L2.St} {H H1 : Hp} {s1 : MS} {x : Exn} {cls : Value} {d : Option Addr} {E : Ends} {V : WX} (hc : c.Th = Th) (hx : ∀ j ∈ Γ.ox, j ∈ O) (hxT : ∀ j ∈ Th, j ∈ Γ.ox) (hW : ∀ j ∈ W, j ∈ O) (hL : ∀ j ∈ Γ.ox, j ∈ L)
    (w : Ways Γ.K fz c O O' Ol Γ.ox σ H (.ex x s1) E V) (r1 : R Γ.K c O s1 σ H1) (x1 : Ex (hide (Own W σ) H) (hide (Own W σ) H1)) (rx : RX Γ.K (hide (c.msk L σ) H1) cls d x) : V cls d σ H1 := by
  obtain ⟨r2, x2⟩ := r1.free hx (by rw [hc]; exact hxT)
  exact w.ex x s1 σ H1 cls d rfl r2 ((Fr.of_ex hW x1).trans x2) (rx_ex (ex_hide_sub (msk_sub hL)) rx)
theorem ss_setC {i : Nat} {x : Str} {p2 : Pos} (hN : Γ.N[i]? = some x) (hv : locB Γ x = true) (he : TrC Γ O O W e m) (ht : i ∉ Th) (hO : ∀ j ∈ O', j ∈ O.filter (· ≠ i)) (hT : ∀ j ∈ Th, j ∈ O') (hW : ∀ j ∈ W, j ∈ O) (hx : ∀ j ∈ Γ.ox, j ∈ O) (hxT : ∀ j ∈ Th, j ∈ Γ.ox) (hs : swapsWith e (some (.Name x p2)) pos.line (envS Γ.sc) = pure false := by rfl) :
    TrS Γ Th fz O O' Ol (.Assign [.Name x p2] e pos) (mSetC i m) := by
  obtain ⟨t, p, q⟩ := he
  refine ⟨fun V => tAsg (t (WE V)) (gName i), fun X V h k => ps_set h.g.ndX (h.g.nx hN) (h.g.loc hv).1 (p X V h k) ((swaps_sc (h.g.sc.trans rfl)).trans hs) (h.g.loc hv).2, fun c hc σ H s r o e E V w => ?_⟩
  unfold mSetC at e
  obtain ⟨⟨r0, s1⟩, e1, e2⟩ := bind_of e
  refine q c σ H s r _ _ e1 _ _ (fun d ed v H1 r1 x1 d1 => ?_) fun y ey cls d H1 r1 x1 rx => ?_
  · subst ed
    cases e2
    obtain ⟨r2, x2⟩ := setR r1 d1 (by rw [hc]; exact ht) hO (by rw [hc]; exact hT)
    exact w.nx _ _ H1 rfl r2 ((Fr.of_ex hW x1).trans x2)
  · subst ey
    cases e2
    exact ex_out hc hx hxT hW hx w r1 x1 rx
theorem ss_dropC (he : TrC Γ O L W e m) (hW : ∀ j ∈ W, j ∈ O) (hx : ∀ j ∈ Γ.ox, j ∈ O) (hxT : ∀ j ∈ Th, j ∈ Γ.ox) (hL : ∀ j ∈ Γ.ox, j ∈ L) (hs : ∀ env : Env, swapsWith e none pos.line env = pure false := by intro _; rfl) : TrS Γ Th fz O O Ol (.Expr e pos) (mDropC m) := by
  obtain ⟨t, p, q⟩ := he
  refine ⟨fun V => tDrop (t (WE V)), fun X V h k => ps_expr (p X V h k) (hs X.env), fun c hc σ H s r o e E V w => ?_⟩
  unfold mDropC at e
  obtain ⟨⟨r0, s1⟩, e1, e2⟩ := bind_of e
  refine q c σ H s r _ _ e1 _ _ (fun d ed v H1 r1 x1 d1 => ?_) fun y ey cls d H1 r1 x1 rx => ?_
  · subst ed
    cases e2
    exact w.nx _ σ H1 rfl r1 (Fr.of_ex hW x1)
  · subst ey
    cases e2
    exact ex_out hc hx hxT hW hL w r1 x1 rx
theorem ss_retC (he : TrC Γ O Th W e m) (hW : ∀ j ∈ W, j ∈ O) (hx : ∀ j ∈ Γ.ox, j ∈ O) (hxT : ∀ j ∈ Th, j ∈ Γ.ox) (hL : ∀ j ∈ Γ.ox, j ∈ Th) : TrS Γ Th false O O' Ol (.Return (some e) pos) (mRetC m) := by
  obtain ⟨t, p, q⟩ := he
  refine ⟨fun V => tRet (t (WE V)), fun X V h k => ps_ret (p X V h k), fun c hc σ H s r o e E V w => ?_⟩
  unfold mRetC at e
  obtain ⟨⟨r0, s1⟩, e1, e2⟩ := bind_of e
  refine q c σ H s r _ _ e1 _ _ (fun d ed v H1 r1 x1 d1 => ?_) fun y ey cls d H1 r1 x1 rx => ?_
  · subst ed
    cases e2
    rw [← hc, msk_th r1] at d1
    exact w.rt _ _ v H1 rfl ⟨rt_ex r1 hW x1, rt_th r1, d1, fun z => Bool.noConfusion z⟩
  · subst ey
    cases e2
    exact ex_out hc hx hxT hW hL w r1 x1 rx
end
end Z


namespace Z
open PySem PySem.Spec PyProof.Rows L2
/-! ## except suites -/
/-- the context of a suite that handles the exception at a -/
abbrev G.sui (Γ : G) (a : Addr) : G := { Γ with A := Γ.A.mark (some (.ref a)), calm := false, ox := [] }
section
variable {Γ : G} {X : Cx} {a : Addr} {pn : List (Addr × Obj)}
theorem InX.sui (h : InX Γ X) : InG (Γ.sui a) (X.suite a pn) := ⟨h.g.prog, h.g.w, h.g.K, h.g.mg, h.g.base, congrArg (fun A : Around => A.mark (some (.ref a))) h.g.A, h.g.N, h.g.sc, h.g.fnc, h.g.nd, rfl, rfl⟩
theorem InX.suiX (h : InX Γ X) : InX (Γ.sui a) (X.suite a pn) := ⟨h.sui, PassesOwn.never, h.st, h.fr⟩
end
/-- the exception in slot i -/
structure JX (K : PySem.W.Frag) (c : Cn) (O : List Nat) (i : Nat) (a : Addr) (cls : Value) (d : Option Addr) (x : Exn) (σ : L2.St) (H : Hp) : Prop where
  at_ : σ[i]? = some (some (.ref a))
  rx : RX K (hide (c.msk O σ) H) cls d x
theorem JX.ex {K : PySem.W.Frag} {c : Cn} {O W : List Nat} {i : Nat} {a : Addr} {cls : Value} {d : Option Addr} {x : Exn} {σ : L2.St} {H H' : Hp} (j : JX K c O i a cls d x σ H) (hW : ∀ j ∈ W, j ∈ O) (e : Ex (hide (Own W σ) H) (hide (Own W σ) H')) : JX K c O i a cls d x σ H' := ⟨j.at_, rx_ex (keep hW e) j.rx⟩
abbrev Sui (Γ : G) (p : Cx → Addr → Value → Option Addr → Prop) : Prop := ∀ (X : Cx) (a : Addr) (oe : Obj) (cls : Value) (d : Option Addr) (pn : List (Addr × Obj)), InX Γ X → Zc cls d oe → (∃ vs, oe.data = .fields vs) → p (X.suite a ((a, oe) :: pn)) a cls d
def SimXE (K : PySem.W.Frag) (i : Nat) (O L W : List Nat) (t : Addr → Value → Option Addr → TE) (m : Exn → ME) : Prop := ∀ (c : Cn) (σ : L2.St) (H : Hp) (s : MS) (a : Addr) (cls : Value) (d : Option Addr) (x : Exn), R K c O s σ H → JX K c O i a cls d x σ H → ∀ r s', m x s = some (r, s') → ∀ Q : VK,
  (∀ v H', R K c O s' σ H' → Ex (hide (Own W σ) H) (hide (Own W σ) H') → Rp K (hide (c.msk L σ) H') v r → Q v H') → t a cls d σ H Q
def SimXA (K : PySem.W.Frag) (i : Nat) (O L W : List Nat) (t : Addr → Value → Option Addr → TA) (m : Exn → MF) : Prop := ∀ (c : Cn) (σ : L2.St) (H : Hp) (s : MS) (a : Addr) (cls : Value) (d : Option Addr) (x : Exn), R K c O s σ H → JX K c O i a cls d x σ H → ∀ r s', m x s = some (r, s') → ∀ Q : List V → Hp → Prop,
  (∀ v H', R K c O s' σ H' → Ex (hide (Own W σ) H) (hide (Own W σ) H') → RpAll K (hide (c.msk L σ) H') v r → Q v H') → t a cls d σ H Q
def SimXT (K : PySem.W.Frag) (i : Nat) (O W : List Nat) (t : Addr → Value → Option Addr → TT) (m : Exn → MT) : Prop := ∀ (c : Cn) (σ : L2.St) (H : Hp) (s : MS) (a : Addr) (cls : Value) (d : Option Addr) (x : Exn), R K c O s σ H → JX K c O i a cls d x σ H → ∀ r s', m x s = some (r, s') → ∀ Q : Bool → Hp → Prop,
  (∀ H', R K c O s' σ H' → Ex (hide (Own W σ) H) (hide (Own W σ) H') → Q r H') → t a cls d σ H Q
section
variable (Γ : G) (i : Nat) (O L W : List Nat)
def TrXE (e : Expr) (m : Exn → ME) : Prop := ∃ t, Sui Γ (fun X a cls d => PE X e (t a cls d)) ∧ SimXE Γ.K i O L W t m
def TrXA (es : List Expr) (m : Exn → MF) : Prop := ∃ t, Sui Γ (fun X a cls d => PA X es (t a cls d)) ∧ SimXA Γ.K i O L W t m
def TrXT (e : Expr) (m : Exn → MT) : Prop := ∃ t, Sui Γ (fun X a cls d => PT X e (t a cls d)) ∧ SimXT Γ.K i O W t m
def TrXW (e : Expr) (m : Exn → MT) : Prop := ∃ t, Sui Γ (fun X a cls d => PW X e (t a cls d)) ∧ SimXT Γ.K i O W t m
end
section
variable {Γ : G} {i : Nat} {O L L0 W : List Nat} {e e1 e2 : Expr} {es : List Expr} {pos : Pos}
theorem te_lift {m : ME} (h : ∀ a, TrE (Γ.sui a) O L W e m) : TrXE Γ i O L W e (fun _ => m) :=
  ⟨fun a _ _ => (h a).choose, fun X a oe cls d pn hX _ _ => (h a).choose_spec.1 _ hX.sui, fun c σ H s a cls d x r _ r0 s' e1 Q q => (h a).choose_spec.2 c σ H s r r0 s' e1 Q q⟩
theorem tx_lift {m : MT} (h : ∀ a, TrT (Γ.sui a) O W e m) : TrXT Γ i O W e (fun _ => m) :=
  ⟨fun a _ _ => (h a).choose, fun X a oe cls d pn hX _ _ => (h a).choose_spec.1 _ hX.sui, fun c σ H s a cls d x r _ r0 s' e1 Q q => (h a).choose_spec.2 c σ H s r r0 s' e1 Q q⟩
theorem tea_nil : TrXA Γ i O L W [] (fun _ => xaNil) := ⟨fun _ _ _ => tNil, fun _ _ _ _ _ _ _ _ _ => pa_nil, fun c σ H s a cls d x r _ ds s' e Q q => by cases e; exact q [] H r refl_hide .nil⟩
theorem tea_cons {m : Exn → ME} {ms : Exn → MF} (h : TrXE Γ i O L W e m) (hs : TrXA Γ i O L W es ms) (hW : ∀ j ∈ W, j ∈ L) (hL : ∀ j ∈ L, j ∈ O) (hst : ∀ env : Env, starEach (e :: es) env = (false, eval e env) :: starEach es env := by intro _; rfl) : TrXA Γ i O L W (e :: es) (fun x => xaCons (m x) (ms x)) := by
  obtain ⟨t, p, q⟩ := h
  obtain ⟨ts, ps, qs⟩ := hs
  refine ⟨fun a cls d => tCons (t a cls d) (ts a cls d), fun X a oe cls d pn hX hz hf => pa_cons (p X a oe cls d pn hX hz hf) (ps X a oe cls d pn hX hz hf) (hst X.env), fun c σ H s a cls d x r jx ds s' e Q k => ?_⟩
  obtain ⟨d1, s1, es, e1, e2, rfl⟩ := xaCons_of e
  refine q c σ H s a cls d x r jx _ _ e1 _ fun v H1 r1 x1 d1 => ?_
  refine qs c σ H1 s1 a cls d x r1 (jx.ex (fun j hj => hL j (hW j hj)) x1) _ _ e2 _ fun vs H2 r2 x2 d2 => ?_
  exact k _ H2 r2 (x1.trans x2) (.cons (dp_ex (keep hW x2) d1) d2)
theorem te_tup {k : Nat} {ms : Exn → MF} (hs : TrXA Γ i O L W es ms) (hL : ∀ j ∈ L, j ∈ O) : TrXE Γ i O L W (.Tuple es k pos) (fun x => xTup (ms x)) := by
  obtain ⟨ts, ps, qs⟩ := hs
  refine ⟨fun a cls d => tTup (ts a cls d), fun X a oe cls d pn hX hz hf => pe_tup (ps X a oe cls d pn hX hz hf), fun c σ H s a cls d x r jx r0 s' e Q q => ?_⟩
  obtain ⟨ds, e1, hl, rfl⟩ := xTup_of e
  refine qs c σ H s a cls d x r jx _ _ e1 _ fun vs H1 r1 x1 d1 => ⟨sz1000 (by rw [dpa_len d1]; exact hl), fun p hp => ?_⟩
  have x2 := ex_upd (o := HO.tup vs) hp
  refine q _ _ (r1.ex x2) (x1.trans (ex_hide x2)) (.tup (.inl (.inl (hide_of (fun z => ?_) upd_same))) (dpa_ex (ex_hide x2) d1))
  obtain ⟨o, z⟩ := msk_there r1 hL p z
  rw [hp] at z; cases z
/-- e.f: ns the classes whose exceptions may be handled here -/
def dAttr (ns : List Str) (f : Str) (x : Exn) : ME := fun s => if x.cls ∈ ns then (x.fs.lookup f).map fun y => (y, s) else none
open Classical in
theorem te_attr {y n : Str} {py : Pos} (ns : List Str) (hN : Γ.N[i]? = some y) (hv : visB Γ.sc y = true) (hT : ∀ z ∈ ns, XfC Γ.K (He.ga Γ.K z) ∧ PySem.W.findIn Γ.K (.ref (He.ga Γ.K z)) n = some none) (hL : ∀ j ∈ L, j ∈ O)
    (hd : (y == ("__debug__" : Str)) = false := by decide) (hcd : (y == ("__classdict__" : Str)) = false := by decide) (hb : ∀ env : Env, attributeBase (.Name y py) n env (eval (.Name y py) env) = eval (.Name y py) env := by intro _; rfl) :
    TrXE Γ i O L W (.Attribute (.Name y py) n pos) (dAttr ns n) := by
  refine ⟨fun a cls d => if h : ∃ z, z ∈ ns ∧ cls = .ref (He.ga Γ.K z) then tXf a cls d (He.ga Γ.K h.choose) n (tVar i) else fun _ _ _ => False, fun X a oe cls d pn hX hz hf => ?_, fun c σ H s a cls d x r jx r0 s' e Q q => ?_⟩
  · by_cases h : ∃ z, z ∈ ns ∧ cls = .ref (He.ga Γ.K z)
    · dsimp only
      rw [dif_pos h]
      obtain ⟨T, hno⟩ := hT _ h.choose_spec.1
      have eK : X.K = Γ.K := hX.g.K
      have T' : XfC X.K (He.ga Γ.K h.choose) := by rw [eK]; exact T
      have hno' : PySem.W.findIn X.K (.ref (He.ga Γ.K h.choose)) n = some none := by rw [eK]; exact hno
      exact pe_xf T' hno' hz hf (pe_var (hX.sui (a := a) (pn := (a, oe) :: pn) |>.nx hN) (hX.sui (a := a) (pn := (a, oe) :: pn) |>.vis hv) hd hcd) (hb _)
    · dsimp only
      rw [dif_neg h]
      exact ⟨fun _ _ _ _ _ _ z => z.elim⟩
  · unfold dAttr at e
    split at e
    · rename_i hm
      obtain ⟨y', e1, e2⟩ := mapNx_of e
      cases e2
      have hz : ∃ z, z ∈ ns ∧ cls = .ref (He.ga Γ.K z) := ⟨x.cls, hm, jx.rx.cl⟩
      show (if h : ∃ z, z ∈ ns ∧ cls = .ref (He.ga Γ.K z) then tXf a cls d (He.ga Γ.K h.choose) n (tVar i) else fun _ _ _ => False) σ H Q
      rw [dif_pos hz]
      rcases jx.rx.fs with h0 | ⟨dd, vs, h1, h2, h3⟩
      · rw [h0.1] at e1; cases e1
      · obtain ⟨v, k1, k2⟩ := h3 _ _ e1
        exact ⟨.ref a, jx.at_, rfl, hz.choose_spec.2, dd, vs, v, h1, (of_hide h2).2, k1, q v H r (Ex.refl _) (dp_ex (ex_hide_sub (msk_sub hL)) k2)⟩
    · cases e
end
/-! ## the statements of a suite -/
def SimU (K : PySem.W.Frag) (i : Nat) (Th : List Nat) (fz : Bool) (O O' Ol : List Nat) (t : Addr → Value → Option Addr → TS) (m : Exn → MM) : Prop := ∀ (c : Cn), c.Th = Th → ∀ (σ : L2.St) (H : Hp) (s : MS) (a : Addr) (cls : Value) (d : Option Addr) (x : Exn), R K c O s σ H → JX K c O i a cls d x σ H → ∀ o, m x s = some o → ∀ E : Ends, Ways0 K fz c O O' Ol σ H o E → t a cls d E σ H
section
variable (Γ : G) (i : Nat) (Th : List Nat) (fz : Bool) (O O' Ol : List Nat)
def TrU (sts : List Stmt) (m : Exn → MM) : Prop := ∃ t, Sui Γ (fun X a cls d => PSs X sts (t a cls d)) ∧ SimU Γ.K i Th fz O O' Ol t m
end
def noEx (o : Out) : Option Out := match o with
  | .ex _ _ => none
  | o => some o
section
variable {Γ : G} {i : Nat} {Th : List Nat} {fz : Bool} {O O' Ol L W : List Nat} {e : Expr} {sts sts1 sts2 : List Stmt} {pos : Pos}
/-- a suite that does not look at the exception -/
theorem tu_lift {m : MM} (h : ∀ a, TrSs (Γ.sui a) Th fz O O' Ol sts m) : TrU Γ i Th fz O O' Ol sts (fun _ s => (m s).bind noEx) :=
  ⟨fun a _ _ => (h a).choose fun _ _ _ _ => False, fun X a oe cls d pn hX _ _ => (h a).choose_spec.1 _ _ hX.suiX takes_none5, fun c hc σ H s a cls d x r _ o e E w => by
    obtain ⟨o1, e1, e2⟩ := bind_of e
    refine (h a).choose_spec.2 c hc σ H s r o1 e1 E _ ⟨fun s' σ' H' eo r' f => ?_, fun s' σ' H' eo r' f => ?_, fun s' σ' H' eo r' f => ?_, fun d s' v H' eo rt => ?_, fun x s' σ' H' cls d eo r' f rx => ?_⟩ <;> subst eo <;> cases e2
    · exact w.nx s' σ' H' rfl r' f
    · exact w.bk s' σ' H' rfl r' f
    · exact w.ct s' σ' H' rfl r' f
    · exact w.rt d s' v H' rfl rt⟩
theorem tu_ret {m : Exn → ME} (h : TrXE Γ i O Th W e m) (hW : ∀ j ∈ W, j ∈ O) : TrU Γ i Th false O O' Ol [.Return (some e) pos] (fun x => mRet (m x)) := by
  obtain ⟨t, p, q⟩ := h
  refine ⟨fun a cls d => tRet (t a cls d), fun X a oe cls d pn hX hz hf => pss_one (ps_ret (p X a oe cls d pn hX hz hf)), fun c hc σ H s a cls d x r jx o e E w => ?_⟩
  unfold mRet at e
  obtain ⟨pr, e1, rfl⟩ := mapNx_of e
  refine q c σ H s a cls d x r jx _ _ e1 _ fun v H1 r1 x1 d1 => w.rt _ _ v H1 rfl ⟨rt_ex r1 hW x1, rt_th r1, ?_, fun z => Bool.noConfusion z⟩
  rw [← hc, msk_th r1] at d1
  exact d1
theorem tu_set {m : Exn → ME} {j : Nat} {y : Str} {p2 : Pos} (hN : Γ.N[j]? = some y) (hv : locB Γ y = true) (h : TrXE Γ i O O W e m) (ht : j ∉ Th) (hO : ∀ k ∈ O', k ∈ O.filter (· ≠ j)) (hT : ∀ k ∈ Th, k ∈ O') (hW : ∀ j ∈ W, j ∈ O) (hs : swapsWith e (some (.Name y p2)) pos.line (envS Γ.sc) = pure false := by rfl) :
    TrU Γ i Th fz O O' Ol [.Assign [.Name y p2] e pos] (fun x => mSet j (m x)) := by
  obtain ⟨t, p, q⟩ := h
  refine ⟨fun a cls d => tAsg (t a cls d) (gName j), fun X a oe cls d pn hX hz hf => pss_one (ps_set (hX.sui (a := a) (pn := (a, oe) :: pn)).ndX ((hX.sui (a := a) (pn := (a, oe) :: pn)).nx hN) ((hX.sui (a := a) (pn := (a, oe) :: pn)).loc hv).1 (p X a oe cls d pn hX hz hf) ((swaps_sc (hX.g.sc.trans rfl)).trans hs) ((hX.sui (a := a) (pn := (a, oe) :: pn)).loc hv).2), fun c hc σ H s a cls d x r jx o e E w => ?_⟩
  unfold mSet at e
  obtain ⟨pr, e1, rfl⟩ := mapNx_of e
  refine q c σ H s a cls d x r jx _ _ e1 _ fun v H1 r1 x1 d1 => ?_
  obtain ⟨r2, x2⟩ := setR r1 d1 (by rw [hc]; exact ht) hO (by rw [hc]; exact hT)
  exact w.nx _ _ H1 rfl r2 ((Fr.of_ex hW x1).trans x2)
theorem tu_if {mt : Exn → MT} {m1 m2 : Exn → MM} (h : TrXT Γ i O W e mt) (h1 : TrU Γ i Th fz O O' Ol sts1 m1) (h2 : TrU Γ i Th fz O O' Ol sts2 m2) (hW : ∀ j ∈ W, j ∈ O) : TrU Γ i Th fz O O' Ol [.If e sts1 sts2 pos] (fun x => mIf (mt x) (m1 x) (m2 x)) := by
  obtain ⟨t, p, q⟩ := h
  obtain ⟨t1, p1, q1⟩ := h1
  obtain ⟨t2, p2, q2⟩ := h2
  refine ⟨fun a cls d => tIfS (t a cls d) (t1 a cls d) (t2 a cls d), fun X a oe cls d pn hX hz hf => pss_one (ps_if (p X a oe cls d pn hX hz hf) (p1 X a oe cls d pn hX hz hf) (p2 X a oe cls d pn hX hz hf)), fun c hc σ H s a cls d x r jx o e E w => ?_⟩
  unfold mIf at e
  obtain ⟨⟨k, s1⟩, e1, e2⟩ := bind_of e
  refine q c σ H s a cls d x r jx _ _ e1 _ fun H1 r1 x1 => ?_
  have wa : Ways0 Γ.K fz c O O' Ol σ H1 o E := ⟨fun s2 σ2 H2 eo r2 f2 => w.nx s2 σ2 H2 eo r2 ((Fr.of_ex hW x1).trans f2), fun s2 σ2 H2 eo r2 f2 => w.bk s2 σ2 H2 eo r2 ((Fr.of_ex hW x1).trans f2), fun s2 σ2 H2 eo r2 f2 => w.ct s2 σ2 H2 eo r2 ((Fr.of_ex hW x1).trans f2), fun d s2 v H2 eo rt => w.rt d s2 v H2 eo (rt.ahead (Fr.of_ex hW x1))⟩
  cases k with
  | true =>
    rw [if_pos rfl] at e2 ⊢
    exact q1 c hc σ H1 s1 a cls d x r1 (jx.ex hW x1) o e2 E wa
  | false =>
    rw [if_neg Bool.false_ne_true] at e2 ⊢
    exact q2 c hc σ H1 s1 a cls d x r1 (jx.ex hW x1) o e2 E wa
end
/-! ## try -/
/-- sub: of each class that may come, whether the clause takes it -/
def SubOk (K : PySem.W.Frag) (c : Str) (sub : List (Str × Bool)) : Prop := ∀ z b, sub.lookup z = some b → PySem.W.exmOne K (.ref (He.ga K z)) (.ref (He.ga K c)) = some b
def mTry (sub : List (Str × Bool)) (m : MM) (u : Exn → MM) : MM := fun s => (m s).bind fun o => match o with
  | .ex x s1 => (sub.lookup x.cls).bind fun b => if b = true then u x s1 else some (.ex x s1)
  | o => some o
section
variable {Γ : G} {Th : List Nat} {fz : Bool} {Os O O' Ol L W : List Nat} {body suite : List Stmt} {b₀ : Stmt} {c : Str} {np pos pos' : Pos} {sub : List (Str × Bool)} {m : MM} {u : Exn → MM}
theorem InX.tr {X : Cx} (h : InX Γ X) {ox : List Nat} {pn : List (Addr × Obj)} {xe : Value → Shared → Prop} (po : PassesOwn (model X.prog X.w) X.A X.env xe) : InX { Γ with ox := ox } (X.tr pn xe) := ⟨⟨h.g.prog, h.g.w, h.g.K, h.g.mg, h.g.base, h.g.A, h.g.N, h.g.sc, h.g.fnc, h.g.nd, h.g.calm, rfl⟩, po, h.st, h.fr⟩
/-- try: body; except C: suite, the exception unnamed -/
theorem ss_try {m2 : MM} (hg : Γ.sc.names.lookup c = some .globalImplicit) (hm : Γ.mg c = some (.ref (He.ga Γ.K c))) (hs : SubOk Γ.K c sub) (hb : TrSs { Γ with ox := Os } Th fz O O' Ol body m) (hu : ∀ a, TrSs (Γ.sui a) Th fz Os O' Ol (b₀ :: suite) m2)
    (hx : ∀ j ∈ Γ.ox, j ∈ Os) (hxT : ∀ j ∈ Th, j ∈ Γ.ox) (hdb : (c == ("__debug__" : Str)) = false := by decide) : TrS Γ Th fz O O' Ol (.Try body [.ExceptHandler (some (.Name c np)) none (b₀ :: suite) pos'] [] [] pos) (mTry sub m fun _ s => (m2 s).bind noEx) := by
  obtain ⟨t, p, q⟩ := hb
  refine ⟨fun V => fun D σ H => t (wOnly Γ.K (.ref (He.ga Γ.K c)) (fun a _ _ => (hu a).choose fun _ _ _ _ => False) V D) D σ H, fun X V h k => ?_, fun cn hc σ H s r o e E V w => ?_⟩
  · have eK : Γ.K = X.K := h.g.K.symm
    have := ps_try_only (X := X) (x := c) (c := .ref (He.ga Γ.K c)) (body := body) (suite := suite) (b₀ := b₀) (np := np) (pos := pos) (pos' := pos') (tb := t) (ts := fun a _ _ => (hu a).choose fun _ _ _ _ => False) (Wout := V) h.st h.fr ⟨h.g.gl hg, hdb, .inl (h.g.mgn hm)⟩ k
      (fun W pn xe tk po => p _ W (h.tr po) tk) fun a oe cls d pn hz hf => (hu a).choose_spec.1 _ _ h.suiX takes_none5
    have e2 : X.K = Γ.K := h.g.K
    rw [e2] at this
    exact this
  · unfold mTry at e
    obtain ⟨o1, e1, e2⟩ := bind_of e
    refine q cn hc σ H s r o1 e1 E _ ⟨fun s' σ' H' eo r' f => ?_, fun s' σ' H' eo r' f => ?_, fun s' σ' H' eo r' f => ?_, fun d s' v H' eo rt => ?_, fun x s' σ' H' cls d eo r' f rx => ?_⟩ <;> subst eo
    · cases e2; exact w.nx s' σ' H' rfl r' f
    · cases e2; exact w.bk s' σ' H' rfl r' f
    · cases e2; exact w.ct s' σ' H' rfl r' f
    · cases e2; exact w.rt d s' v H' rfl rt
    · obtain ⟨b, e3, e4⟩ := bind_of e2
      have em := hs _ _ e3
      refine ⟨b, by rw [rx.cl]; exact em, fun hb a na => ?_, fun hb => ?_⟩
      · subst hb
        rw [if_pos rfl] at e4
        obtain ⟨o2, e5, e6⟩ := bind_of e4
        refine (hu a).choose_spec.2 cn hc σ' H' s' r' o2 e5 E _ ⟨fun s2 σ2 H2 eo r2 f2 => ?_, fun s2 σ2 H2 eo r2 f2 => ?_, fun s2 σ2 H2 eo r2 f2 => ?_, fun d2 s2 v H2 eo rt => ?_, fun x s2 σ2 H2 cls d2 eo r2 f2 rx2 => ?_⟩ <;> subst eo <;> cases e6
        · exact w.nx s2 σ2 H2 rfl r2 (f.trans f2)
        · exact w.bk s2 σ2 H2 rfl r2 (f.trans f2)
        · exact w.ct s2 σ2 H2 rfl r2 (f.trans f2)
        · exact w.rt d2 s2 v H2 rfl (rt.ahead f)
      · subst hb
        rw [if_neg Bool.false_ne_true] at e4
        cases e4
        obtain ⟨r2, x2⟩ := r'.free hx (by rw [hc]; exact hxT)
        exact w.ex x s' σ' H' cls d rfl r2 (f.trans x2) (rx_ex (ex_hide_sub (msk_sub hx)) rx)
/-- a slot of which the mirror says nothing takes anything -/
theorem R.blank {K : PySem.W.Frag} {cn : Cn} {s : MS} {σ : L2.St} {H : Hp} (r : R K cn O s σ H) {i : Nat} (hi : i ∉ O) (ht : i ∉ cn.Th) (v : Option V) : R K cn O (s.set i none) (σ.set i v) H ∧ Own O (σ.set i v) = Own O σ := by
  have own : Own O (σ.set i v) = Own O σ := by
    funext a
    refine propext ⟨fun ⟨j, hj, e⟩ => ⟨j, hj, ?_⟩, fun ⟨j, hj, e⟩ => ⟨j, hj, ?_⟩⟩
    · rwa [List.getElem?_set_ne (fun (z : i = j) => hi (by rw [z]; exact hj))] at e
    · rwa [List.getElem?_set_ne (fun (z : i = j) => hi (by rw [z]; exact hj))]
  have msk : cn.msk O (σ.set i v) = cn.msk O σ := by
    unfold Cn.msk; rw [own]
  refine ⟨⟨by simpa using r.len, fun j d hj h hd => ?_, fun j hj => ?_, fun j k p hj hk h1 h2 => ?_, r.cs, fun j hj => ?_, fun j hj => ?_⟩, own⟩
  · by_cases e : j = i
    · subst e
      by_cases hl : j < s.length
      · rw [List.getElem?_set_self hl] at h; cases h
      · rw [List.getElem?_eq_none (by simp; omega)] at h; cases h
    · rw [List.getElem?_set_ne (Ne.symm e)] at h
      rw [List.getElem?_set_ne (Ne.symm e), msk]
      exact r.sh j d hj h hd
  · have e : j ≠ i := fun z => hi (z ▸ hj)
    rw [List.getElem?_set_ne (Ne.symm e), List.getElem?_set_ne (Ne.symm e), msk]
    exact r.ow j hj
  · have e : j ≠ i := fun z => hi (z ▸ hj)
    have e' : k ≠ i := fun z => hi (z ▸ hk)
    rw [List.getElem?_set_ne (Ne.symm e)] at h1
    rw [List.getElem?_set_ne (Ne.symm e')] at h2
    exact r.nd j k p hj hk h1 h2
  · have e : j ≠ i := fun z => ht (z ▸ hj)
    rw [List.getElem?_set_ne (Ne.symm e)]
    exact r.th j hj
  · have e : j ≠ i := fun z => ht (z ▸ hj)
    rw [List.getElem?_set_ne (Ne.symm e)]
    exact r.tl j hj
theorem Fr.blank {σ : L2.St} {H : Hp} {i : Nat} (v : Option V) (own : Own O (σ.set i v) = Own O σ) : Fr O σ H O (σ.set i v) H := by
  unfold Fr
  rw [own]
  exact Ex.refl _
/-- what goes out of a suite: its exception's name goes -/
def gone (i : Nat) : Out → Out
  | .nx s => .nx (s.set i none)
  | .bk s => .bk (s.set i none)
  | .ct s => .ct (s.set i none)
  | o => o
def mSui (i : Nat) (u : Exn → MM) : Exn → MM := fun x s => if i < s.length then (u x (s.set i none)).map (gone i) else none
/-- try: body; except C as y: suite -/
theorem ss_tryAs {i : Nat} {y : Str} (hN : Γ.N[i]? = some y) (hy : Γ.sc.names.lookup y = some .local) (hg : Γ.sc.names.lookup c = some .globalImplicit) (hm : Γ.mg c = some (.ref (He.ga Γ.K c))) (hs : SubOk Γ.K c sub) (hb : TrSs { Γ with ox := Os } Th fz O O' Ol body m) (hu : TrU Γ i Th fz Os O' Ol (b₀ :: suite) u)
    (hx : ∀ j ∈ Γ.ox, j ∈ Os) (hxT : ∀ j ∈ Th, j ∈ Γ.ox) (hi : i ∉ Os) (hi2 : i ∉ O') (hi3 : i ∉ Ol) (hi4 : i ∉ Th) (hdb : (c == ("__debug__" : Str)) = false := by decide) : TrS Γ Th fz O O' Ol (.Try body [.ExceptHandler (some (.Name c np)) (some y) (b₀ :: suite) pos'] [] [] pos) (mTry sub m (mSui i u)) := by
  obtain ⟨t, p, q⟩ := hb
  obtain ⟨ts, pu, qu⟩ := hu
  refine ⟨fun V => fun D σ H => t (wAs Γ.K (.ref (He.ga Γ.K c)) i ts V D) D σ H, fun X V h k => ?_, fun cn hc σ H s r o e E V w => ?_⟩
  · have := ps_try_as (X := X) (x := c) (n := y) (i := i) (c := .ref (He.ga Γ.K c)) (body := body) (suite := suite) (b₀ := b₀) (np := np) (pos := pos) (pos' := pos') (tb := t) (ts := ts) (Wout := V) h.st h.fr h.g.ndX (h.g.nx hN) (by
        show X.env.scope.names.lookup y = _
        have := h.g.sc
        rw [show X.env.scope = Γ.sc from this]; exact hy) ⟨h.g.gl hg, hdb, .inl (h.g.mgn hm)⟩ k
      (fun W pn xe tk po => p _ W (h.tr po) tk) fun a oe cls d pn hz hf => pu X a oe cls d pn h hz hf
    have e2 : X.K = Γ.K := h.g.K
    rw [e2] at this
    exact this
  · unfold mTry at e
    obtain ⟨o1, e1, e2⟩ := bind_of e
    refine q cn hc σ H s r o1 e1 E _ ⟨fun s' σ' H' eo r' f => ?_, fun s' σ' H' eo r' f => ?_, fun s' σ' H' eo r' f => ?_, fun d s' v H' eo rt => ?_, fun x s' σ' H' cls d eo r' f rx => ?_⟩ <;> subst eo
    · cases e2; exact w.nx s' σ' H' rfl r' f
    · cases e2; exact w.bk s' σ' H' rfl r' f
    · cases e2; exact w.ct s' σ' H' rfl r' f
    · cases e2; exact w.rt d s' v H' rfl rt
    · obtain ⟨b, e3, e4⟩ := bind_of e2
      have em := hs _ _ e3
      refine ⟨b, by rw [rx.cl]; exact em, fun hb a na => ?_, fun hb => ?_⟩
      · subst hb
        rw [if_pos rfl] at e4
        unfold mSui at e4
        split at e4
        case isFalse => cases e4
        rename_i hlen
        obtain ⟨o2, e5, e6⟩ := mapNx_of e4
        obtain ⟨rb, ob⟩ := r'.blank hi (by rw [hc]; exact hi4) (some (.ref a))
        have fb : Fr O σ H Os (σ'.set i (some (.ref a))) H' := f.trans (Fr.blank _ ob)
        have jx : JX Γ.K cn Os i a cls d x (σ'.set i (some (.ref a))) H' := ⟨List.getElem?_set_self (by rw [← r'.len]; exact hlen), by unfold Cn.msk; rw [ob]; exact rx⟩
        refine qu cn hc _ H' _ a cls d x rb jx o2 e5 _ ⟨fun s2 σ2 H2 eo r2 f2 => ?_, fun s2 σ2 H2 eo r2 f2 => ?_, fun s2 σ2 H2 eo r2 f2 => ?_, fun d2 s2 v H2 eo rt => ?_⟩ <;> subst eo <;> subst e6
        · obtain ⟨r3, o3⟩ := r2.blank hi2 (by rw [hc]; exact hi4) none
          exact w.nx _ _ H2 rfl r3 ((fb.trans f2).trans (Fr.blank _ o3))
        · obtain ⟨r3, o3⟩ := r2.blank hi3 (by rw [hc]; exact hi4) none
          exact w.bk _ _ H2 rfl r3 ((fb.trans f2).trans (Fr.blank _ o3))
        · obtain ⟨r3, o3⟩ := r2.blank hi3 (by rw [hc]; exact hi4) none
          exact w.ct _ _ H2 rfl r3 ((fb.trans f2).trans (Fr.blank _ o3))
        · exact w.rt d2 s2 v H2 rfl (rt.ahead fb)
      · subst hb
        rw [if_neg Bool.false_ne_true] at e4
        cases e4
        obtain ⟨r2, x2⟩ := r'.free hx (by rw [hc]; exact hxT)
        exact w.ex x s' σ' H' cls d rfl r2 (f.trans x2) (rx_ex (ex_hide_sub (msk_sub hx)) rx)
end
end Z


namespace Z
open PySem PySem.Spec PySem.Calls PyProof.Rows PySem.W
section
variable {pr : Program} {wo : World} {Ar : Around} {Er : Value → Shared → Prop} {sh : Shared} {K : Frag} {xa Ca : Addr} {xo : Obj} {dico : Option Obj}
theorem finds_class {av gv : Value} (h1 : (clsIn K Ca).isSome = true) (h2 : findIn K (.ref Ca) "__class__" = some (some av)) (h3 : specialIn K av "__get__" = some (some gv)) (h4 : takesIn K av = some true) : findObj K Ca dico "__class__" = some (.bind gv av) := by
  obtain ⟨cdd, e⟩ := Option.isSome_iff_exists.mp h1
  unfold findObj
  simp only [e, h2, h3, h4, Option.bind_some]
theorem asks_class {Qr : Option Value → Shared → Prop} (T : L2.ExcC K Ca) (kx : K.In sh.heap) (ins : InstAt sh.heap xa xo Ca dico) (fin : Qr (some (.ref Ca)) { sh with toks := sh.toks + 1 }) : wpAny (model pr wo) Ar (getAttr? (.ref xa) "__class__") Qr Er sh := by
  obtain ⟨T1, T2, T3, T4, T5, T6, T7, T8⟩ := T
  have fnd : findObj K Ca dico "__class__" = some (.bind (.builtin "getset_descriptor.__get__") (.builtin "object.__class__")) := finds_class (by obtain ⟨q, e, _⟩ := any_some T4; rw [e]; rfl) T5 T6 T7
  obtain ⟨hea, gea, dea, tea, oea⟩ := sh
  have ty0 := ins.type (M := model pr wo)
  have sub0 : Looks (model pr wo) hea (isInstance (.ref xa) (.type "BaseException")) true := ty0.andThen (looks_subIn kx T3)
  have no0 : (Value.builtin "BaseException.__getattribute__" == Value.builtin "object.__getattribute__") = false := by decide +kernel
  have no1 : (onTheHeap (Value.ref Ca) && Value.builtin "BaseException.__getattribute__" == Value.builtin "object.__getattribute__") = false := by
    rw [no0]; rfl
  unfold getAttr?; unfold getAttrBy?; unfold getAttrBy
  apply wpAny_bind; apply wpAny_mkText; apply wpAny_bind; apply wpAny_attempt; apply wpAny_holding; apply wpAny_bind
  apply ty0.at; apply wpAny_bind
  apply (looks_findIn (M := model pr wo) kx T1).at
  show wpAny _ _ (if (onTheHeap (Value.ref Ca) && Value.builtin "BaseException.__getattribute__" == Value.builtin "object.__getattribute__") = true then _ else _) _ _ _
  rw [no1, if_neg Bool.false_ne_true]
  unfold getAttrByItsOwn; unfold hookBefore; apply wpAny_bind
  rw [if_pos (show onTheHeap (Value.ref Ca) = true from rfl)]
  apply (looks_findIn (M := model pr wo) kx T2).at
  apply wpAny_bind; apply wpAny_attempt; apply wpAny_holding
  unfold callGetattribute
  rw [show (false && onTheHeap (Value.builtin "BaseException.__getattribute__")) = false from rfl, if_neg Bool.false_ne_true]
  unfold boundAndCalled
  rw [PySem.F.excAttr_ValueError.ga.bind (.ref xa)]
  apply wpAny_bind; apply wpAny_pure
  show wpAny _ _ (call (.builtin "BaseException.__getattribute__") [.ref xa, .str "__class__" tea]) _ _ _
  apply wpAny_call; apply codeAny_call_builtin PySem.F.excAttr_ValueError.ga.plain PySem.F.entry_bexc_ga
  refine @check_slot (model pr wo) _ _ ⟨hea, gea, dea, tea + 1, oea⟩ "BaseException.__getattribute__" "BaseException" "__getattribute__" (.ref xa) [.str "__class__" tea] [] _ (by decide +kernel) (by decide +kernel) sub0 (PySem.F.args_bexc_ga (.ref xa) (.str "__class__" tea)) ?_
  unfold Builtin.«object.__getattribute__»; apply wpAny_bind
  refine wpAny_of_eq (a := ((Value.ref xa : Value), [Value.str "__class__" tea])) (by first | rfl | (simp only [slotArgs]; rfl)) ?_
  apply wpAny_bind; apply wpAny_pure; apply wpAny_bind
  apply ty0.at; apply wpAny_bind
  apply (looks_find (M := model pr wo) kx ins fnd).at
  show wpAny _ _ (holding [Value.builtin "object.__class__"] (call (.builtin "getset_descriptor.__get__") [.builtin "object.__class__", .ref xa, .ref Ca]) >>= ret) _ _ _
  apply wpAny_bind; apply wpAny_holding; apply wpAny_call
  refine class_get (s := ⟨hea, gea, dea, tea + 1, oea⟩) (ox := xo) (od := dico) kx ins T8 ?_
  apply wpAny_pure
  show wpAny _ _ (handedOut (.ref Ca)) _ _ _
  rw [handedOut_of (v := .ref Ca) rfl]
  first
    | exact wpAny_pure (wpAny_pure fin)
    | exact wpAny_pure fin
    | exact wpAny_pure (wpAny_bind (wpAny_pure (wpAny_pure fin)))
theorem cls_there (h : hasDictIn K Ca = true) : ∃ (c0 : Value) (d0 : Option Addr) (k0 : ClassData) (s0 : Array (Option Value)), K.lookup Ca = some ⟨c0, d0, .cls k0, s0⟩ := by
  obtain ⟨k0, e, _⟩ := any_some h
  unfold clsIn at e
  split at e
  · exact ⟨_, _, _, _, ‹_›⟩
  · cases e
theorem kit_caught (T : L2.ExcC K Ca) : KitX K (.ref xa) (.ref Ca) (fun h => ∃ dico, InstAt h xa xo Ca dico) := by
  obtain ⟨c0, d0, k0, s0, hk⟩ := cls_there T.hd
  refine ⟨fun _ _ _ ⟨_, ins⟩ => ins.type, fun _ _ kx _ A1 Q1 E1 s1 keep1 fin => ?_, fun h tp _ _ _ _ kx there => ?_, fun kx ⟨_, ins⟩ fin => asks_class T kx ins fin⟩
  · unfold isType; unfold loadHead
    exact wpAny_bind (wpAny_loadPart (keep1 _ _ (kx _ _ hk)) (wpAny_pure fin))
  · cases e : ((Value.ref Ca) == (Value.ref tp)) with
    | false => rfl
    | true =>
      have e2 : Ca = tp := Value.ref.inj (beq_iff_eq.mp e)
      rw [← e2, kx _ _ hk] at there
      cases there
end
end Z
namespace Z
open PySem PySem.Spec PyProof.Rows L2
/-- isinstance(e, C), e the exception that the suite holds, of the class at Da -/
theorem call_caught {X : Cx} {a Da : Addr} {oe : Obj} {d : Option Addr} {pn : List (Addr × Obj)} (T : ExcC X.K Da) (hz : Zc (.ref Da) d oe) (hf : ∃ vs, oe.data = .fields vs) (hd : ∀ dd, d = some dd → True) :
    CallR (X.suite a ((a, oe) :: pn)) (.builtin "isinstance") (fun xs H Q => (∀ dd, d = some dd → ∃ fs, H dd = some (.xd fs)) ∧ rIsE X.K Da a xs H Q) := by
  intro pins s σ H xs us Q I r ⟨hdd, c, cv, b, exs, hcv, e, q⟩
  subst exs
  cases r with
  | cons rx rr =>
    cases rr with
    | cons rt rr =>
      cases rr
      cases rx
      have ec := hcv _ rt
      subst ec
      obtain ⟨hget, _⟩ := I.pin (a, oe) (List.mem_append.mpr (.inl List.mem_cons_self))
      obtain ⟨vs, hv⟩ := hf
      have ins : ∃ dico, PySem.W.InstAt s.heap a oe Da dico := by
        cases ed : d with
        | none =>
          refine ⟨none, hget, hz.1, by unfold PySem.W.notCls; rw [hv] <;> rfl, ?_⟩
          rw [hz.2, ed]
          trivial
        | some dd =>
          obtain ⟨fs, ea⟩ := hdd dd ed
          have hx : ObjOk X.prog X.w H s.heap dd (.xd fs) := I.hok dd _ ea
          obtain ⟨mA, hns, hr⟩ := hx
          obtain ⟨od, ho, hl⟩ := lookIn_ns hns
          exact ⟨some od, hget, hz.1, by unfold PySem.W.notCls; rw [hv] <;> rfl, by rw [hz.2, ed]; exact ho⟩
      exact PySem.W.kia_one (kit_caught T) I.kIn ins e (fun z => nomatch z) fun tk => ⟨.bl b, H, I.kept (t' := tk) fun _ _ z => z, rfl, q⟩
/-- c the class that is asked for; sub: of each class whose exceptions may be handled here, the answer -/
def IsOk (K : PySem.W.Frag) (c : Str) (sub : List (Str × Bool)) : Prop := ∀ z b, sub.lookup z = some b → ExcC K (He.ga K z) ∧ PySem.W.kitOne K (.ref (He.ga K z)) (.ref (He.ga K c)) = some b
def dIsX (sub : List (Str × Bool)) (x : Exn) : ME := fun s => (sub.lookup x.cls).map fun b => (.bool b, s)
section
variable {Γ : G} {i : Nat} {O L W : List Nat}
open Classical in
theorem te_isi {y c : Str} {py pc p pos : Pos} (sub : List (Str × Bool)) (hN : Γ.N[i]? = some y) (hv : visB Γ.sc y = true) (hg : Γ.sc.names.lookup ("isinstance" : Str) = some .globalImplicit) (hm : Γ.mg "isinstance" = none) (hgc : Γ.sc.names.lookup c = some .globalImplicit) (hmc : Γ.mg c = some (.ref (He.ga Γ.K c))) (hT : IsOk Γ.K c sub)
    (hd : (y == ("__debug__" : Str)) = false := by decide) (hcd : (y == ("__classdict__" : Str)) = false := by decide) (hdb : (c == ("__debug__" : Str)) = false := by decide) : TrXE Γ i O L W (.Call (.Name "isinstance" p) [.Name y py, .Name c pc] [] pos) (dIsX sub) := by
  refine ⟨fun a cls d => if h : ∃ z b, sub.lookup z = some b ∧ cls = .ref (He.ga Γ.K z) then tCB (fun xs H Q => (∀ dd, d = some dd → ∃ fs, H dd = some (.xd fs)) ∧ rIsE Γ.K (He.ga Γ.K h.choose) a xs H Q) (tCons (tVar i) (tCons (tC (.ref (He.ga Γ.K c))) tNil)) else fun _ _ _ => False, fun X a oe cls d pn hX hz hf => ?_, fun cn σ H s a cls d x r jx r0 s' e Q q => ?_⟩
  · dsimp only
    by_cases h : ∃ z b, sub.lookup z = some b ∧ cls = .ref (He.ga Γ.K z)
    · rw [dif_pos h]
      obtain ⟨b, hb, hcls⟩ := h.choose_spec
      obtain ⟨T, _⟩ := hT _ _ hb
      have eK : X.K = Γ.K := hX.g.K
      have T' : ExcC X.K (He.ga Γ.K h.choose) := by rw [eK]; exact T
      have hz' : Zc (.ref (He.ga Γ.K h.choose)) d oe := by rw [← hcls]; exact hz
      have G' := hX.sui (a := a) (pn := (a, oe) :: pn)
      have CR := call_caught (X := X) (pn := pn) (a := a) T' hz' hf fun _ _ => trivial
      rw [eK] at CR
      exact pe_callB CR (G'.gl hg) (G'.mgn hm) (by decide +kernel) (pa_cons (pe_var (G'.nx hN) (G'.vis hv) hd hcd) (pa_cons (pe_glob (G'.gl hgc) (G'.mgn hmc) rfl hdb) pa_nil)) (by decide) (by decide)
    · rw [dif_neg h]
      exact ⟨fun _ _ _ _ _ _ z => z.elim⟩
  · unfold dIsX at e
    obtain ⟨b, e1, e2⟩ := mapNx_of e
    cases e2
    have hz : ∃ z b, sub.lookup z = some b ∧ cls = .ref (He.ga Γ.K z) := ⟨x.cls, b, e1, jx.rx.cl⟩
    show (if h : ∃ z b, sub.lookup z = some b ∧ cls = .ref (He.ga Γ.K z) then tCB (fun xs H Q => (∀ dd, d = some dd → ∃ fs, H dd = some (.xd fs)) ∧ rIsE Γ.K (He.ga Γ.K h.choose) a xs H Q) (tCons (tVar i) (tCons (tC (.ref (He.ga Γ.K c))) tNil)) else fun _ _ _ => False) σ H Q
    rw [dif_pos hz]
    have eq : He.ga Γ.K hz.choose = He.ga Γ.K x.cls := by
      obtain ⟨b', hb, hcls⟩ := hz.choose_spec
      exact Value.ref.inj (hcls.symm.trans jx.rx.cl)
    refine ⟨.ref a, jx.at_, fun dd ed => ?_, .ref (He.ga Γ.K c), .ref (He.ga Γ.K c), b, rfl, fun u hu => hu, by rw [eq]; exact (hT _ _ e1).2, q _ H r (Ex.refl _) (.bl b)⟩
    rcases jx.rx.fs with ⟨_, h0⟩ | ⟨dd', vs, h1, h2, h3⟩
    · rw [ed] at h0; cases h0
    · rw [ed] at h1
      cases h1
      exact ⟨vs, (of_hide h2).2⟩
end
section
variable {Γ : G} {i : Nat} {O L L0 W : List Nat} {a b e : Expr} {es : List Expr} {pos : Pos}
theorem te_one {op} {m : Exn → ME} (h : TrXE Γ i O L W a m) : TrXE Γ i O L W (.BoolOp op [a] pos) m := by
  obtain ⟨t, p, q⟩ := h
  exact ⟨t, fun X a oe cls d pn hX hz hf => pe_one (p X a oe cls d pn hX hz hf), q⟩
theorem te_and {ma mb : Exn → ME} (ha : TrXE Γ i O L0 W a ma) (hb : TrXE Γ i O L W (.BoolOp .And (b :: es) pos) mb) (hW : ∀ j ∈ W, j ∈ O) : TrXE Γ i O L W (.BoolOp .And (a :: b :: es) pos) (fun x => xAndV (xT (ma x)) (mb x)) := by
  obtain ⟨t, p, q⟩ := ha
  obtain ⟨u, p2, q2⟩ := hb
  refine ⟨fun a cls d => tAndV (t a cls d) (u a cls d), fun X a oe cls d pn hX hz hf => pe_and (p X a oe cls d pn hX hz hf) (p2 X a oe cls d pn hX hz hf), fun c σ H s a cls d x r jx r0 s' e Q w => ?_⟩
  unfold xAndV at e
  obtain ⟨⟨k1, s1⟩, e1, e⟩ := bind_of e
  refine q c σ H s a cls d x r jx _ _ (xT_of e1) _ fun v H1 r1 x1 d1 => ?_
  cases d1
  refine ⟨k1, rfl, ?_⟩
  cases k1 with
  | true =>
    rw [if_pos rfl] at e ⊢
    exact q2 c σ H1 s1 a cls d x r1 (jx.ex hW x1) _ _ e Q fun v H2 r2 x2 d2 => w v H2 r2 (x1.trans x2) d2
  | false =>
    rw [if_neg Bool.false_ne_true] at e ⊢
    cases e
    exact w _ H1 r1 x1 (.bl false)
theorem te_or {ma mb : Exn → ME} (ha : TrXE Γ i O L0 W a ma) (hb : TrXE Γ i O L W (.BoolOp .Or (b :: es) pos) mb) (hW : ∀ j ∈ W, j ∈ O) : TrXE Γ i O L W (.BoolOp .Or (a :: b :: es) pos) (fun x => xOrV (xT (ma x)) (mb x)) := by
  obtain ⟨t, p, q⟩ := ha
  obtain ⟨u, p2, q2⟩ := hb
  refine ⟨fun a cls d => tOrV (t a cls d) (u a cls d), fun X a oe cls d pn hX hz hf => pe_or (p X a oe cls d pn hX hz hf) (p2 X a oe cls d pn hX hz hf), fun c σ H s a cls d x r jx r0 s' e Q w => ?_⟩
  unfold xOrV at e
  obtain ⟨⟨k1, s1⟩, e1, e⟩ := bind_of e
  refine q c σ H s a cls d x r jx _ _ (xT_of e1) _ fun v H1 r1 x1 d1 => ?_
  cases d1
  refine ⟨k1, rfl, ?_⟩
  cases k1 with
  | true =>
    rw [if_pos rfl] at e ⊢
    cases e
    exact w _ H1 r1 x1 (.bl true)
  | false =>
    rw [if_neg Bool.false_ne_true] at e ⊢
    exact q2 c σ H1 s1 a cls d x r1 (jx.ex hW x1) _ _ e Q fun v H2 r2 x2 d2 => w v H2 r2 (x1.trans x2) d2
theorem te_not {ma : Exn → ME} (ha : TrXE Γ i O L0 W a ma) : TrXE Γ i O L W (.UnaryOp .Not a pos) (fun x => xB (xNot (xT (ma x)))) := by
  obtain ⟨t, p, q⟩ := ha
  refine ⟨fun a cls d => tNotV (t a cls d), fun X a oe cls d pn hX hz hf => pe_not (p X a oe cls d pn hX hz hf), fun c σ H s a cls d x r jx r0 s' e Q w => ?_⟩
  unfold xB xNot at e
  obtain ⟨⟨k1, s1⟩, e1, e2⟩ := mapNx_of e
  obtain ⟨⟨k2, s2⟩, e3, e4⟩ := mapNx_of e1
  cases e2
  cases e4
  refine q c σ H s a cls d x r jx _ _ (xT_of e3) _ fun v H1 r1 x1 d1 => ?_
  cases d1
  exact ⟨_, rfl, w _ H1 r1 x1 (.bl _)⟩
/-- a bool as a test -/
theorem tx_val {m : Exn → ME} (h : TrXE Γ i O L W e m) (he : ∀ (env : Env) whole, isTrue e env whole = (do let v ← whole; standAt e.pos; holding [v] (truthy v)) := by intro _ _; rfl) : TrXT Γ i O W e (fun x => xT (m x)) := by
  obtain ⟨t, p, q⟩ := h
  refine ⟨fun a cls d => tB (t a cls d), fun X a oe cls d pn hX hz hf => pt_val (p X a oe cls d pn hX hz hf) (he _), fun c σ H s a cls d x r jx r0 s' e Q w => ?_⟩
  refine q c σ H s a cls d x r jx _ _ (xT_of e) _ fun v H' r' x' d' => ?_
  cases d'
  exact ⟨_, rfl, w H' r' x'⟩
theorem tx_not {m : Exn → MT} (h : TrXT Γ i O W a m) : TrXT Γ i O W (.UnaryOp .Not a pos) (fun x => xNot (m x)) := by
  obtain ⟨t, p, q⟩ := h
  refine ⟨fun a cls d => tNot (t a cls d), fun X a oe cls d pn hX hz hf => pt_not (p X a oe cls d pn hX hz hf), fun c σ H s a cls d x r jx r0 s' e Q w => ?_⟩
  unfold xNot at e
  obtain ⟨⟨k1, s1⟩, e1, e2⟩ := mapNx_of e
  cases e2
  exact q c σ H s a cls d x r jx _ _ e1 _ fun H1 r1 x1 => w H1 r1 x1
theorem tx_W {m : Exn → MT} (h : TrXW Γ i O W e m) : TrXT Γ i O W e m := by
  obtain ⟨t, p, q⟩ := h
  exact ⟨t, fun X a oe cls d pn hX hz hf => (p X a oe cls d pn hX hz hf).pt, q⟩
theorem twx_or1 {m : Exn → MT} (h : TrXT Γ i O W a m) : TrXW Γ i O W (.BoolOp .Or [a] pos) m := by
  obtain ⟨t, p, q⟩ := h
  exact ⟨t, fun X a oe cls d pn hX hz hf => pw_or1 (p X a oe cls d pn hX hz hf), q⟩
theorem twx_or {ta tb : Exn → MT} (ha : TrXT Γ i O W a ta) (hb : TrXW Γ i O W (.BoolOp .Or (b :: es) pos) tb) (hW : ∀ j ∈ W, j ∈ O) : TrXW Γ i O W (.BoolOp .Or (a :: b :: es) pos) (fun x => xOr (ta x) (tb x)) := by
  obtain ⟨t, p, q⟩ := ha
  obtain ⟨u, p2, q2⟩ := hb
  refine ⟨fun a cls d => tOr (t a cls d) (u a cls d), fun X a oe cls d pn hX hz hf => pw_or (p X a oe cls d pn hX hz hf) (p2 X a oe cls d pn hX hz hf), fun c σ H s a cls d x r jx r0 s' e Q w => ?_⟩
  unfold xOr at e
  obtain ⟨⟨k1, s1⟩, e1, e⟩ := bind_of e
  refine q c σ H s a cls d x r jx _ _ e1 _ fun H1 r1 x1 => ?_
  cases k1 with
  | true =>
    rw [if_pos rfl] at e ⊢
    cases e
    exact w H1 r1 x1
  | false =>
    rw [if_neg Bool.false_ne_true] at e ⊢
    exact q2 c σ H1 s1 a cls d x r1 (jx.ex hW x1) _ _ e Q fun H2 r2 x2 => w H2 r2 (x1.trans x2)
end
end Z


namespace Z
open PySem PySem.Spec PyProof.Rows L2
/-! ## exceptions of own classes, made -/
/-- what must stand of a class whose __init__ is its own -/
def oexB (K : PySem.W.Frag) (C : Addr) : Bool := (match K.lookup C with
  | some ⟨.type "type", _, .cls cd, sl⟩ => (match cd.mro, sl.toList with
    | .ref C' :: bm, [_, _, _, _, some (.builtin n), _] => C' == C && (n == "ValueError.__new__" && (!cd.hasDel && (cd.hasDict && PySem.HandSPX.refsVE bm)))
    | _, _ => false)
  | _ => false) && (decide (PySem.W.findIn K (.ref C) "__setattr__" = some (some (.builtin "object.__setattr__"))) && (decide (PySem.W.subIn K (.ref C) (.type "BaseException") = some true) && (decide (PySem.W.typeIn K (.ref C) = some (.type "type")) && PySem.W.keepIn K (.ref C))))
theorem oexB_ok {K : PySem.W.Frag} {C : Addr} (h : oexB K C = true) : OexC K C := by
  obtain ⟨h1, h⟩ := Bool.and_eq_true_iff.mp h
  obtain ⟨h2, h⟩ := Bool.and_eq_true_iff.mp h
  obtain ⟨h3, h⟩ := Bool.and_eq_true_iff.mp h
  obtain ⟨h4, h5⟩ := Bool.and_eq_true_iff.mp h
  refine ⟨?_, of_decide_eq_true h2, of_decide_eq_true h3, of_decide_eq_true h4, h5⟩
  split at h1
  · rename_i ddx cdx slx there
    split at h1
    · rename_i Cx bmx u0 u1 u2 u3 nx u5 e_mro e_sl
      simp only [Bool.and_eq_true, beq_iff_eq, Bool.not_eq_true'] at h1
      obtain ⟨e1, e2, e3, e4, e5⟩ := h1
      obtain ⟨c1, c2, c3, c4, c5, c6, c7, c8, c9, c10, c11⟩ := cdx
      dsimp only at e_mro e3 e4
      subst e_mro e3 e4 e1 e2
      obtain ⟨lx⟩ := slx
      dsimp only at e_sl
      subst e_sl
      exact ⟨c1, c5, c4, c2, bmx, c7, c8, c9, c10, ddx, u0, u1, u2, u3, u5, there, e5⟩
    · cases h1
  · cases h1
/-- an __init__ that stores its arguments, fs the fields -/
def spI (C : Addr) (fs : List Str) : Sp := fun vs H Q _ => ∃ (a : Addr) (ws : List V), vs = .ref a :: ws ∧ ws.length = fs.length ∧ H a = some (exo a C none) ∧
  ∀ d, H d = none → d ≠ a → ∀ H', H' a = some (exo a C (some d)) → H' d = some (exd d ((fs.zip ws).reverse)) → (∀ b, b ≠ a → b ≠ d → H' b = H b) → Q .non H'
section
variable {P : Program} {w : World} {K : PySem.W.Frag} {mg : Str → Option Value} {base : Heap} {qual : Str} {st : Stmt} {fI C : Addr} {fd : FuncData} {k : Nat} {f1 f2 f3 x1 x2 x3 : Str} {p1 p2 p3 p4 q1 q2 q3 q4 r1 r2 r3 r4 : Pos}
theorem vis_of {sc : Scope} {x : Str} (e : visB sc x = true) : Vis sc x := by
  unfold visB at e
  unfold Vis
  split at e
  · exact .inl ‹_›
  · exact .inr (.inl ‹_›)
  · exact .inr (.inr ‹_›)
  · cases e
theorem init_1 (T : OexC K C) (F : FnP K "__init__" qual st fI fd) (S : FnScope ["self", x1] ["self", x1] (defScope st)) (hb : defBody st = [.Assign [.Attribute (.Name "self" p1) f1 p2] (.Name x1 p3) p4]) (hn : PySem.W.findIn K (.ref C) f1 = some none)
    (v0 : visB (defScope st) "self" = true) (v1 : visB (defScope st) x1 = true) (g1 : (x1 == ("__debug__" : Str)) = false) (g2 : (x1 == ("__classdict__" : Str)) = false) (hs : swapsWith (.Name x1 p3) (some (.Attribute (.Name "self" p1) f1 p2)) p4.line (envS (defScope st)) = pure false) : FnOk P w K mg base CX0 (k + 1) fI fd ["self", x1] (spI C [f1]) := by
  refine F.ok S (fun vs H Q E ⟨a, ws, e, hl, _⟩ => by rw [e, List.length_cons, hl]; rfl) (fun cdv A outer s H vs Q E hr ⟨a, ws, e, hl, ha, q⟩ => ?_)
  match ws, hl with
  | [y1], _ =>
    subst e
    rw [hb]
    refine ⟨_, pss_one (ps_ost (pe_var (i := 0) rfl (vis_of v0) (by decide) (by decide)) (pe_var (i := 1) rfl (vis_of v1) g1 g2) ((swaps_sc rfl).trans hs)), ?_⟩
    refine ⟨y1, rfl, .ref a, rfl, a, C, rfl, T, hn, .inl ⟨ha, fun d hd ne => q d hd ne _ ?_ ?_ ?_⟩⟩
    · exact upd_same
    · rw [upd_ne ne, upd_same]; rfl
    · intro b h1 h2
      rw [upd_ne h1, upd_ne h2]
theorem init_2 (T : OexC K C) (F : FnP K "__init__" qual st fI fd) (S : FnScope ["self", x1, x2] ["self", x1, x2] (defScope st)) (hb : defBody st = [.Assign [.Attribute (.Name "self" p1) f1 p2] (.Name x1 p3) p4, .Assign [.Attribute (.Name "self" q1) f2 q2] (.Name x2 q3) q4]) (hn : PySem.W.findIn K (.ref C) f1 = some none) (hn2 : PySem.W.findIn K (.ref C) f2 = some none)
    (v0 : visB (defScope st) "self" = true) (v1 : visB (defScope st) x1 = true) (v2 : visB (defScope st) x2 = true) (g1 : (x1 == ("__debug__" : Str)) = false) (g2 : (x1 == ("__classdict__" : Str)) = false) (g3 : (x2 == ("__debug__" : Str)) = false) (g4 : (x2 == ("__classdict__" : Str)) = false)
    (hs : swapsWith (.Name x1 p3) (some (.Attribute (.Name "self" p1) f1 p2)) p4.line (envS (defScope st)) = pure false) (hs2 : swapsWith (.Name x2 q3) (some (.Attribute (.Name "self" q1) f2 q2)) q4.line (envS (defScope st)) = pure false) : FnOk P w K mg base CX0 (k + 1) fI fd ["self", x1, x2] (spI C [f1, f2]) := by
  refine F.ok S (fun vs H Q E ⟨a, ws, e, hl, _⟩ => by rw [e, List.length_cons, hl]; rfl) (fun cdv A outer s H vs Q E hr ⟨a, ws, e, hl, ha, q⟩ => ?_)
  match ws, hl with
  | [y1, y2], _ =>
    subst e
    rw [hb]
    refine ⟨_, pss_cons (ps_ost (pe_var (i := 0) rfl (vis_of v0) (by decide) (by decide)) (pe_var (i := 1) rfl (vis_of v1) g1 g2) ((swaps_sc rfl).trans hs)) (pss_one (ps_ost (pe_var (i := 0) rfl (vis_of v0) (by decide) (by decide)) (pe_var (i := 2) rfl (vis_of v2) g3 g4) ((swaps_sc rfl).trans hs2))), ?_⟩
    refine ⟨y1, rfl, .ref a, rfl, a, C, rfl, T, hn, .inl ⟨ha, fun d hd ne => ?_⟩⟩
    refine ⟨y2, rfl, .ref a, rfl, a, C, rfl, T, hn2, .inr ⟨d, [(f1, y1)], upd_same, by rw [upd_ne ne, upd_same], by simp, q d hd ne _ ?_ ?_ ?_⟩⟩
    · rw [upd_ne (Ne.symm ne), upd_same]
    · rw [upd_same]; rfl
    · intro b h1 h2
      rw [upd_ne h2, upd_ne h1, upd_ne h2]
theorem init_3 (T : OexC K C) (F : FnP K "__init__" qual st fI fd) (S : FnScope ["self", x1, x2, x3] ["self", x1, x2, x3] (defScope st)) (hb : defBody st = [.Assign [.Attribute (.Name "self" p1) f1 p2] (.Name x1 p3) p4, .Assign [.Attribute (.Name "self" q1) f2 q2] (.Name x2 q3) q4, .Assign [.Attribute (.Name "self" r1) f3 r2] (.Name x3 r3) r4]) (hn : PySem.W.findIn K (.ref C) f1 = some none) (hn2 : PySem.W.findIn K (.ref C) f2 = some none) (hn3 : PySem.W.findIn K (.ref C) f3 = some none)
    (v0 : visB (defScope st) "self" = true) (v1 : visB (defScope st) x1 = true) (v2 : visB (defScope st) x2 = true) (v3 : visB (defScope st) x3 = true) (g1 : (x1 == ("__debug__" : Str)) = false) (g2 : (x1 == ("__classdict__" : Str)) = false) (g3 : (x2 == ("__debug__" : Str)) = false) (g4 : (x2 == ("__classdict__" : Str)) = false) (g5 : (x3 == ("__debug__" : Str)) = false) (g6 : (x3 == ("__classdict__" : Str)) = false)
    (hs : swapsWith (.Name x1 p3) (some (.Attribute (.Name "self" p1) f1 p2)) p4.line (envS (defScope st)) = pure false) (hs2 : swapsWith (.Name x2 q3) (some (.Attribute (.Name "self" q1) f2 q2)) q4.line (envS (defScope st)) = pure false) (hs3 : swapsWith (.Name x3 r3) (some (.Attribute (.Name "self" r1) f3 r2)) r4.line (envS (defScope st)) = pure false) : FnOk P w K mg base CX0 (k + 1) fI fd ["self", x1, x2, x3] (spI C [f1, f2, f3]) := by
  refine F.ok S (fun vs H Q E ⟨a, ws, e, hl, _⟩ => by rw [e, List.length_cons, hl]; rfl) (fun cdv A outer s H vs Q E hr ⟨a, ws, e, hl, ha, q⟩ => ?_)
  match ws, hl with
  | [y1, y2, y3], _ =>
    subst e
    rw [hb]
    refine ⟨_, pss_cons (ps_ost (pe_var (i := 0) rfl (vis_of v0) (by decide) (by decide)) (pe_var (i := 1) rfl (vis_of v1) g1 g2) ((swaps_sc rfl).trans hs)) (pss_cons (ps_ost (pe_var (i := 0) rfl (vis_of v0) (by decide) (by decide)) (pe_var (i := 2) rfl (vis_of v2) g3 g4) ((swaps_sc rfl).trans hs2)) (pss_one (ps_ost (pe_var (i := 0) rfl (vis_of v0) (by decide) (by decide)) (pe_var (i := 3) rfl (vis_of v3) g5 g6) ((swaps_sc rfl).trans hs3)))), ?_⟩
    refine ⟨y1, rfl, .ref a, rfl, a, C, rfl, T, hn, .inl ⟨ha, fun d hd ne => ?_⟩⟩
    refine ⟨y2, rfl, .ref a, rfl, a, C, rfl, T, hn2, .inr ⟨d, [(f1, y1)], upd_same, by rw [upd_ne ne, upd_same], by simp, ?_⟩⟩
    refine ⟨y3, rfl, .ref a, rfl, a, C, rfl, T, hn3, .inr ⟨d, [(f2, y2), (f1, y1)], by rw [upd_ne (Ne.symm ne), upd_same], upd_same, by simp, q d hd ne _ ?_ ?_ ?_⟩⟩
    · rw [upd_ne (Ne.symm ne), upd_ne (Ne.symm ne), upd_same]
    · rw [upd_same]; rfl
    · intro b h1 h2
      rw [upd_ne h2, upd_ne h2, upd_ne h1, upd_ne h2]
end
/-! ## raise -/
def mRaise (n : Str) (fs : List Str) (ms : MF) : MM := fun s => (ms s).bind fun p => if p.1.length = fs.length then some (.ex ⟨n, (fs.zip p.1).reverse⟩ p.2) else none
theorem zip_acc {K : PySem.W.Frag} {H : Hp} : ∀ {fs : List Str} {vs : List V} {ds : List D}, RpAll K H vs ds → vs.length = fs.length → ∀ (acc : List (Str × D)) (acc2 : List (Str × V)), (∀ g y, acc.lookup g = some y → ∃ v, acc2.lookup g = some v ∧ Rp K H v y) → ∀ (g : Str) (y : D), ((fs.zip ds).reverse ++ acc).lookup g = some y → ∃ v, ((fs.zip vs).reverse ++ acc2).lookup g = some v ∧ Rp K H v y
  | [], _, _, _, _, acc, acc2, h1, g, y, e => h1 g y (by simpa using e)
  | f :: r, _, _, .nil, hl, _, _, _, _, _, _ => nomatch hl
  | f :: r, v :: vs, d :: ds, .cons hv hr, hl, acc, acc2, h1, g, y, e => by
    have hl' : vs.length = r.length := by simpa using hl
    simp only [List.zip_cons_cons, List.reverse_cons, List.append_assoc, List.singleton_append] at e ⊢
    refine zip_acc hr hl' ((f, d) :: acc) ((f, v) :: acc2) (fun g y e => ?_) g y e
    rw [List.lookup_cons] at e ⊢
    cases q : (g == f) with
    | true => rw [q] at e; cases e; exact ⟨v, rfl, hv⟩
    | false => rw [q] at e; exact h1 g y e
theorem zip_rel {K : PySem.W.Frag} {H : Hp} {fs : List Str} {vs : List V} {ds : List D} (h : RpAll K H vs ds) (hl : vs.length = fs.length) (g : Str) (y : D) (e : ((fs.zip ds).reverse).lookup g = some y) : ∃ v, ((fs.zip vs).reverse).lookup g = some v ∧ Rp K H v y := by
  have := zip_acc h hl [] [] (fun g y e => by cases e) g y (by rw [List.append_nil]; exact e)
  rwa [List.append_nil] at this
section
variable {Γ : G} {Th : List Nat} {fz : Bool} {O O' Ol W : List Nat} {e : Expr} {es : List Expr} {ms : MF} {p pos pos2 : Pos} {k : Nat} {fI : Addr} {fd : FuncData} {ps fs : List Str} {n : Str}
theorem ss_raise (T : OexC Γ.K (He.ga Γ.K n)) (iC : PySem.W.findIn Γ.K (.ref (He.ga Γ.K n)) "__init__" = some (some (.ref fI))) (tI : PySem.W.typeIn Γ.K (.ref fI) = some (.type "function")) (hf : ∀ n', FnOk Γ.P Γ.w Γ.K Γ.mg Γ.base CX0 (n' + 1) fI fd ps (spI (He.ga Γ.K n) fs)) (hb : Binds Γ.K fd ps []) (hr : Room (k + 2) Γ.A)
    (hg : Γ.sc.names.lookup n = some .globalImplicit) (hm : Γ.mg n = some (.ref (He.ga Γ.K n))) (ha : TrA Γ O Γ.ox W (e :: es) ms) (hW : ∀ j ∈ W, j ∈ O) (hx : ∀ j ∈ Γ.ox, j ∈ O) (hxT : ∀ j ∈ Th, j ∈ Γ.ox) (hfl : fs.length ≤ 1000) (hcm : Γ.calm = true := by rfl)
    (hdb : (n == ("__debug__" : Str)) = false := by decide) (he : ∀ env : Env, starEach (e :: es) env = (false, eval e env) :: starEach es env := by intro _; rfl) (hpl : ∀ env : Env, (backTo pos2 (starEach es env)).any (·.1) = false := by intro _; rfl) :
    TrS Γ Th fz O O' Ol (.Raise (some (.Call (.Name n p) (e :: es) [] pos2)) none pos) (mRaise n fs ms) := by
  obtain ⟨t, pa, sa⟩ := ha
  refine ⟨fun V _ σ H => tMkO (He.ga Γ.K n) (spI (He.ga Γ.K n) fs) [] t σ H fun cls d H' => V cls d σ H', fun X V h kk => ?_, fun c hc σ H s r o e E V w => ?_⟩
  · have eK : X.K = Γ.K := h.g.K
    refine ps_raise (h.g.cm hcm) kk (pmk_oex (CX := CX0) (k := k + 1) (by rw [eK]; exact T) (by rw [eK]; exact iC) (by rw [eK]; exact tI) (h.g.fn (hf k)) (h.g.room hr) (h.g.bd hb) .nil pass0 (h.g.gl hg) (h.g.mgn hm) (pa_nox (pa _ h.g)) hdb (he X.env) (hpl X.env))
  · unfold mRaise at e
    obtain ⟨⟨ds, s1⟩, e1, e2⟩ := bind_of e
    split at e2
    case isFalse => cases e2
    rename_i hlen
    cases e2
    refine sa c σ H s r _ _ e1 _ fun vs H1 r1 x1 d1 => ?_
    have hl : vs.length = fs.length := by rw [dpa_len d1]; exact hlen
    refine ⟨by rw [hl]; exact hfl, fun a na => ⟨a, vs, by rw [List.append_nil], hl, upd_same, fun d hd ne H2 g1 g2 g3 => ⟨rfl, d, _, g1, g2, ?_, ?_⟩⟩⟩
    · rwa [upd_ne ne] at hd
    · have hd1 : H1 d = none := by rwa [upd_ne ne] at hd
      have eH : upd (del H2 a) d (.xd ((fs.zip vs).reverse)) = upd H1 d (.xd ((fs.zip vs).reverse)) := by
        funext b
        by_cases hb : b = d
        · rw [hb, upd_same, upd_same]
        · rw [upd_ne hb, upd_ne hb]
          by_cases hba : b = a
          · rw [hba, del_same, na]
          · rw [del_ne hba, g3 b hba hb, upd_ne hba]
      rw [eH]
      have x2 : Ex H1 (upd H1 d (.xd ((fs.zip vs).reverse))) := ex_upd hd1
      refine ex_out hc hx hxT hW (fun _ z => z) w (r1.ex x2) (x1.trans (ex_hide x2)) ⟨rfl, .inr ⟨d, _, rfl, hide_of (fun z => ?_) upd_same, fun g y hy => ?_⟩⟩
      · obtain ⟨o, z⟩ := msk_there r1 hx d z
        rw [hd1] at z; cases z
      · obtain ⟨v, k1, k2⟩ := zip_rel d1 hl g y hy
        exact ⟨v, k1, dp_ex (ex_hide x2) k2⟩
end
/-- C(), a class without own __init__ -/
theorem pmk_none {X : Cx} {C : Addr} {x : Str} {p pos : Pos} (q : PySem.W.excIn X.K C He.veBase "ValueError.__new__" = true) (gC : X.mg x = some (.ref C)) (kC : PySem.W.keepIn X.K (.ref C) = true) (r : Raises X (.ref C)) (hg : Gl X x) (hdb : (x == ("__debug__" : Str)) = false := by decide) :
    PMk X (.Call (.Name x p) [] [] pos) (fun _ H Q => Q (.ref C) none H) := by
  intro pins s σ H Q I h
  refine wpAny_Call_Name_kw (ld_glob I hg gC ?_ hdb)
  refine PySem.W.callWith_K0 I.kIn kC ?_
  obtain ⟨bmx, Nx, n1, n2, n3, n4, n5, n6, n7, n8, n9, u0, u1, u2, u3, u5, mx, hC, hN, hni, Tx⟩ := exc_obj I.kIn q
  exact wpAny_call_exc_subT PySem.F.excBase_ValueError Tx hC hN hni (fun h' e hm' => mk_of I hm' r h (I.hok.gone hm'.new)) (by show 0 ≤ sizeLine; exact Nat.zero_le _)
section
variable {Γ : G} {Th : List Nat} {fz : Bool} {O O' Ol : List Nat} {p pos pos2 : Pos} {n : Str}
def mRaise0 (n : Str) : MM := fun s => some (.ex ⟨n, []⟩ s)
theorem ss_raise0 (hq : (He.Fa.exc n).ok Γ.K = true) (hg : Γ.sc.names.lookup n = some .globalImplicit) (hm : Γ.mg n = some (.ref (He.ga Γ.K n))) (hx : ∀ j ∈ Γ.ox, j ∈ O) (hxT : ∀ j ∈ Th, j ∈ Γ.ox) (hcm : Γ.calm = true := by rfl) (hdb : (n == ("__debug__" : Str)) = false := by decide) :
    TrS Γ Th fz O O' Ol (.Raise (some (.Call (.Name n p) [] [] pos2)) none pos) (mRaise0 n) := by
  obtain ⟨h1, h2, h3, h4⟩ := He.exc_ok hq
  refine ⟨fun V _ σ H => V (.ref (He.ga Γ.K n)) none σ H, fun X V h kk => ?_, fun c hc σ H s r o e E V w => ?_⟩
  · have eK : X.K = Γ.K := h.g.K
    exact ps_raise (X := X) (h.g.cm hcm) kk (pmk_none (X := X) (by rw [eK]; exact h1) (h.g.mgn hm) (by rw [eK]; exact h2) (raises_own (by rw [eK]; exact h3) (by rw [eK]; exact h4)) (h.g.gl hg) hdb)
  · cases e
    exact ex_out (W := []) hc hx hxT (fun _ z => nomatch z) (fun _ z => z) w r (Ex.refl _) ⟨rfl, .inl ⟨rfl, rfl⟩⟩
end
end Z


namespace Z
open PySem PySem.Spec PyProof.Rows L2
/-! ## what stands of the exception classes, by looks at K -/
def isDef : Stmt → Bool
  | .FunctionDef .. => true
  | _ => false
def initOf : Stmt → Stmt
  | .ClassDef (body := b) .. => (b.find? isDef).getD (.Pass ⟨0, 0, 0, 0⟩)
  | s => s
def initD (n : Str) (q : Str) (st : Stmt) : He.DefD := ⟨(n, some "__init__"), "__init__", q, defArgs st, defBody st, defScope st, [], []⟩
structure RzOk (P : Program) (w : World) (K : PySem.W.Frag) (mg : Str → Option Value) (base : Heap) (n : Str) (fs ps : List Str) : Prop where
  ex : ∃ fI fd, OexC K (He.ga K n) ∧ PySem.W.findIn K (.ref (He.ga K n)) "__init__" = some (some (.ref fI)) ∧ PySem.W.typeIn K (.ref fI) = some (.type "function") ∧ (∀ k, FnOk P w K mg base CX0 (k + 1) fI fd ps (spI (He.ga K n) fs)) ∧ Binds K fd ps []
  mgn : mg n = some (.ref (He.ga K n))
def rzB (K : PySem.W.Frag) (n : Str) (fs : List Str) : Bool := oexB K (He.ga K n) && (decide (PySem.W.findIn K (.ref (He.ga K n)) "__init__" = some (some (.ref (He.ma K (He.ga K n) "__init__")))) && (decide (PySem.W.typeIn K (.ref (He.ma K (He.ga K n) "__init__")) = some (.type "function")) && fs.all fun f => decide (PySem.W.findIn K (.ref (He.ga K n)) f = some none)))
theorem rzB_ok {K : PySem.W.Frag} {n : Str} {fs : List Str} (h : rzB K n fs = true) : OexC K (He.ga K n) ∧ PySem.W.findIn K (.ref (He.ga K n)) "__init__" = some (some (.ref (He.ma K (He.ga K n) "__init__"))) ∧ PySem.W.typeIn K (.ref (He.ma K (He.ga K n) "__init__")) = some (.type "function") ∧ ∀ f ∈ fs, PySem.W.findIn K (.ref (He.ga K n)) f = some none := by
  obtain ⟨h1, h⟩ := Bool.and_eq_true_iff.mp h
  obtain ⟨h2, h⟩ := Bool.and_eq_true_iff.mp h
  obtain ⟨h3, h4⟩ := Bool.and_eq_true_iff.mp h
  exact ⟨oexB_ok h1, of_decide_eq_true h2, of_decide_eq_true h3, fun f hf => of_decide_eq_true (List.all_eq_true.mp h4 f hf)⟩
/-- the classes whose field f is read -/
def AtOk (K : PySem.W.Frag) (ns : List Str) (f : Str) : Prop := ∀ z ∈ ns, XfC K (He.ga K z) ∧ PySem.W.findIn K (.ref (He.ga K z)) f = some none
def atB (K : PySem.W.Frag) (ns : List Str) (f : Str) : Bool := ns.all fun z => xfB K (He.ga K z) && decide (PySem.W.findIn K (.ref (He.ga K z)) f = some none)
theorem atB_ok {K : PySem.W.Frag} {ns : List Str} {f : Str} (h : atB K ns f = true) : AtOk K ns f := fun z hz => by
  obtain ⟨h1, h2⟩ := Bool.and_eq_true_iff.mp (List.all_eq_true.mp h z hz)
  exact ⟨xfB_ok h1, of_decide_eq_true h2⟩
theorem lookup_mem {α : Type} {z : Str} {b : α} : ∀ {l : List (Str × α)}, l.lookup z = some b → (z, b) ∈ l
  | [], h => nomatch h
  | (y, c) :: r, h => by
    rw [List.lookup_cons] at h
    cases e : (z == y) with
    | true =>
      rw [e] at h
      cases h
      rw [beq_iff_eq.mp e]
      exact List.mem_cons_self
    | false =>
      rw [e] at h
      exact List.mem_cons_of_mem _ (lookup_mem h)
def subB (K : PySem.W.Frag) (c : Str) (sub : List (Str × Bool)) : Bool := sub.all fun p => decide (PySem.W.exmOne K (.ref (He.ga K p.1)) (.ref (He.ga K c)) = some p.2)
theorem subB_ok {K : PySem.W.Frag} {c : Str} {sub : List (Str × Bool)} (h : subB K c sub = true) : SubOk K c sub := fun z b e => of_decide_eq_true (List.all_eq_true.mp h (z, b) (lookup_mem e))
def excCB (K : PySem.W.Frag) (D : Addr) : Bool := decide (PySem.W.findIn K (.ref D) "__getattribute__" = some (some (.builtin "BaseException.__getattribute__"))) && (decide (PySem.W.findIn K (.ref D) "__getattr__" = some none) && (decide (PySem.W.subIn K (.ref D) (.type "BaseException") = some true) && (PySem.W.hasDictIn K D && (decide (PySem.W.findIn K (.ref D) "__class__" = some (some (.builtin "object.__class__"))) &&
  (decide (PySem.W.specialIn K (.builtin "object.__class__") "__get__" = some (some (.builtin "getset_descriptor.__get__"))) && (decide (PySem.W.takesIn K (.builtin "object.__class__") = some true) && decide (PySem.W.mroIn K D (.type "object") = some true)))))))
theorem excCB_ok {K : PySem.W.Frag} {D : Addr} (h : excCB K D = true) : ExcC K D := by
  obtain ⟨h1, h⟩ := Bool.and_eq_true_iff.mp h
  obtain ⟨h2, h⟩ := Bool.and_eq_true_iff.mp h
  obtain ⟨h3, h⟩ := Bool.and_eq_true_iff.mp h
  obtain ⟨h4, h⟩ := Bool.and_eq_true_iff.mp h
  obtain ⟨h5, h⟩ := Bool.and_eq_true_iff.mp h
  obtain ⟨h6, h⟩ := Bool.and_eq_true_iff.mp h
  obtain ⟨h7, h8⟩ := Bool.and_eq_true_iff.mp h
  exact ⟨of_decide_eq_true h1, of_decide_eq_true h2, of_decide_eq_true h3, h4, of_decide_eq_true h5, of_decide_eq_true h6, of_decide_eq_true h7, of_decide_eq_true h8⟩
def isB (K : PySem.W.Frag) (c : Str) (sub : List (Str × Bool)) : Bool := sub.all fun p => excCB K (He.ga K p.1) && decide (PySem.W.kitOne K (.ref (He.ga K p.1)) (.ref (He.ga K c)) = some p.2)
theorem isB_ok {K : PySem.W.Frag} {c : Str} {sub : List (Str × Bool)} (h : isB K c sub = true) : IsOk K c sub := fun z b e => by
  obtain ⟨h1, h2⟩ := Bool.and_eq_true_iff.mp (List.all_eq_true.mp h (z, b) (lookup_mem e))
  exact ⟨excCB_ok h1, of_decide_eq_true h2⟩
/-! ## the rules, with the slots at an exception written out -/
section
variable {Γ : G} {Th : List Nat} {fz : Bool} {O O' Ol L W : List Nat} {e : Expr} {es : List Expr} {m : MC} {ms : MF} {p pos pos2 : Pos} {n : Str} {fs ps : List Str} {k : Nat}
theorem sx_set (ox : List Nat) {i : Nat} {x : Str} {p2 : Pos} (hN : Γ.N[i]? = some x) (hv : locB Γ x = true) (he : TrC Γ O O W e m) (ht : i ∉ Th) (hO : ∀ j ∈ O', j ∈ O.filter (· ≠ i)) (hT : ∀ j ∈ Th, j ∈ O') (hW : ∀ j ∈ W, j ∈ O) (hx : ∀ j ∈ ox, j ∈ O) (hxT : ∀ j ∈ Th, j ∈ ox) (eo : Γ.ox = ox := by rfl) (hs : swapsWith e (some (.Name x p2)) pos.line (envS Γ.sc) = pure false := by rfl) :
    TrS Γ Th fz O O' Ol (.Assign [.Name x p2] e pos) (mSetC i m) := by
  subst eo
  exact ss_setC hN hv he ht hO hT hW hx hxT hs
theorem sx_drop (ox : List Nat) (he : TrC Γ O L W e m) (hW : ∀ j ∈ W, j ∈ O) (hx : ∀ j ∈ ox, j ∈ O) (hxT : ∀ j ∈ Th, j ∈ ox) (hL : ∀ j ∈ ox, j ∈ L) (eo : Γ.ox = ox := by rfl) (hs : ∀ env : Env, swapsWith e none pos.line env = pure false := by intro _; rfl) : TrS Γ Th fz O O Ol (.Expr e pos) (mDropC m) := by
  subst eo
  exact ss_dropC he hW hx hxT hL hs
theorem sx_ret (ox : List Nat) (he : TrC Γ O Th W e m) (hW : ∀ j ∈ W, j ∈ O) (hx : ∀ j ∈ ox, j ∈ O) (hxT : ∀ j ∈ Th, j ∈ ox) (hL : ∀ j ∈ ox, j ∈ Th) (eo : Γ.ox = ox := by rfl) : TrS Γ Th false O O' Ol (.Return (some e) pos) (mRetC m) := by
  subst eo
  exact ss_retC he hW hx hxT hL
theorem sx_raise (ox : List Nat) (R : RzOk Γ.P Γ.w Γ.K Γ.mg Γ.base n fs ps) (hr : Room (k + 2) Γ.A) (hg : Γ.sc.names.lookup n = some .globalImplicit) (ha : TrA Γ O ox W (e :: es) ms) (hW : ∀ j ∈ W, j ∈ O) (hx : ∀ j ∈ ox, j ∈ O) (hxT : ∀ j ∈ Th, j ∈ ox) (hfl : fs.length ≤ 1000) (eo : Γ.ox = ox := by rfl) (hcm : Γ.calm = true := by rfl)
    (hdb : (n == ("__debug__" : Str)) = false := by decide) (he : ∀ env : Env, starEach (e :: es) env = (false, eval e env) :: starEach es env := by intro _; rfl) (hpl : ∀ env : Env, (backTo pos2 (starEach es env)).any (·.1) = false := by intro _; rfl) :
    TrS Γ Th fz O O' Ol (.Raise (some (.Call (.Name n p) (e :: es) [] pos2)) none pos) (mRaise n fs ms) := by
  subst eo
  obtain ⟨⟨fI, fd, T, iC, tI, hf, hb⟩, hm⟩ := R
  exact ss_raise (k := k) T iC tI hf hb hr hg hm ha hW hx hxT hfl hcm hdb he hpl
theorem sx_raise0 (ox : List Nat) (hq : (He.Fa.exc n).ok Γ.K = true) (hg : Γ.sc.names.lookup n = some .globalImplicit) (hm : Γ.mg n = some (.ref (He.ga Γ.K n))) (hx : ∀ j ∈ ox, j ∈ O) (hxT : ∀ j ∈ Th, j ∈ ox) (eo : Γ.ox = ox := by rfl) (hcm : Γ.calm = true := by rfl) (hdb : (n == ("__debug__" : Str)) = false := by decide) :
    TrS Γ Th fz O O' Ol (.Raise (some (.Call (.Name n p) [] [] pos2)) none pos) (mRaise0 n) := by
  subst eo
  exact ss_raise0 hq hg hm hx hxT hcm hdb
end
section
variable {Γ : G} {Th : List Nat} {fz : Bool} {Os O O' Ol : List Nat} {body suite : List Stmt} {b₀ : Stmt} {c : Str} {np pos pos' : Pos} {sub : List (Str × Bool)} {m m2 : MM} {u : Exn → MM}
theorem sx_try (ox : List Nat) (hg : Γ.sc.names.lookup c = some .globalImplicit) (hm : Γ.mg c = some (.ref (He.ga Γ.K c))) (hs : SubOk Γ.K c sub) (hb : TrSs { Γ with ox := Os } Th fz O O' Ol body m) (hu : ∀ a, TrSs (Γ.sui a) Th fz Os O' Ol (b₀ :: suite) m2)
    (hx : ∀ j ∈ ox, j ∈ Os) (hxT : ∀ j ∈ Th, j ∈ ox) (eo : Γ.ox = ox := by rfl) (hdb : (c == ("__debug__" : Str)) = false := by decide) : TrS Γ Th fz O O' Ol (.Try body [.ExceptHandler (some (.Name c np)) none (b₀ :: suite) pos'] [] [] pos) (mTry sub m fun _ s => (m2 s).bind noEx) := by
  subst eo
  exact ss_try hg hm hs hb hu hx hxT hdb
theorem sx_tryAs (ox : List Nat) {i : Nat} {y : Str} (hN : Γ.N[i]? = some y) (hy : Γ.sc.names.lookup y = some .local) (hg : Γ.sc.names.lookup c = some .globalImplicit) (hm : Γ.mg c = some (.ref (He.ga Γ.K c))) (hs : SubOk Γ.K c sub) (hb : TrSs { Γ with ox := Os } Th fz O O' Ol body m) (hu : TrU Γ i Th fz Os O' Ol (b₀ :: suite) u)
    (hx : ∀ j ∈ ox, j ∈ Os) (hxT : ∀ j ∈ Th, j ∈ ox) (hi : i ∉ Os) (hi2 : i ∉ O') (hi3 : i ∉ Ol) (hi4 : i ∉ Th) (eo : Γ.ox = ox := by rfl) (hdb : (c == ("__debug__" : Str)) = false := by decide) : TrS Γ Th fz O O' Ol (.Try body [.ExceptHandler (some (.Name c np)) (some y) (b₀ :: suite) pos'] [] [] pos) (mTry sub m (mSui i u)) := by
  subst eo
  exact ss_tryAs hN hy hg hm hs hb hu hx hxT hi hi2 hi3 hi4 hdb
end
theorem fnAtXD {P : Program} {w : World} {K : PySem.W.Frag} {mg : Str → Option Value} {base : Heap} {k : Nat} {x : Str} {st : Stmt} {f : Addr} {fd : FuncData} {ps : List Str} {sp : Sp} (F : FnP K x x st f fd) (G : FnOk P w K mg base (L2.CX P w) k f fd ps sp) (hm : mg x = some (.ref f))
    (h : ∀ (kV doc pm : Value) (an : Option Addr) (cdv ct : Value) (us : List Value), us.length = ps.length → bindArgs (PySem.W.fnOf x x (defArgs st) (defBody st) (defScope st) .none kV doc pm an cdv ct) ⟨us, []⟩ = pure (ps.zip us)) : FnAtX P w K mg base k x ps sp :=
  ⟨f, fd, G, hm, F.kp, F.bindsN h⟩
end Z


namespace Z
open PySem PySem.Spec PyProof.Rows L2
/-! ## defs that call themselves: mirrors by fuel -/
section
variable {P : Program} {w : World} {K : PySem.W.Frag} {mg : Str → Option Value} {base : Heap} {CX : CXT} {k : Nat} {f : Addr} {fd : FuncData} {ps : List Str} {sp : Sp}
theorem fn_zero (h : ∀ vs H Q E, ¬ sp vs H Q E) : FnOk P w K mg base CX k f fd ps sp :=
  ⟨fun vs H Q E hs => absurd hs (h vs H Q E), fun A outer s H args us vs Q E _ _ _ _ hs => absurd hs (h vs H Q E)⟩
theorem zP : ∀ vs H Q E, ¬ spP K (fun _ => none) vs H Q E := fun _ _ _ _ ⟨_, _, _, _, _, e, _⟩ => nomatch e
theorem zL : ∀ vs H Q E, ¬ spL K (fun _ => none) vs H Q E := fun _ _ _ _ ⟨_, _, _, _, _, e, _⟩ => nomatch e
theorem zX : ∀ vs H Q E, ¬ spX K (fun _ => none) vs H Q E := fun _ _ _ _ ⟨_, _, _, _, _, e, _⟩ => nomatch e
theorem zT : ∀ vs H Q E, ¬ spT K (fun _ _ => none) vs H Q E := fun _ _ _ _ ⟨_, _, _, _, _, _, _, _, _, _, _, _, _, _, e, _⟩ => nomatch e
end
/-- the parameters of a def, each given -/
abbrev BindN (K : PySem.W.Frag) (fd : FuncData) (ps : List Str) : Prop := Binds K fd ps []
end Z


namespace Z
open PySem PySem.Spec PyProof.Rows L2
/-! ## sorted, of data that can be compared -/
/-- the items as values: xs, related to ds at Hm -/
def rSortedD (K : PySem.W.Frag) (u0 : Nat) : List V → Hp → VK → Prop := fun vs H Q => ∃ (a : Addr) (xs : List V) (ds : List D) (Hm : Hp), vs = [.ref a] ∧ SqL K H a xs ∧ Ex Hm H ∧ RpAll K Hm xs ds ∧ PySem.W.AllAlike ds ∧ PySem.W.Sortable ds ∧ (∀ d ∈ ds, u0 + 2 + d.depth < cLine) ∧
  ∀ ys p, RpAll K Hm ys (ds.mergeSort (PySem.W.dataLe false id)) → H p = none → Q (.ref p) (upd H p (.lst ys))
theorem each_of {K : PySem.W.Frag} {Hm : Hp} : ∀ {xs : List V} {us : List Value} {ds : List D}, Vals xs us → RpAll K Hm xs ds → PySem.W.EachIs (fun u d => ∃ x, RelV x u ∧ Rp K Hm x d) us ds
  | _, _, _, .nil, .nil => .nil
  | _, _, _, .cons r rs, .cons h hs => .cons ⟨_, r, h⟩ (each_of rs hs)
theorem of_each {K : PySem.W.Frag} {Hm : Hp} : ∀ {us : List Value} {ds : List D}, PySem.W.EachIs (fun u d => ∃ x, RelV x u ∧ Rp K Hm x d) us ds → ∃ ys, Vals ys us ∧ RpAll K Hm ys ds
  | _, _, .nil => ⟨[], .nil, .nil⟩
  | _, _, .cons ⟨x, r, h⟩ t => let ⟨ys, k1, k2⟩ := of_each t; ⟨x :: ys, .cons r k1, .cons h k2⟩
section
variable {X : Cx}
theorem cr_sortedD : CallR X (.builtin "sorted") (rSortedD X.K X.A.units) := by
  intro pins s σ H vs us Q I r h
  obtain ⟨a, xs, ds, Hm, rfl, hs, ex, hd, hal, hk, hu, q⟩ := h
  obtain ⟨its, rv, hl, hz⟩ := I.list hs
  obtain ⟨u, rfl, ru⟩ := vals1 r
  obtain rfl : u = Value.ref a := ru
  have lenE : xs.length = ds.length := dpa_len hd
  have e1 := each_of rv hd
  have er : PySem.W.EachIs (fun v b => ∃ as, Reads s.heap v (id b) as) its ds := e1.mono fun u d ⟨x, k1, k2⟩ => Dp.reads I d x u (Rp.dp (dp_ex ex k2)) k1
  have mid : ds.map id = ds := List.map_id ds
  refine PySem.W.sorted_data (enc := id) (bs := ds) hl.isList e1 er (by rw [mid]; exact hal) (by rw [mid]; exact hk) (by rw [← lenE]; exact hz) (fun d hd => hu d hd) fun out hlen ho => ?_
  obtain ⟨ys, k1, k2⟩ := of_each ho
  have hp : H (s.heap.objs.size + 1) = none := I.hok.fresh (Nat.le_succ _)
  obtain ⟨n, hn⟩ := sortedAll_at s.heap its out.toArray
  refine ⟨.ref (s.heap.objs.size + 1), upd H (s.heap.objs.size + 1) (.lst ys), I.laid (t' := s.toks) (fun b o e => sortedAll_old e) (Nat.le_succ _) ⟨?_, out, n, k1, hn⟩, rfl, q ys _ k2 hp⟩
  have := dpa_len k2
  rw [this, List.length_mergeSort, ← lenE]
  exact hz
end
open Classical in
noncomputable def dSortD (ds : List D) : Option (List D) := if PySem.W.AllAlike ds ∧ PySem.W.Sortable ds ∧ ∀ d ∈ ds, d.depth ≤ 50 then some (ds.mergeSort (PySem.W.dataLe false id)) else none
section
variable {Γ : G} {O L W : List Nat} {a : Expr} {ma : MF} {p pos : Pos}
theorem tf_sortedD (hu : Γ.A.units + 64 < cLine) (hg : Γ.sc.names.lookup ("sorted" : Str) = some .globalImplicit) (hm : Γ.mg "sorted" = none) (ha : TrB Γ O L W a ma) (hW : ∀ j ∈ W, j ∈ O) (hst : ∀ env : Env, starEach [a] env = (false, eval a env) :: starEach [] env := by intro _; rfl) : TrF Γ O L W (.Call (.Name "sorted" p) [a] [] pos) (xfMap dSortD ma) := by
  obtain ⟨ta, pa, sa⟩ := ha
  refine ⟨_, fun X h => pe_callB (r := rSortedD Γ.K Γ.A.units) (id := "sorted") (by rw [← h.K, ← h.A]; exact cr_sortedD) (h.gl hg) (h.mgn hm) (by decide +kernel) (pa_cons (pa X h) pa_nil (hst X.env)) (he := hst X.env), fun c σ H s r ds s' e Q q => ?_⟩
  obtain ⟨es, e1, e2⟩ := xfMap_of e
  refine sa c σ H s r _ _ e1 _ fun p vs H1 r1 x1 rd1 d1 => ?_
  unfold dSortD at e2
  split at e2
  · rename_i hh
    obtain ⟨h1, h2, h3⟩ := hh
    cases e2
    refine ⟨p, vs, es, _, rfl, sql_ex ex_hide0 rd1, ex_hide0, d1, h1, h2, fun d hd => by have := h3 d hd; omega, fun ys p' hy hn => ?_⟩
    exact simF_new (vs := ys) r1 x1 (fresh_of r1 hW x1) hy q p' hn
  · cases e2
end
end Z


namespace Z
open PySem PySem.Spec PyProof.Rows L2
/-! ## rows of mirrors with exceptions (none of them by evaluation) -/
section
variable {α : Type} {s s1 : MS} {as : MF} {x : Exn} {d : D} {ds : List D} {i : Nat} {m : MM} {mc : MC} {o : Out}
@[simp] theorem ret1_so (y : α) (s : MS) : ret1 (some y) s = some (y, s) := by unfold ret1; rw [Option.map_some]
def kCallX (f : List D → Option (D ⊕ Exn)) : List D → MS → Option ((D ⊕ Exn) × MS) := fun ds s => ret1 (f ds) s
theorem xCall_ap (f : List D → Option (D ⊕ Exn)) : xCall f as s = bE (as s) (kCallX f) := rfl
@[simp] theorem kCallX_ap (f : List D → Option (D ⊕ Exn)) : kCallX f ds s = ret1 (f ds) s := by unfold kCallX; rfl
def kO (g : D → MS → Option Out) : (D ⊕ Exn) → MS → Option Out := fun r s => toO g (r, s)
@[simp] theorem kO_l (g : D → MS → Option Out) : kO g (.inl d) s = g d s := by unfold kO toO; rfl
@[simp] theorem kO_r (g : D → MS → Option Out) : kO g (.inr x) s = some (.ex x s) := by unfold kO toO; rfl
def kSC (i : Nat) : D → MS → Option Out := fun d s => some (.nx (s.set i (some d)))
@[simp] theorem kSC_ap : kSC i d s = some (.nx (s.set i (some d))) := by unfold kSC; rfl
def kRC : D → MS → Option Out := fun d s => some (.rt d s)
@[simp] theorem kRC_ap : kRC d s = some (.rt d s) := by unfold kRC; rfl
def kDC : D → MS → Option Out := fun _ s => some (.nx s)
@[simp] theorem kDC_ap : kDC d s = some (.nx s) := by unfold kDC; rfl
theorem mSetC_ap : mSetC i mc s = bE (mc s) (kO (kSC i)) := rfl
theorem mRetC_ap : mRetC mc s = bE (mc s) (kO kRC) := rfl
theorem mDropC_ap : mDropC mc s = bE (mc s) (kO kDC) := rfl
def tryO (sub : List (Str × Bool)) (u : Exn → MM) : Option Out → Option Out := fun o => o.bind fun o => match o with
  | .ex x s1 => (sub.lookup x.cls).bind fun b => if b = true then u x s1 else some (.ex x s1)
  | o => some o
theorem mTry_ap (sub : List (Str × Bool)) (u : Exn → MM) : mTry sub m u s = tryO sub u (m s) := rfl
@[simp] theorem tryO_nx (sub : List (Str × Bool)) (u : Exn → MM) : tryO sub u (some (.nx s)) = some (.nx s) := by unfold tryO; rw [Option.bind_some]
@[simp] theorem tryO_rt (sub : List (Str × Bool)) (u : Exn → MM) : tryO sub u (some (.rt d s)) = some (.rt d s) := by unfold tryO; rw [Option.bind_some]
@[simp] theorem tryO_bk (sub : List (Str × Bool)) (u : Exn → MM) : tryO sub u (some (.bk s)) = some (.bk s) := by unfold tryO; rw [Option.bind_some]
@[simp] theorem tryO_ct (sub : List (Str × Bool)) (u : Exn → MM) : tryO sub u (some (.ct s)) = some (.ct s) := by unfold tryO; rw [Option.bind_some]
def pickU (u : Exn → MM) (x : Exn) (s : MS) : Option Bool → Option Out := fun b => b.bind fun b => if b = true then u x s else some (.ex x s)
@[simp] theorem tryO_ex (sub : List (Str × Bool)) (u : Exn → MM) : tryO sub u (some (.ex x s)) = pickU u x s (sub.lookup x.cls) := by unfold tryO; rw [Option.bind_some]; rfl
@[simp] theorem pickU_t (u : Exn → MM) : pickU u x s (some true) = u x s := by unfold pickU; rw [Option.bind_some, if_pos rfl]
@[simp] theorem pickU_f (u : Exn → MM) : pickU u x s (some false) = some (.ex x s) := by unfold pickU; rw [Option.bind_some, if_neg (by decide)]
def goneO (i : Nat) (o : Option Out) : Option Out := o.map (gone i)
@[simp] theorem goneO_nx : goneO i (some (.nx s)) = some (.nx (s.set i none)) := by unfold goneO; rw [Option.map_some]; rfl
@[simp] theorem goneO_rt : goneO i (some (.rt d s)) = some (.rt d s) := by unfold goneO; rw [Option.map_some]; rfl
@[simp] theorem goneO_ex : goneO i (some (.ex x s)) = some (.ex x s) := by unfold goneO; rw [Option.map_some]; rfl
@[simp] theorem goneO_bk : goneO i (some (.bk s)) = some (.bk (s.set i none)) := by unfold goneO; rw [Option.map_some]; rfl
@[simp] theorem goneO_ct : goneO i (some (.ct s)) = some (.ct (s.set i none)) := by unfold goneO; rw [Option.map_some]; rfl
theorem mSui_ap (u : Exn → MM) : mSui i u x s = if i < s.length then goneO i (u x (s.set i none)) else none := rfl
theorem dAttr_ap (ns : List Str) (f : Str) : dAttr ns f x s = if x.cls ∈ ns then ret1 (x.fs.lookup f) s else none := rfl
theorem dIsX_ap (sub : List (Str × Bool)) : dIsX sub x s = bE (ret1 (sub.lookup x.cls) s) fun b s => some (.bool b, s) := by
  unfold dIsX ret1 bE
  cases sub.lookup x.cls with
  | none => rfl
  | some b => rw [Option.map_some, Option.map_some, Option.bind_some]
def kRaise (n : Str) (fs : List Str) : List D → MS → Option Out := fun ds s => if ds.length = fs.length then some (.ex ⟨n, (fs.zip ds).reverse⟩ s) else none
theorem mRaise_ap (n : Str) (fs : List Str) : mRaise n fs as s = bE (as s) (kRaise n fs) := rfl
@[simp] theorem kRaise_ap (n : Str) (fs : List Str) : kRaise n fs ds s = if ds.length = fs.length then some (.ex ⟨n, (fs.zip ds).reverse⟩ s) else none := by unfold kRaise; rfl
end
theorem lookup_os (a b : String) (v : α) (r : List (Str × α)) : List.lookup (Str.ofString a) ((Str.ofString b, v) :: r) = if a = b then some v else List.lookup (Str.ofString a) r := by
  rw [List.lookup_cons]
  by_cases e : a = b
  · subst e; simp
  · have : (Str.ofString a == Str.ofString b) = false := by
      rw [beq_eq_false_iff_ne]; exact fun q => e (ofString_inj.mp q)
    rw [this, if_neg e]
end Z


namespace Z
open PySem PySem.Spec PyProof.Rows L2
/-! ## text.replace(y, z, 1), behind a test that writes a text -/
section
open Builtin Builtin.Str
def R1 (y z x : Str) : Str := if ((occurrences x y 0 x.length 1).isEmpty || (y.length == 0 && z.length == 0)) = true then x else glued z (partsBetween x (occurrences x y 0 x.length 1) y.length)
def rpl1 (y z x : Str) : Option Str := if tooLong (x.length + (occurrences x y 0 x.length 1).length * z.length) = false ∧ (R1 y z x).length ≤ sizeLine then some (R1 y z x) else none
theorem gives_rep1 (x y z : Str) (t u v w : Tok) (hu : (u == 0 || v == 0) = false) (huv : (u == v) = false) (hyz : (y == z) = false) (hl : tooLong (x.length + (occurrences x y 0 x.length 1).length * z.length) = false) :
    Gives («str.replace» ⟨[.str x t, .str y u, .str z v, .int 1 w], []⟩) (if ((occurrences x y 0 x.length 1).isEmpty || (y.length == 0 && z.length == 0)) = true then .val (.str x t) else .str (glued z (partsBetween x (occurrences x y 0 x.length 1) y.length))) := by
  have e : «str.replace» ⟨[.str x t, .str y u, .str z v, .int 1 w], []⟩ = (if ((occurrences x y 0 x.length 1).isEmpty || (y.length == 0 && z.length == 0)) = true then (do rule "str.replace.nothing"; ret (.str x t)) else
          (do let same ← isSame (.str y u) (.str z v)
              if same = true then (do rule "str.replace.old-is-new"; ret (.str x t)) else
              if tooLong (x.length + (occurrences x y 0 x.length 1).length * z.length) = true then unsupported "str.replace:memory" else
              retStr (glued z (partsBetween x (occurrences x y 0 x.length 1) y.length)))) := by
    show (do let limit ← countLimit "str.replace" (some (.int 1 w)) (x.length + 1); _) = _
    rw [countLimit_int "str.replace" 1 w (x.length + 1) (by decide)]
    rfl
  rw [e]
  cases hc : ((occurrences x y 0 x.length 1).isEmpty || (y.length == 0 && z.length == 0))
  · rw [isSame_str_other y z u v hu huv hyz, hl]
    exact .of_eq rfl
  · exact .rule (.of_eq rfl)
theorem call_rep1 {prog : Program} {w : World} {A : Around} {E : Value → Shared → Prop} {s : Shared} {x y z r : Str} {t u v w1 : Tok} {Q : Value → Shared → Prop} (hu : u ≠ 0) (hv : v ≠ 0) (huv : u ≠ v) (hyz : (y == z) = false) (hr : rpl1 y z x = some r)
    (hq : ∀ t' k, Q (.str r t') { s with toks := k }) : wpAny (model prog w) A (call (.builtin "str.replace") [.str x t, .str y u, .str z v, .int 1 w1]) Q E s := by
  unfold rpl1 at hr
  split at hr
  · rename_i h
    obtain ⟨hl, hs⟩ := h
    cases hr
    refine call_gives F.slot_str_replace (typeIs_str _ _ _) F.entry_str_replace (F.args_str_replace_4 _ _ _ _) (gives_rep1 x y z t u v w1 (by simp [hu, hv]) (by simp [huv]) hyz hl) ?_
    unfold R1 at hq hs
    cases hc : ((occurrences x y 0 x.length 1).isEmpty || (y.length == 0 && z.length == 0))
    · rw [hc] at hq hs
      simp only [Bool.false_eq_true, if_false] at hq hs ⊢
      exact ⟨hs, hq _ _⟩
    · rw [hc] at hq
      simp only [if_true] at hq ⊢
      exact hq t s.toks
  · cases hr
end
section
variable {X : Cx} {o b : Expr} {to tb : TE} {y z x c : Str} {j j1 k l : Nat} {c0 c1 c2 cp apos pos : Pos}
theorem call_three {prog : Program} {w : World} {A : Around} {E : Value → Shared → Prop} {env : Env} {s : Shared} {o a1 a2 a3 : Expr} {name : Str} {apos pos : Pos} {Q : Value → Shared → Prop} (hbase : attributeBase o name env (eval o env) = eval o env) (hs : starEach [a1, a2, a3] env = [(false, eval a1 env), (false, eval a2 env), (false, eval a3 env)]) (hline : (apos.endLine == pos.line) = true)
    (h : wpAny (model prog w) A (eval o env) (fun ov s₁ => MethodOnS prog w A E name ov pos [(false, eval a1 env), (false, eval a2 env), (false, eval a3 env)] Q s₁) E s) : wpAny (model prog w) A (eval (.Call (.Attribute o name apos) [a1, a2, a3] [] pos) env) Q E s := by
  refine wpAny_Call_method_lateS hbase (by rw [hs]; rfl) hline ?_
  rwa [hs]
def tRep1 (to : TE) (y z : Str) : TE := fun σ H Q => to σ H fun v H1 => ∃ x r, v = .str x ∧ rpl1 y z x = some r ∧ Q (.str r) H1
theorem pet_rep1 (ho : PE X o to) (hyz : (y == z) = false := by decide)
    (hst : starEach [.Constant (.str y) j c0, .Constant (.str z) k c1, .Constant (.int 1) l c2] X.env = [(false, eval (.Constant (.str y) j c0) X.env), (false, eval (.Constant (.str z) k c1) X.env), (false, eval (.Constant (.int 1) l c2) X.env)] := by rfl)
    (hbase : attributeBase o "replace" X.env (eval o X.env) = eval o X.env := by rfl) (hline : (apos.endLine == pos.line) = true := by rfl) :
    PET X (.Call (.Attribute o "replace" apos) [.Constant (.str y) j c0, .Constant (.str z) k c1, .Constant (.int 1) l c2] [] pos) (tRep1 to y z) := by
  intro pins s σ H Q h0 I h
  refine call_three hbase hst hline (wpAny_mono (PySem.wpAny_toks (ho.run pins s σ H _ I h)) (fun v s1 q => ?_) fun _ _ z => z.2)
  obtain ⟨hk, v', H1, I1, r1, x, r, e1, er, q⟩ := q
  subst e1
  obtain ⟨tx, e2⟩ := r1
  subst e2
  refine ⟨"str", _, PySem.F.plainAttrs_str, PySem.F.slot_str_replace, PySem.F.type_str_replace, typeIs_str _ _ _, (fun _ e => nomatch e), Calls.callWith_builtin rfl (Calls.evalArgs_plain (Calls.spliced_cons ?_))⟩
  refine Calls.Constant_str (Calls.spliced_cons (Calls.Constant_str (Calls.spliced_cons (wpAny_Constant_int (Calls.spliced_nil ?_)))))
  exact call_rep1 (by show s1.toks ≠ 0; omega) (by show s1.toks + 1 ≠ 0; omega) (by show s1.toks ≠ s1.toks + 1; omega) hyz er fun t' k => ⟨.str r, H1, I1.tok k, ⟨t', rfl⟩, q⟩
theorem pst_setT {i : Nat} {x : Str} {e : Expr} {te : TE} {pos' : Pos} (hN : X.N.Nodup) (hi : X.N[i]? = some x) (hx : Loc X.env.scope x) (he : PET X e te) (hs : swapsWith e (some (.Name x pos')) pos.line X.env = pure false) (hf : X.fn x = true ∨ X.env.scope.names.lookup x = some .local) :
    PST X (.Assign [.Name x pos'] e pos) (tAsg te (gName i)) := by
  intro pins s σ H D h0 I h
  refine wpAny_Assign_Name (thn (he pins s σ H _ h0 I h) fun v s1 ⟨y, H1, I1, r1, q1⟩ => ?_) hs
  exact store_ok I1 hN hi hx r1 (fun s2 I2 => ⟨_, H1, I2, q1⟩) hf
theorem pst_nox {st : Stmt} {t : TS} (h : PST X.nox st t) : PST X st t := fun pins s σ H D h0 I hw =>
  wpAny_mono (h pins s σ H D h0 (I.wish _) hw) (fun _ _ q => q.unwish) fun _ _ z => False.elim z
/-- a test that writes a text: behind it a token is out -/
def PT1 (X : Cx) (e : Expr) (t : TT) : Prop := ∀ (pins : List (Addr × Obj)) (s : Shared) (σ : L2.St) (H : Hp) (Q : Bool → Hp → Prop), Inv X pins σ H s → t σ H Q → wpAny (model X.prog X.w) X.A (isTrue e X.env (eval e X.env)) (fun d s1 => 1 ≤ s1.toks ∧ TP X pins σ Q d s1) X.xe s
theorem pt1_nox {e : Expr} {t : TT} (h : PT1 X.nox e t) : PT1 X e t := fun pins s σ H Q I hw =>
  wpAny_mono (h pins s σ H Q (I.wish _) hw) (fun _ _ q => ⟨q.1, let ⟨H', i, q'⟩ := q.2; ⟨H', i.unwish, q'⟩⟩) fun _ _ z => False.elim z
theorem pt1_cmp {op : CmpOp} {r : R2} (ho : OpR X (compareOp op) r) (hb : PE X b tb) (hm : behindInMarks op b = false) : PT1 X (.Compare (.Constant (.str c) j cp) [op] [b] pos) (tTest (tOp r (tC (.str c)) tb)) := by
  intro pins s σ H Q I h
  refine wpAny_isTrue_Compare1 (Calls.Constant_str ?_) hm
  have I0 : Inv X pins σ H { s with toks := s.toks + 1 } := I.tok _
  refine wpAny_mono (PySem.wpAny_toks (hb.run pins { s with toks := s.toks + 1 } σ H _ I0 h)) (fun u s2 q => ?_) fun _ _ z => z.2
  obtain ⟨hk, y, H2, I2, r2, q2⟩ := q
  have hk : s.toks + 1 ≤ s2.toks := hk
  refine wpAny_mono (PySem.wpAny_toks (ho pins s2 σ H2 (.str c) y (.str c s.toks) u _ I2 ⟨_, rfl⟩ r2 q2)) (fun d s3 q => ?_) fun _ _ z => z.2
  obtain ⟨hk2, z, H3, I3, r3, k, e, q3⟩ := q
  subst e
  cases r3
  exact wpAny_truthy_bool ⟨by omega, H3, I3, q3⟩
theorem ps_if1 {c : Expr} {a b : List Stmt} {tc : TT} {t u : TS} (hc : PT1 X c tc) (ha : PSsT X a t) (hb : PSs X b u) : PS X (.If c a b pos) (tIfS tc t u) := by
  refine ⟨fun pins s σ H D I h => ?_⟩
  refine wpAny_If (thn (hc pins s σ H _ I h) fun d s1 ⟨hk, H1, I1, q1⟩ => ?_)
  cases d with
  | true => exact ha pins s1 σ H1 D hk I1 q1
  | false => exact hb.run pins s1 σ H1 D I1 q1
end
def dRpl (y z : Str) : D → Option D
  | .str x => (rpl1 y z x).map .str
  | _ => none
theorem sim_rep {K : PySem.W.Frag} {O L W : List Nat} {to : TE} {mo : ME} {y z : Str} (ha : SimE K O L W to mo) : SimE K O L W (tRep1 to y z) (xUn (dRpl y z) mo) := fun c σ H s r d s' e Q q => by
  obtain ⟨x, e1, e2⟩ := xUn_of e
  refine ha c σ H s r _ _ e1 _ fun v H' r' ex hd => ?_
  cases hd <;> first | (cases e2; done) | skip
  rename_i x
  simp only [dRpl, Option.map_eq_some_iff] at e2
  obtain ⟨r0, e3, rfl⟩ := e2
  exact ⟨x, r0, rfl, e3, q _ H' r' ex (.str r0)⟩
section
variable {Γ : G} {Th : List Nat} {fz : Bool} {O O' Ol : List Nat} {b l o : Expr} {sts2 : List Stmt} {mb ml mo : ME} {m2 : MM} {c y z : Str} {j jy jz j1 : Nat} {cp pc cy cz c1 apos p2 p3 p4 p5 p6 : Pos}
/-- if c in b: x = l + o.replace(y, z, 1) -/
theorem ss_ifRep {op : CmpOp} {op2 : Operator} {r r2 : R2} {f f2 : D → D → Option D} {i : Nat} {x : Str} (ho : ∀ X, InG Γ X → OpR X (compareOp op) r) (hr : RS Γ.K r f) (hb : TrE Γ O [] [] b mb) (hm : behindInMarks op b = false) (ho2 : ∀ X, InG Γ X → OpR X (binaryOp op2) r2) (hr2 : RS Γ.K r2 f2) (hl : TrE Γ O O [] l ml) (hp : TrE Γ O O [] o mo)
    (hN : Γ.N[i]? = some x) (hv : locB Γ x = true) (ht : i ∉ Th) (hO : ∀ j ∈ O', j ∈ O.filter (· ≠ i)) (hT : ∀ j ∈ Th, j ∈ O') (he : TrSs Γ Th fz O O' Ol sts2 m2)
    (hyz : (y == z) = false := by decide) (hline : (apos.endLine == p3.line) = true := by rfl)
    (hst : ∀ env : Env, starEach [.Constant (.str y) jy cy, .Constant (.str z) jz cz, .Constant (.int 1) j1 c1] env = [(false, eval (.Constant (.str y) jy cy) env), (false, eval (.Constant (.str z) jz cz) env), (false, eval (.Constant (.int 1) j1 c1) env)] := by intro _; rfl)
    (hbase : ∀ env : Env, attributeBase o "replace" env (eval o env) = eval o env := by intro _; rfl)
    (hs : ∀ env : Env, swapsWith (.BinOp l op2 (.Call (.Attribute o "replace" apos) [.Constant (.str y) jy cy, .Constant (.str z) jz cz, .Constant (.int 1) j1 c1] [] p3) p4) (some (.Name x p2)) p5.line env = pure false := by intro _; rfl) :
    TrS Γ Th fz O O' Ol (.If (.Compare (.Constant (.str c) j cp) [op] [b] pc) [.Assign [.Name x p2] (.BinOp l op2 (.Call (.Attribute o "replace" apos) [.Constant (.str y) jy cy, .Constant (.str z) jz cz, .Constant (.int 1) j1 c1] [] p3) p4) p5] sts2 p6) (mIf (xT (xOp f (xC (.str c)) mb)) (mSet i (xOp f2 ml (xUn (dRpl y z) mo))) m2) := by
  obtain ⟨tb, pb, sb⟩ := hb
  obtain ⟨tl, pl, sl⟩ := hl
  obtain ⟨to, po, so⟩ := hp
  obtain ⟨v, pv, sv⟩ := he
  have sc : SimE Γ.K O [] [] (tC (.str c)) (xC (.str c)) := fun c σ H s r d s' e Q q => by cases e; exact q _ H r refl_hide (.str _)
  have sT := sim_test (L := []) (sim_opS (L := []) hr sc sb (fun _ z => z))
  have sE : SimE Γ.K O O [] (tOp r2 tl (tRep1 to y z)) (xOp f2 ml (xUn (dRpl y z) mo)) := sim_opS hr2 sl (sim_rep so) (fun _ z => by cases z)
  refine ⟨fun W => tIfS (tTest (tOp r (tC (.str c)) tb)) (tAsg (tOp r2 tl (tRep1 to y z)) (gName i)) (v W), fun X W h k => ps_if1 (pt1_nox (pt1_cmp (ho _ h.g) (pb _ h.g) hm)) (CwR.psst_one (pst_nox (pst_setT h.g.ndX (h.g.nx hN) (h.g.loc hv).1 (CwR.pet_op (ho2 _ h.g) (CwR.PET.of (pl _ h.g)) (pet_rep1 (po _ h.g) hyz (hst _) (hbase _) hline)) (hs _) (h.g.loc hv).2))) (pv X W h k), fun cn hc σ H s r o e E W w => ?_⟩
  unfold mIf at e
  obtain ⟨⟨k, s1⟩, e1, e2⟩ := bind_of e
  refine sT cn σ H s r _ _ e1 _ fun H1 r1 x1 => ?_
  have w1 := w.after (Fr.of_ex (O := O) (fun _ z => by cases z) x1)
  cases k with
  | true =>
    rw [if_pos rfl] at e2 ⊢
    unfold mSet at e2
    obtain ⟨pr, e3, rfl⟩ := mapNx_of e2
    refine sE cn σ H1 s1 r1 _ _ e3 _ fun v H2 r2 x2 d2 => ?_
    obtain ⟨r3, x3⟩ := setR r2 d2 (by rw [hc]; exact ht) hO (by rw [hc]; exact hT)
    exact w1.nx _ _ H2 rfl r3 ((Fr.of_ex (fun _ z => by cases z) x2).trans x3)
  | false =>
    rw [if_neg Bool.false_ne_true] at e2 ⊢
    exact sv cn hc σ H1 s1 r1 o e2 E W w1
end
end Z


namespace Z
open PySem PySem.Spec PyProof.Rows L2
/-! ## is True, is False -/
def dIsB : D → D → Option D
  | .bool a, .bool b => some (.bool (decide (a = b)))
  | _, _ => none
def dNotB : D → D → Option D
  | .bool a, .bool b => some (.bool (!decide (a = b)))
  | _, _ => none
theorem rs_isB {K : PySem.W.Frag} : RS K rIsB dIsB := fun H x y dx dy dz hx hy e Q q => by
  cases dx <;> cases dy <;> cases e
  cases hx; cases hy
  exact ⟨_, _, rfl, rfl, q _ fun M => .bl _⟩
theorem rs_notB {K : PySem.W.Frag} : RS K rNotB dNotB := fun H x y dx dy dz hx hy e Q q => by
  cases dx <;> cases dy <;> cases e
  cases hx; cases hy
  exact ⟨_, _, rfl, rfl, q _ fun M => .bl _⟩
section
variable {Γ : G}
theorem ho_isB : ∀ X, InG Γ X → OpR X (compareOp .Is) rIsB := fun _ _ => op_isBl
theorem ho_notB : ∀ X, InG Γ X → OpR X (compareOp .IsNot) rNotB := fun _ _ => op_notBl
end
/-! ## gcd, brought in by a name -/
def dGcd : List D → Option D
  | [.int a, .int b] => some (.int ((Nat.gcd a.natAbs b.natAbs : Nat) : Int))
  | _ => none
theorem rc_gcd {K : PySem.W.Frag} : RCS K rGcd dGcd := fun H vs ds dz h e Q q => by
  unfold dGcd at e
  split at e
  · cases e
    cases h with | cons h a => cases a with | cons h2 a2 => cases a2; cases h; cases h2; exact ⟨_, _, rfl, q _ fun M => .int _⟩
  · cases e
section
variable {Γ : G} {O L L0 W : List Nat} {e : Expr} {es : List Expr} {ms : MF} {x : Str} {p pos : Pos}
theorem tr_gcd (hg : Γ.sc.names.lookup x = some .globalImplicit) (hm : Γ.mg x = some (.builtin "math.gcd")) (ha : TrA Γ O L0 W (e :: es) ms)
    (hdb : (x == ("__debug__" : Str)) = false := by decide) (he : ∀ env : Env, starEach (e :: es) env = (false, eval e env) :: starEach es env := by intro _; rfl) (hpl : ∀ env : Env, (backTo pos (starEach es env)).any (·.1) = false := by intro _; rfl) :
    TrE Γ O L W (.Call (.Name x p) (e :: es) [] pos) (xFn dGcd ms) := by
  obtain ⟨t, pa, sa⟩ := ha
  exact ⟨_, fun X h => pe_callBfun cr_gcd (h.gl hg) (h.mgn hm) (pa X h) hdb (he X.env) (hpl X.env), sim_cb rc_gcd sa⟩
end
/-- a global that is a built-in function -/
def bfB (K : PySem.W.Frag) (x : Str) (id : String) : Bool := He.eqO (PySem.W.nsIn K mainGlobals x) (some (some (.builtin id)))
theorem bfB_ok {K : PySem.W.Frag} {h : Heap} {mg : Str → Option Value} {x : Str} {id : String} (X : K.In h) (G : h.Ns mainGlobals mg) (e : bfB K x id = true) : mg x = some (.builtin id) := PySem.W.mg_of X G (He.eqO_ok e)
/-! ## a comparison in an except suite -/
section
variable {Γ : G} {i : Nat} {O L L0 W : List Nat} {a b : Expr} {r : R2} {f : D → D → Option D} {pos : Pos}
theorem te_cmp {op : CmpOp} {ma mb : Exn → ME} (ho : ∀ A X, InG (Γ.sui A) X → OpR X (compareOp op) r) (hr : RS Γ.K r f) (ha : TrXE Γ i O L0 W a ma) (hb : TrXE Γ i O L0 W b mb) (hW : ∀ j ∈ W, j ∈ L0) (hW2 : ∀ j ∈ W, j ∈ O) (hm : behindInMarks op b = false) :
    TrXE Γ i O L W (.Compare a [op] [b] pos) (fun x => xOp f (ma x) (mb x)) := by
  obtain ⟨ta, pa, qa⟩ := ha
  obtain ⟨tb, pb, qb⟩ := hb
  refine ⟨fun a cls d => tOp r (ta a cls d) (tb a cls d), fun X a oe cls d pn hX hz hf => pe_cmpR (ho a _ (hX.sui (a := a) (pn := (a, oe) :: pn))) (pa X a oe cls d pn hX hz hf) (pb X a oe cls d pn hX hz hf) hm, fun c σ H s a cls d x r0 jx r1 s' e Q q => ?_⟩
  obtain ⟨x1, s1, y, e1, e2, e3⟩ := xOp_of e
  refine qa c σ H s a cls d x r0 jx _ _ e1 _ fun v H1 r1' k1 d1 => ?_
  refine qb c σ H1 s1 a cls d x r1' (jx.ex hW2 k1) _ _ e2 _ fun u H2 r2 k2 d2 => ?_
  exact hr H2 v u _ _ _ (dp_ex ex_hide0 (dp_ex (keep hW k2) d1)) (dp_ex ex_hide0 d2) e3 Q fun z hz => q z H2 r2 (k1.trans k2) (hz _)
end
/-! ## in a written dict of the module -/
def rInK (K : PySem.W.Frag) (q : Addr) (neg : Bool) : R2 := fun x y H Q => ∃ (z : Str) (r : Option Value), x = .str z ∧ y = .ref q ∧ PySem.W.nsIn K q z = some r ∧ Q (.bl (r.isSome != neg)) H
def dInK (f : Str → Option D) (neg : Bool) : D → Option D
  | .str z => some (.bool ((f z).isSome != neg))
  | _ => none
theorem kd_in {X : Cx} {q : Addr} (D : ∃ es n, KDict X.K X.w q es n) : OpR X (compareOp .In) (rInK X.K q false) := by
  obtain ⟨es, n, D⟩ := D
  intro pins s σ H x y v u Q I rx ry h
  obtain ⟨z, r, e1, e2, e3, e4⟩ := h
  exact op_in_kd D pins s σ H x y v u Q I rx ry ⟨z, r, e1, e2, e3, by simpa using e4⟩
theorem kd_nin {X : Cx} {q : Addr} (D : ∃ es n, KDict X.K X.w q es n) : OpR X (compareOp .NotIn) (rInK X.K q true) := by
  obtain ⟨es, n, D⟩ := D
  intro pins s σ H x y v u Q I rx ry h
  obtain ⟨z, r, e1, e2, e3, e4⟩ := h
  exact op_notIn_kd D pins s σ H x y v u Q I rx ry ⟨z, r, e1, e2, e3, by cases hr : r.isSome <;> rw [hr] at e4 <;> simpa [hr] using e4⟩
theorem sim_inK {K : PySem.W.Frag} {w : World} {O L L0 W : List Nat} {te : TE} {me : ME} {q : Addr} {f : Str → Option D} {neg : Bool} (hd : KDg K w q f) (he : SimE K O L0 W te me) : SimE K O L W (tOp (rInK K q neg) te (tC (.ref q))) (xUn (dInK f neg) me) := fun c σ H s r d s' e Q k => by
  obtain ⟨x, e1, e2⟩ := xUn_of e
  refine he c σ H s r _ _ e1 _ fun v H1 r1 x1 d1 => ?_
  cases d1 <;> first | (cases e2; done) | skip
  rename_i z
  cases e2
  rcases hd.2 z with ⟨d0, w0, e3, ⟨es, n, r0, D, e4, e5⟩, _⟩ | ⟨e3, ⟨es, n, r0, D, e4, e5⟩⟩
  · rcases e5 with ⟨a, _⟩ | ⟨v1, u1, a, b, _⟩
    · cases a
    · subst b
      refine ⟨z, _, rfl, rfl, e4, k _ H1 r1 x1 ?_⟩
      rw [e3]; exact .bl _
  · rcases e5 with ⟨_, b⟩ | ⟨v1, u1, a, b, _⟩
    · subst b
      refine ⟨z, _, rfl, rfl, e4, k _ H1 r1 x1 ?_⟩
      rw [e3]; exact .bl _
    · cases a
section
variable {Γ : G} {O L L0 W : List Nat} {e : Expr} {me : ME} {px pos : Pos} {x : Str} {q : Addr} {ft : Str → Option D}
theorem tr_inK (hg : Γ.sc.names.lookup x = some .globalImplicit) (hm : Γ.mg x = some (.ref q)) (hd : KDg Γ.K Γ.w q ft) (he : TrE Γ O L0 W e me) (hdb : (x == ("__debug__" : Str)) = false := by decide) :
    TrE Γ O L W (.Compare e [.In] [.Name x px] pos) (xUn (dInK ft false) me) := by
  obtain ⟨t, p, s⟩ := he
  exact ⟨tOp (rInK Γ.K q false) t (tC (.ref q)), fun X h => by
    rw [← h.K]
    exact pe_cmpR (kd_in (by rw [h.K, h.w]; exact hd.1)) (p X h) (pe_glob (v := .ref q) (h.gl hg) (h.mgn hm) rfl hdb) rfl, sim_inK hd s⟩
theorem tt_inK (hg : Γ.sc.names.lookup x = some .globalImplicit) (hm : Γ.mg x = some (.ref q)) (hd : KDg Γ.K Γ.w q ft) (he : TrE Γ O L0 W e me) (hdb : (x == ("__debug__" : Str)) = false := by decide) :
    TrT Γ O W (.Compare e [.In] [.Name x px] pos) (xT (xUn (dInK ft false) me)) := by
  obtain ⟨t, p, s⟩ := he
  exact ⟨tTest (tOp (rInK Γ.K q false) t (tC (.ref q))), fun X h => by
    rw [← h.K]
    exact pt_cmpR (kd_in (by rw [h.K, h.w]; exact hd.1)) (p X h) (pe_glob (v := .ref q) (h.gl hg) (h.mgn hm) rfl hdb) rfl, sim_test (L := []) (sim_inK hd s)⟩
theorem tr_ninK (hg : Γ.sc.names.lookup x = some .globalImplicit) (hm : Γ.mg x = some (.ref q)) (hd : KDg Γ.K Γ.w q ft) (he : TrE Γ O L0 W e me) (hdb : (x == ("__debug__" : Str)) = false := by decide) :
    TrE Γ O L W (.Compare e [.NotIn] [.Name x px] pos) (xUn (dInK ft true) me) := by
  obtain ⟨t, p, s⟩ := he
  exact ⟨tOp (rInK Γ.K q true) t (tC (.ref q)), fun X h => by
    rw [← h.K]
    exact pe_cmpR (kd_nin (by rw [h.K, h.w]; exact hd.1)) (p X h) (pe_glob (v := .ref q) (h.gl hg) (h.mgn hm) rfl hdb) rfl, sim_inK hd s⟩
theorem tt_ninK (hg : Γ.sc.names.lookup x = some .globalImplicit) (hm : Γ.mg x = some (.ref q)) (hd : KDg Γ.K Γ.w q ft) (he : TrE Γ O L0 W e me) (hdb : (x == ("__debug__" : Str)) = false := by decide) :
    TrT Γ O W (.Compare e [.NotIn] [.Name x px] pos) (xT (xUn (dInK ft true) me)) := by
  obtain ⟨t, p, s⟩ := he
  exact ⟨tTest (tOp (rInK Γ.K q true) t (tC (.ref q))), fun X h => by
    rw [← h.K]
    exact pt_cmpR (kd_nin (by rw [h.K, h.w]; exact hd.1)) (p X h) (pe_glob (v := .ref q) (h.gl hg) (h.mgn hm) rfl hdb) rfl, sim_test (L := []) (sim_inK hd s)⟩
end
end Z


namespace Z
open PySem PySem.Spec PyProof.Rows L2
/-! ## what is walked, where the slots of W alone may change: owned lists, too -/
def ItOk2 (K : PySem.W.Frag) (c : Cn) (O W : List Nat) (σ : L2.St) (J : It) (H : Hp) (ds : List D) : Prop := ∀ (i : Nat) (c' : Cn) (σ' : L2.St) (H' : Hp), Ex (hide (c.msk O σ) H) (hide (c'.msk O σ') H') → (∀ a o, ¬ Own W σ a → ¬ c.C a → H a = some o → H' a = some o) → (∀ a, c'.msk O σ' a → ∃ o, H' a = some o) →
  (∀ d, ds[i]? = some d → J.go i H' ∧ ∀ x H'', J.yld i H' x H'' → Ex H' H'' ∧ Rp K (hide (c'.msk O σ') H'') x d) ∧ (i = ds.length → J.stop i H')
theorem ItOk.two {K : PySem.W.Frag} {c : Cn} {O W : List Nat} {σ : L2.St} {J : It} {H : Hp} {ds : List D} (h : ItOk K c O σ J H ds) : ItOk2 K c O W σ J H ds := fun i c' σ' H' e _ t => h i c' σ' H' e t
def SimI2 (K : PySem.W.Frag) (O W : List Nat) (wi : TI) (m : MF) : Prop := ∀ (c : Cn) (σ : L2.St) (H : Hp) (s : MS), R K c O s σ H → ∀ ds s', m s = some (ds, s') → ∀ Q : It → Hp → Prop,
  (∀ J H', R K c O s' σ H' → Ex (hide (Own W σ) H) (hide (Own W σ) H') → ItOk2 K c O W σ J H' ds → Q J H') → wi σ H Q
theorem SimI.two {K : PySem.W.Frag} {O W : List Nat} {wi : TI} {m : MF} (h : SimI K O W wi m) : SimI2 K O W wi m := fun c σ H s r ds s' e Q q => h c σ H s r ds s' e Q fun J H' r' x it => q J H' r' x it.two
def TrI2 (Γ : G) (O W : List Nat) (tg e : Expr) (m : MF) : Prop := ∃ wi, (∀ X, InG Γ X → PI X tg e wi) ∧ SimI2 Γ.K O W wi m
theorem sim_lcW {K : PySem.W.Frag} {O L W vs : List Nat} {wi : TI} {g : TG} {tt : TT} {te : TE} {msrc : MF} {b : D → MS → Option MS} {mt : MT} {me : ME} (hi : SimI2 K O W wi msrc) (hg : SimG K O vs g b) (ht : SimT K O W tt mt) (he : SimE K O L W te me)
    (hv : ∀ j ∈ O, j ∉ vs) (hW : ∀ j ∈ W, j ∈ L) (hL : ∀ j ∈ L, j ∈ O) : SimF K O L W (tLc wi g tt te vs) (xLc msrc vs b mt me) := fun c σ H s r ds s' e Q q => by
  unfold xLc at e
  cases e1 : msrc s with
  | none => rw [e1] at e; cases e
  | some p =>
    obtain ⟨xs, s1⟩ := p
    rw [e1] at e
    simp only [Option.bind_some] at e
    split at e
    · rename_i hsz
      cases e2 : lcL vs b mt me xs (wipeM s1 vs) with
      | none => rw [e2] at e; cases e
      | some w =>
        obtain ⟨ds0, s2⟩ := w
        rw [e2] at e
        cases e
        have hWO : ∀ j ∈ W, j ∈ O := fun j hj => hL j (hW j hj)
        refine hi c σ H s r _ _ e1 _ fun J H1 r1 x1 it => ?_
        intro D hD
        have ow2 : ∀ {σ2 : L2.St}, Off vs (wipe σ vs) σ2 → Own W σ2 = Own W σ := fun {σ2} o => ((off_wipe vs σ).trans o).own fun j hj => hv j (hWO j hj)
        let Pv : Nat → Hp → Prop := fun i H' => ∃ (si : MS) (acc : List PyData) (us : List V) (rest : List PyData), R K (c.add D) O si (wipe σ vs) H' ∧ H' D = some (.lst us) ∧ RpAll K (hide ((c.add D).msk L (wipe σ vs)) H') us acc ∧
          Ex (hide (fun a => Own W σ a ∨ a = D) H1) (hide (fun a => Own W σ a ∨ a = D) H') ∧ lcL vs b mt me (xs.drop i) si = some (rest, s2) ∧ ds0 = acc ++ rest ∧ acc.length ≤ i
        refine ⟨fun i m H' => m = xs.length - i ∧ i ≤ xs.length ∧ Pv i H', ⟨xs.length, by simp, Nat.zero_le _, wipeM s1 vs, [], [], ds0, (r1.addC hD).wipeR hv, upd_same, .nil, ?_, e2, rfl, Nat.le_refl _⟩, ?_⟩
        · exact ex_hide_up (.inr rfl)
        rintro i m H' ⟨rfl, hile, si, acc, us, rest, ri, hDi, dacc, exi, erun, eds, hacc⟩
        have exm : Ex (hide (c.msk O σ) H1) (hide ((c.add D).msk O (wipe σ vs)) H') := fun a u z => by
          obtain ⟨n, z⟩ := of_hide z
          have ne : a ≠ D := ne_of_none z hD
          have z2 := (of_hide (exi a u (hide_of (fun y => y.elim (fun y => n (.inr (own_sub hWO a y))) ne) z))).2
          refine hide_of (fun y => ?_) z2
          rw [(off_wipe vs σ).msk hv] at y
          rcases y with (y | y) | y
          · exact n (.inl y)
          · exact ne y
          · exact n (.inr y)
        have trk := msk_there ri (L := O) (fun _ z => z)
        have exo : ∀ a o, ¬ Own W σ a → ¬ c.C a → H1 a = some o → H' a = some o := fun a o hn _ ha => (of_hide (exi a o (hide_of (fun y => y.elim hn (ne_of_none ha hD)) ha))).2
        obtain ⟨itgo, itstop⟩ := it i (c.add D) (wipe σ vs) H' exm exo trk
        by_cases hlt : i < xs.length
        · obtain ⟨d, hd⟩ : ∃ d, xs[i]? = some d := ⟨xs[i], List.getElem?_eq_getElem hlt⟩
          obtain ⟨go, yl⟩ := itgo d hd
          have edrop : xs.drop i = d :: xs.drop (i + 1) := by
            rw [List.drop_eq_getElem_cons hlt]
            rw [List.getElem?_eq_getElem hlt] at hd
            cases hd; rfl
          rw [edrop] at erun
          unfold lcL at erun
          cases eb : b d si with
          | none => rw [eb] at erun; cases erun
          | some sb =>
            rw [eb] at erun
            simp only [Option.bind_some] at erun
            cases et : mt sb with
            | none => rw [et] at erun; cases erun
            | some pt =>
              obtain ⟨bt, st⟩ := pt
              rw [et] at erun
              simp only [Option.bind_some] at erun
              refine .inr ⟨go, Pv (i + 1), fun H2 p2 => ⟨xs.length - (i + 1), by omega, rfl, hlt, p2⟩, fun x H2 y => ?_⟩
              obtain ⟨ex2, dx⟩ := yl x H2 y
              refine hg (c.add D) (wipe σ vs) H2 si x d (ri.ex ex2) dx sb eb _ fun σ2 rb ob => ?_
              refine ⟨ob.wipe.trans ((off_wipe vs σ).wipe), ?_⟩
              have offσ : Off vs σ σ2 := (off_wipe vs σ).trans ob
              have mL : (c.add D).msk L σ2 = (c.add D).msk L (wipe σ vs) := ob.msk fun j hj => hv j (hL j hj)
              have wEq : wipe σ2 vs = wipe σ vs := ob.wipe.trans ((off_wipe vs σ).wipe)
              have dn : ∀ {H3 : Hp} {s3 : MS}, R K (c.add D) O s3 σ2 H3 → ¬ Own W σ2 D := fun {H3 s3} r3 ⟨j, hj, z⟩ => by
                obtain ⟨p', _, _, k1, _, _, _, k5⟩ := r3.ow j (hWO j hj)
                rw [z] at k1
                cases k1
                exact k5 (.inr rfl)
              refine ht (c.add D) σ2 H2 sb rb bt st et _ fun H3 r3 x3 => ?_
              have hD3 : H3 D = some (.lst us) := (of_hide (x3 D _ (hide_of (dn rb) (ex2 D _ hDi)))).2
              cases bt with
              | false =>
                rw [if_neg Bool.false_ne_true] at erun ⊢
                refine ⟨wipeM st vs, acc, us, rest, wEq ▸ (r3.wipeR hv), hD3, ?_, ?_, erun, eds, by omega⟩
                · rw [← mL]
                  exact dpa_ex (keep hW x3) (by rw [mL]; exact dpa_ex (ex_hide ex2) dacc)
                · refine exi.trans ((ex_hide ex2).trans (ex_wide (fun a z => ?_) x3))
                  rw [ow2 ob] at z
                  exact .inl z
              | true =>
                rw [if_pos rfl] at erun ⊢
                cases ee : me st with
                | none => rw [ee] at erun; cases erun
                | some pe =>
                  obtain ⟨dy, s4⟩ := pe
                  rw [ee] at erun
                  simp only [Option.bind_some] at erun
                  cases er : lcL vs b mt me (xs.drop (i + 1)) (wipeM s4 vs) with
                  | none => rw [er] at erun; cases erun
                  | some pz =>
                    obtain ⟨rz, sz⟩ := pz
                    rw [er] at erun
                    cases erun
                    refine he (c.add D) σ2 H3 st r3 dy s4 ee _ fun yv H4 r4 x4 d4 => ?_
                    have hD4 : H4 D = some (.lst us) := (of_hide (x4 D _ (hide_of (dn r3) hD3))).2
                    have hlen : us.length = acc.length := dpa_len dacc
                    refine ⟨us, hD4, Nat.lt_of_lt_of_le (show us.length < 1000001 by omega) (by decide), wipeM s4 vs, acc ++ [dy], us ++ [yv], rz, ?_, upd_same, ?_, ?_, er, by rw [eds, List.append_assoc]; rfl, by rw [List.length_append, List.length_singleton]; omega⟩
                    · rw [← wEq]
                      exact (r4.updC (.inr rfl)).wipeR hv
                    · rw [← mL]
                      have up : Ex (hide ((c.add D).msk L σ2) H4) (hide ((c.add D).msk L σ2) (upd H4 D (.lst (us ++ [yv])))) := ex_hide_up (.inl (.inr rfl))
                      refine dpa_app (dpa_ex up (dpa_ex (keep hW x4) (dpa_ex (keep hW x3) ?_))) (.cons (dp_ex up d4) .nil)
                      rw [mL]
                      exact dpa_ex (ex_hide ex2) dacc
                    · refine exi.trans ((ex_hide ex2).trans ((ex_wide (fun a z => ?_) x3).trans ((ex_wide (fun a z => ?_) x4).trans (ex_hide_up (.inr rfl)))))
                      · rw [ow2 ob] at z
                        exact .inl z
                      · rw [ow2 ob] at z
                        exact .inl z
        · have hie : i = xs.length := by omega
          refine .inl ⟨itstop hie, ?_⟩
          rw [hie, List.drop_length] at erun
          unfold lcL at erun
          cases erun
          rw [List.append_nil] at eds
          have e0 : Ex (hide (c.msk O σ) H1) (hide (c.msk O σ) (hide (· = D) H')) := fun a u z => by
            obtain ⟨n, z⟩ := of_hide z
            have ne : a ≠ D := ne_of_none z hD
            exact hide_of n (hide_of ne (of_hide (exi a u (hide_of (fun y => y.elim (fun y => n (.inr (own_sub hWO a y))) ne) z))).2)
          refine q D us H' (fresh_of r1 hWO x1 D hD) (ri.unblk r1 hD hv e0) (x1.trans fun a u z => ?_) hDi ?_
          · obtain ⟨n, z⟩ := of_hide z
            have ne : a ≠ D := ne_of_none z hD
            exact hide_of n (hide_of ne (of_hide (exi a u (hide_of (fun y => y.elim n ne) z))).2)
          · rw [eds]
            refine dpa_ex (fun a u z => ?_) dacc
            rw [(off_wipe vs σ).msk fun j hj => hv j (hL j hj)] at z
            obtain ⟨n, z⟩ := of_hide z
            exact hide_of (fun y => n (y.elim (fun y => .inl (.inl y)) .inr)) (hide_of (fun y => n (.inl (.inr y))) z)
    · cases e
section
variable {Γ : G} {O L W vs : List Nat} {elt tg iter e : Expr} {ifs : List Expr} {scope : Scope} {own : List (Str × Nat)} {pos py : Pos} {msrc : MF} {b : D → MS → Option MS} {mt : MT} {me : ME}
theorem ti2_of (h : TrI Γ O W tg e msrc) : TrI2 Γ O W tg e msrc := by
  obtain ⟨wi, p, q⟩ := h
  exact ⟨wi, p, q.two⟩
/-- an owned list is walked, as it stands -/
theorem ti2_own {i : Nat} {x : Str} (hN : Γ.N[i]? = some x) (hv : visB Γ.sc x = true) (hi : i ∈ O) (hw : i ∉ W) (hW : ∀ j ∈ W, j ∈ O) (hd : (x == ("__debug__" : Str)) = false := by decide) (hcd : (x == ("__classdict__" : Str)) = false := by decide) : TrI2 Γ O W tg (.Name x py) (xOwn i) := by
  refine ⟨iSeq Γ.K (tVar i), fun X h => by rw [← h.K]; exact pi_seq (pe_var (h.nx hN) (h.vis hv) hd hcd), fun c σ H s r ds s' e Q k => ?_⟩
  obtain ⟨e3, rfl⟩ := xOwn_of e
  obtain ⟨p, us, h1, h3, h4, h5⟩ := r.owl hi e3
  refine ⟨.ref p, h1, p, rfl, .inl ⟨⟨us, .inl (.inl h3)⟩, k _ H r (Ex.refl _) fun j c' σ' H' ex exo t => ?_⟩⟩
  have hp : H' p = some (.lst us) := exo p _ (fun ⟨j, hj, z⟩ => hw (r.nd i j p hi (hW j hj) h1 z ▸ hj)) h5 h3
  refine ⟨fun d hj => ?_, fun hj => ⟨us, .inl (.inl hp), by rw [dpa_len h4, hj]; exact Nat.le_refl _⟩⟩
  obtain ⟨v, g1, g2⟩ := dpa_get h4 hj
  refine ⟨⟨us, v, .inl (.inl hp), g1⟩, fun x H'' y => ?_⟩
  obtain ⟨rfl, y⟩ := y
  have := y us (.inl (.inl hp))
  rw [g1] at this
  cases this
  exact ⟨Ex.refl _, dp_ex ex g2⟩
theorem tf_lcW (own : List (Str × Nat)) (hi : TrI2 Γ O W tg iter msrc) (ok : blkC Γ.N Γ.sc scope own = true) (hg : TrG (Γ.blk scope) O (own.map (·.2)) tg b) (ht : TrTs (Γ.blk scope) O W ifs mt) (he : TrE (Γ.blk scope) O L W elt me)
    (hv : ∀ j ∈ O, j ∉ own.map (·.2)) (hW : ∀ j ∈ W, j ∈ L) (hL : ∀ j ∈ L, j ∈ O) (hs : ∀ (env : Env) x, foldedSetIterable iter env x = pure x := by intro _ _; rfl) (hcm : Γ.calm = true := by rfl) :
    TrF Γ O L W (.ListComp elt [⟨tg, iter, ifs, 0⟩] scope pos) (xLc msrc (own.map (·.2)) b mt me) := by
  obtain ⟨wi, pi, si⟩ := hi
  obtain ⟨g, pg, sg⟩ := hg
  obtain ⟨t, pt, st⟩ := ht
  obtain ⟨te, pe, se⟩ := he
  exact ⟨tLc wi g t te (own.map (·.2)), fun X h => pe_lc (h.cm hcm) h.ndX (pi X h) (by rw [h.N, h.sc]; exact blkOk_by ok) (fun s H C cl fp => pg _ (h.blk scope s H C cl fp)) (fun s H C cl fp => pt _ (h.blk scope s H C cl fp)) (fun s H C cl fp => pe _ (h.blk scope s H C cl fp)) (hs X.env), sim_lcW si sg st se hv hW hL⟩
/-- y = [..] over an owned list -/
theorem setLcW_t {i : Nat} {y : Str} {lpos : Pos} (own : List (Str × Nat)) (hN : Γ.N[i]? = some y) (hyl : Γ.sc.names.lookup y = some .local) (hsw : swapsWith (.ListComp elt [⟨tg, iter, ifs, 0⟩] scope lpos) (some (.Name y py)) pos.line (envS Γ.sc) = pure true)
    (hi : TrI2 Γ O W tg iter msrc) (ok : blkC Γ.N Γ.sc scope own = true) (hg : TrG (Γ.blk scope) O (own.map (·.2)) tg b) (ht : TrTs (Γ.blk scope) O W ifs mt) (he : TrE (Γ.blk scope) O O W elt me)
    (hv : ∀ j ∈ O, j ∉ own.map (·.2)) (hW : ∀ j ∈ W, j ∈ O) (hs : ∀ (env : Env) x, foldedSetIterable iter env x = pure x := by intro _ _; rfl) (hcm : Γ.calm = true := by rfl) :
    ∃ t : TE, (∀ X, InG Γ X → PS X (.Assign [.Name y py] (.ListComp elt [⟨tg, iter, ifs, 0⟩] scope lpos) pos) (tAsg t (gName i))) ∧ SimF Γ.K O O W t (xLc msrc (own.map (·.2)) b mt me) := by
  obtain ⟨wi, pi, si⟩ := hi
  obtain ⟨g, pg, sg⟩ := hg
  obtain ⟨t, pt, st⟩ := ht
  obtain ⟨te, pe, se⟩ := he
  exact ⟨tLc wi g t te (own.map (·.2)), fun X h => ps_setLc (h.cm hcm) h.ndX (h.nx hN) (by rw [h.sc]; exact hyl) ((swaps_sc (h.sc.trans rfl)).trans hsw) (pi X h) (by rw [h.N, h.sc]; exact blkOk_by ok) (fun s H C cl fp => pg _ (h.blk scope s H C cl fp)) (fun s H C cl fp => pt _ (h.blk scope s H C cl fp)) (fun s H C cl fp => pe _ (h.blk scope s H C cl fp)) (hs X.env), sim_lcW si sg st se hv hW (fun _ z => z)⟩
end
end Z


namespace Z
open PySem PySem.Spec PyProof.Rows L2
/-! ## comprehensions of two clauses -/
def lcO (vs vs1 : List Nat) (b : D → MS → Option MS) (t : MT) (msrc1 : MF) (b1 : D → MS → Option MS) (t1 : MT) (e : ME) : List D → MS → Option (List D × MS)
  | [], s => some ([], s)
  | d :: ds, s => (b d s).bind fun s1 => (t s1).bind fun q => if q.1 = true then (msrc1 q.2).bind fun p => (lcL vs1 b1 t1 e p.1 (wipeM p.2 vs1)).bind fun z => (lcO vs vs1 b t msrc1 b1 t1 e ds (wipeM z.2 vs)).map fun y => (z.1 ++ y.1, y.2) else lcO vs vs1 b t msrc1 b1 t1 e ds (wipeM q.2 vs)
def xLc2 (src : MF) (vs : List Nat) (b : D → MS → Option MS) (t : MT) (src1 : MF) (vs1 : List Nat) (b1 : D → MS → Option MS) (t1 : MT) (e : ME) : MF := fun s => (src s).bind fun p => (lcO vs vs1 b t src1 b1 t1 e p.1 (wipeM p.2 vs)).bind fun q => if q.1.length ≤ 1000000 then some (q.1, unwipe p.2 q.2 vs) else none
theorem sim_lc2 {K : PySem.W.Frag} {O L W vs vs1 : List Nat} {wi wi1 : TI} {g g1 : TG} {tt tt1 : TT} {te : TE} {msrc msrc1 : MF} {b b1 : D → MS → Option MS} {mt mt1 : MT} {me : ME} (hi : SimI2 K O W wi msrc) (hg : SimG K O vs g b) (ht : SimT K O W tt mt) (hi1 : SimI2 K O W wi1 msrc1) (hg1 : SimG K O vs1 g1 b1) (ht1 : SimT K O W tt1 mt1) (he : SimE K O L W te me)
    (hv : ∀ j ∈ O, j ∉ vs) (hv1 : ∀ j ∈ vs1, j ∈ vs) (hW : ∀ j ∈ W, j ∈ L) (hL : ∀ j ∈ L, j ∈ O) : SimF K O L W (tLc2 wi g tt wi1 g1 tt1 te vs vs1) (xLc2 msrc vs b mt msrc1 vs1 b1 mt1 me) := fun c σ H s r ds s' e Q q => by
  unfold xLc2 at e
  obtain ⟨⟨xs, s1⟩, e1, e⟩ := bind_of e
  obtain ⟨⟨ds0, s2⟩, e2, e⟩ := bind_of e
  dsimp only at e
  split at e
  · rename_i hsz
    cases e
    have hv1' : ∀ j ∈ O, j ∉ vs1 := fun j hj z => hv j hj (hv1 j z)
    have hWO : ∀ j ∈ W, j ∈ O := fun j hj => hL j (hW j hj)
    refine hi c σ H s r _ _ e1 _ fun J H1 r1 x1 it => ?_
    intro D hD
    have ow2 : ∀ {σ2 : L2.St}, Off vs (wipe σ vs) σ2 → Own W σ2 = Own W σ := fun {σ2} o => ((off_wipe vs σ).trans o).own fun j hj => hv j (hWO j hj)
    let Pv : Nat → Hp → Prop := fun i H' => ∃ (si : MS) (acc : List PyData) (us : List V) (rest : List PyData), R K (c.add D) O si (wipe σ vs) H' ∧ H' D = some (.lst us) ∧ RpAll K (hide ((c.add D).msk L (wipe σ vs)) H') us acc ∧
      Ex (hide (fun a => Own W σ a ∨ a = D) H1) (hide (fun a => Own W σ a ∨ a = D) H') ∧ lcO vs vs1 b mt msrc1 b1 mt1 me (xs.drop i) si = some (rest, s2) ∧ ds = acc ++ rest
    refine ⟨fun i m H' => m = xs.length - i ∧ i ≤ xs.length ∧ Pv i H', ⟨xs.length, by simp, Nat.zero_le _, wipeM s1 vs, [], [], ds, (r1.addC hD).wipeR hv, upd_same, .nil, ?_, e2, rfl⟩, ?_⟩
    · exact ex_hide_up (.inr rfl)
    rintro i m H' ⟨rfl, hile, si, acc, us, rest, ri, hDi, dacc, exi, erun, eds⟩
    have exm : Ex (hide (c.msk O σ) H1) (hide ((c.add D).msk O (wipe σ vs)) H') := fun a u z => by
      obtain ⟨n, z⟩ := of_hide z
      have ne : a ≠ D := ne_of_none z hD
      have z2 := (of_hide (exi a u (hide_of (fun y => y.elim (fun y => n (.inr (own_sub hWO a y))) ne) z))).2
      refine hide_of (fun y => ?_) z2
      rw [(off_wipe vs σ).msk hv] at y
      rcases y with (y | y) | y
      · exact n (.inl y)
      · exact ne y
      · exact n (.inr y)
    have trk := msk_there ri (L := O) (fun _ z => z)
    have exo : ∀ a o, ¬ Own W σ a → ¬ c.C a → H1 a = some o → H' a = some o := fun a o hn _ ha => (of_hide (exi a o (hide_of (fun y => y.elim hn (ne_of_none ha hD)) ha))).2
    obtain ⟨itgo, itstop⟩ := it i (c.add D) (wipe σ vs) H' exm exo trk
    by_cases hlt : i < xs.length
    · obtain ⟨d, hd⟩ : ∃ d, xs[i]? = some d := ⟨xs[i], List.getElem?_eq_getElem hlt⟩
      obtain ⟨go, yl⟩ := itgo d hd
      have edrop : xs.drop i = d :: xs.drop (i + 1) := by
        rw [List.drop_eq_getElem_cons hlt]
        rw [List.getElem?_eq_getElem hlt] at hd
        cases hd; rfl
      rw [edrop] at erun
      unfold lcO at erun
      obtain ⟨sb, eb, erun⟩ := bind_of erun
      obtain ⟨⟨bt, st⟩, et, erun⟩ := bind_of erun
      dsimp only at erun
      refine .inr ⟨go, Pv (i + 1), fun H2 p2 => ⟨xs.length - (i + 1), by omega, rfl, hlt, p2⟩, fun x H2 y => ?_⟩
      obtain ⟨ex2, dx⟩ := yl x H2 y
      refine hg (c.add D) (wipe σ vs) H2 si x d (ri.ex ex2) dx sb eb _ fun σ2 rb ob => ?_
      refine ⟨ob.wipe.trans ((off_wipe vs σ).wipe), ?_⟩
      have offσ : Off vs σ σ2 := (off_wipe vs σ).trans ob
      have mL : (c.add D).msk L σ2 = (c.add D).msk L (wipe σ vs) := ob.msk fun j hj => hv j (hL j hj)
      have wEq : wipe σ2 vs = wipe σ vs := ob.wipe.trans ((off_wipe vs σ).wipe)
      have oW : Own W σ2 = Own W σ := ow2 ob
      have dn : ∀ {H3 : Hp} {s3 : MS} {σ3 : L2.St}, R K (c.add D) O s3 σ3 H3 → ¬ Own W σ3 D := fun {H3 s3 σ3} r3 ⟨j, hj, z⟩ => by
        obtain ⟨p', _, _, k1, _, _, _, k5⟩ := r3.ow j (hWO j hj)
        rw [z] at k1
        cases k1
        exact k5 (.inr rfl)
      refine ht (c.add D) σ2 H2 sb rb bt st et _ fun H3 r3 x3 => ?_
      have hD3 : H3 D = some (.lst us) := (of_hide (x3 D _ (hide_of (dn rb) (ex2 D _ hDi)))).2
      have dacc3 : RpAll K (hide ((c.add D).msk L σ2) H3) us acc := dpa_ex (keep hW x3) (by rw [mL]; exact dpa_ex (ex_hide ex2) dacc)
      have exi3 : Ex (hide (fun a => Own W σ a ∨ a = D) H1) (hide (fun a => Own W σ a ∨ a = D) H3) := by
        refine exi.trans ((ex_hide ex2).trans (ex_wide (fun a z => ?_) x3))
        rw [oW] at z
        exact .inl z
      cases bt with
      | false =>
        rw [if_neg Bool.false_ne_true] at erun ⊢
        exact ⟨wipeM st vs, acc, us, rest, wEq ▸ (r3.wipeR hv), hD3, by rw [← mL]; exact dacc3, exi3, erun, eds⟩
      | true =>
        rw [if_pos rfl] at erun ⊢
        obtain ⟨⟨xs1, s4⟩, e4, erun⟩ := bind_of erun
        obtain ⟨⟨z1, s5⟩, e5, erun⟩ := bind_of erun
        obtain ⟨⟨rO, s6⟩, e6, erun⟩ := mapNx_of erun
        cases erun
        refine hi1 (c.add D) σ2 H3 st r3 _ _ e4 _ fun J1 H4 r4 x4 it1 => ?_
        have hD4 : H4 D = some (.lst us) := (of_hide (x4 D _ (hide_of (dn r3) hD3))).2
        have dacc4 : RpAll K (hide ((c.add D).msk L σ2) H4) us acc := dpa_ex (keep hW x4) dacc3
        have exi4 : Ex (hide (fun a => Own W σ a ∨ a = D) H1) (hide (fun a => Own W σ a ∨ a = D) H4) := by
          refine exi3.trans (ex_wide (fun a z => ?_) x4)
          rw [oW] at z
          exact .inl z
        let P1 : Nat → Hp → Prop := fun j H' => ∃ (sj : MS) (acc1 : List PyData) (us1 : List V) (rest1 : List PyData), R K (c.add D) O sj (wipe σ2 vs1) H' ∧ H' D = some (.lst us1) ∧ RpAll K (hide ((c.add D).msk L σ2) H') us1 acc1 ∧
          Ex (hide (fun a => Own W σ a ∨ a = D) H1) (hide (fun a => Own W σ a ∨ a = D) H') ∧ Ex (hide (fun a => Own W σ a ∨ a = D) H4) (hide (fun a => Own W σ a ∨ a = D) H') ∧ lcL vs1 b1 mt1 me (xs1.drop j) sj = some (rest1, s5) ∧ ds = acc1 ++ (rest1 ++ rO)
        refine ⟨fun j m H' => m = xs1.length - j ∧ j ≤ xs1.length ∧ P1 j H', ⟨xs1.length, by simp, Nat.zero_le _, wipeM s4 vs1, acc, us, z1, r4.wipeR hv1', hD4, dacc4, exi4, Ex.refl _, e5, eds⟩, ?_⟩
        rintro j m H'' ⟨rfl, hjle, sj, acc1, us1, rest1, rj, hDj, daccj, exij, ex4j, erunj, edsj⟩
        have exo1 : ∀ a o, ¬ Own W σ2 a → ¬ (c.add D).C a → H4 a = some o → H'' a = some o := fun a o hn hc ha => (of_hide (ex4j a o (hide_of (fun y => y.elim (fun y => hn (by rw [oW]; exact y)) fun y => hc (.inr y)) ha))).2
        have exm1 : Ex (hide ((c.add D).msk O σ2) H4) (hide ((c.add D).msk O (wipe σ2 vs1)) H'') := fun a u z => by
          obtain ⟨n, z⟩ := of_hide z
          rw [(off_wipe vs1 σ2).msk hv1']
          exact hide_of n (exo1 a u (fun y => n (.inr (own_sub hWO a y))) (fun y => n (.inl y)) z)
        have trk1 := msk_there rj (L := O) (fun _ z => z)
        obtain ⟨itgo1, itstop1⟩ := it1 j (c.add D) (wipe σ2 vs1) H'' exm1 exo1 trk1
        by_cases hlt1 : j < xs1.length
        · obtain ⟨d1, hd1⟩ : ∃ d, xs1[j]? = some d := ⟨xs1[j], List.getElem?_eq_getElem hlt1⟩
          obtain ⟨go1, yl1⟩ := itgo1 d1 hd1
          have edrop1 : xs1.drop j = d1 :: xs1.drop (j + 1) := by
            rw [List.drop_eq_getElem_cons hlt1]
            rw [List.getElem?_eq_getElem hlt1] at hd1
            cases hd1; rfl
          rw [edrop1] at erunj
          unfold lcL at erunj
          obtain ⟨sb1, eb1, erunj⟩ := bind_of erunj
          obtain ⟨⟨bt1, st1⟩, et1, erunj⟩ := bind_of erunj
          dsimp only at erunj
          refine .inr ⟨go1, P1 (j + 1), fun H2 p2 => ⟨xs1.length - (j + 1), by omega, rfl, hlt1, p2⟩, fun x5 H5 y5 => ?_⟩
          obtain ⟨ex5, dx5⟩ := yl1 x5 H5 y5
          refine hg1 (c.add D) (wipe σ2 vs1) H5 sj x5 d1 (rj.ex ex5) dx5 sb1 eb1 _ fun σ3 rb1 ob1 => ?_
          refine ⟨ob1.wipe.trans ((off_wipe vs1 σ2).wipe), ?_⟩
          have off3 : Off vs1 σ2 σ3 := (off_wipe vs1 σ2).trans ob1
          have mL3 : (c.add D).msk L σ3 = (c.add D).msk L σ2 := off3.msk fun j hj => hv1' j (hL j hj)
          have oW3 : Own W σ3 = Own W σ := (off3.own fun j hj => hv1' j (hWO j hj)).trans oW
          have wEq1 : wipe σ3 vs1 = wipe σ2 vs1 := ob1.wipe.trans ((off_wipe vs1 σ2).wipe)
          refine ht1 (c.add D) σ3 H5 sb1 rb1 bt1 st1 et1 _ fun H6 r6 x6 => ?_
          have hD6 : H6 D = some (.lst us1) := (of_hide (x6 D _ (hide_of (dn rb1) (ex5 D _ hDj)))).2
          have dacc6 : RpAll K (hide ((c.add D).msk L σ3) H6) us1 acc1 := dpa_ex (keep hW x6) (by rw [mL3]; exact dpa_ex (ex_hide ex5) daccj)
          have w6 : ∀ (B : Hp), Ex (hide (fun a => Own W σ a ∨ a = D) B) (hide (fun a => Own W σ a ∨ a = D) H'') → Ex (hide (fun a => Own W σ a ∨ a = D) B) (hide (fun a => Own W σ a ∨ a = D) H6) := fun B h => by
            refine h.trans ((ex_hide ex5).trans (ex_wide (fun a z => ?_) x6))
            rw [oW3] at z
            exact .inl z
          cases bt1 with
          | false =>
            rw [if_neg Bool.false_ne_true] at erunj ⊢
            exact ⟨wipeM st1 vs1, acc1, us1, rest1, wEq1 ▸ (r6.wipeR hv1'), hD6, by rw [← mL3]; exact dacc6, w6 H1 exij, w6 H4 ex4j, erunj, edsj⟩
          | true =>
            rw [if_pos rfl] at erunj ⊢
            obtain ⟨⟨dy, s7⟩, e7, erunj⟩ := bind_of erunj
            obtain ⟨⟨rz, sz⟩, e8, erunj⟩ := mapNx_of erunj
            cases erunj
            refine he (c.add D) σ3 H6 st1 r6 dy s7 e7 _ fun yv H7 r7 x7 d7 => ?_
            have hD7 : H7 D = some (.lst us1) := (of_hide (x7 D _ (hide_of (dn r6) hD6))).2
            have hlen : us1.length = acc1.length := dpa_len daccj
            have hle : us1.length < 1000001 := by
              have := congrArg List.length edsj
              rw [List.length_append] at this
              omega
            have w7 : ∀ (B : Hp), Ex (hide (fun a => Own W σ a ∨ a = D) B) (hide (fun a => Own W σ a ∨ a = D) H'') → Ex (hide (fun a => Own W σ a ∨ a = D) B) (hide (fun a => Own W σ a ∨ a = D) (upd H7 D (.lst (us1 ++ [yv])))) := fun B h => by
              refine (w6 B h).trans ((ex_wide (fun a z => ?_) x7).trans (ex_hide_up (.inr rfl)))
              rw [oW3] at z
              exact .inl z
            refine ⟨us1, hD7, Nat.lt_of_lt_of_le hle (by decide), wipeM s7 vs1, acc1 ++ [dy], us1 ++ [yv], rz, ?_, upd_same, ?_, w7 H1 exij, w7 H4 ex4j, e8, by rw [edsj, List.append_assoc]; rfl⟩
            · rw [← wEq1]
              exact (r7.updC (.inr rfl)).wipeR hv1'
            · rw [← mL3]
              have up : Ex (hide ((c.add D).msk L σ3) H7) (hide ((c.add D).msk L σ3) (upd H7 D (.lst (us1 ++ [yv])))) := ex_hide_up (.inl (.inr rfl))
              exact dpa_app (dpa_ex up (dpa_ex (keep hW x7) dacc6)) (.cons (dp_ex up d7) .nil)
        · have hje : j = xs1.length := by omega
          refine .inl ⟨itstop1 hje, ?_⟩
          rw [hje, List.drop_length] at erunj
          unfold lcL at erunj
          cases erunj
          have w2 : wipe (wipe σ2 vs1) vs = wipe σ vs := by
            rw [← wEq]
            exact Off.wipe ⟨wipe_length _ _, fun k hk => (off_wipe vs1 σ2).2 k fun z => hk (hv1 k z)⟩
          exact ⟨wipeM s5 vs, acc1, us1, rO, w2 ▸ (rj.wipeR hv), hDj, by rw [← mL]; exact daccj, exij, e6, edsj⟩
    · have hie : i = xs.length := by omega
      refine .inl ⟨itstop hie, ?_⟩
      rw [hie, List.drop_length] at erun
      unfold lcO at erun
      cases erun
      rw [List.append_nil] at eds
      have e0 : Ex (hide (c.msk O σ) H1) (hide (c.msk O σ) (hide (· = D) H')) := fun a u z => by
        obtain ⟨n, z⟩ := of_hide z
        have ne : a ≠ D := ne_of_none z hD
        exact hide_of n (hide_of ne (of_hide (exi a u (hide_of (fun y => y.elim (fun y => n (.inr (own_sub hWO a y))) ne) z))).2)
      refine q D us H' (fresh_of r1 hWO x1 D hD) (ri.unblk r1 hD hv e0) (x1.trans fun a u z => ?_) hDi ?_
      · obtain ⟨n, z⟩ := of_hide z
        have ne : a ≠ D := ne_of_none z hD
        exact hide_of n (hide_of ne (of_hide (exi a u (hide_of (fun y => y.elim n ne) z))).2)
      · rw [eds]
        refine dpa_ex (fun a u z => ?_) dacc
        rw [(off_wipe vs σ).msk fun j hj => hv j (hL j hj)] at z
        obtain ⟨n, z⟩ := of_hide z
        exact hide_of (fun y => n (y.elim (fun y => .inl (.inl y)) .inr)) (hide_of (fun y => n (.inl (.inr y))) z)
  · cases e
section
variable {Γ : G} {O L W vs1 : List Nat} {elt tg iter tg1 iter1 : Expr} {ifs ifs1 : List Expr} {scope : Scope} {own : List (Str × Nat)} {pos py : Pos} {msrc msrc1 : MF} {b b1 : D → MS → Option MS} {mt mt1 : MT} {me : ME}
theorem tf_lc2 (own : List (Str × Nat)) (hi : TrI2 Γ O W tg iter msrc) (ok : blkC Γ.N Γ.sc scope own = true) (hg : TrG (Γ.blk scope) O (own.map (·.2)) tg b) (ht : TrTs (Γ.blk scope) O W ifs mt) (hi1 : TrI2 (Γ.blk scope) O W tg1 iter1 msrc1) (hg1 : TrG (Γ.blk scope) O vs1 tg1 b1) (ht1 : TrTs (Γ.blk scope) O W ifs1 mt1) (he : TrE (Γ.blk scope) O L W elt me)
    (hv : ∀ j ∈ O, j ∉ own.map (·.2)) (hv1 : ∀ j ∈ vs1, j ∈ own.map (·.2)) (hW : ∀ j ∈ W, j ∈ L) (hL : ∀ j ∈ L, j ∈ O) (hs : ∀ (env : Env) x, foldedSetIterable iter env x = pure x := by intro _ _; rfl) (hs1 : ∀ (env : Env) x, foldedSetIterable iter1 env x = pure x := by intro _ _; rfl) (hcm : Γ.calm = true := by rfl) :
    TrF Γ O L W (.ListComp elt [⟨tg, iter, ifs, 0⟩, ⟨tg1, iter1, ifs1, 0⟩] scope pos) (xLc2 msrc (own.map (·.2)) b mt msrc1 vs1 b1 mt1 me) := by
  obtain ⟨wi, pi, si⟩ := hi
  obtain ⟨g, pg, sg⟩ := hg
  obtain ⟨t, pt, st⟩ := ht
  obtain ⟨wi1, pi1, si1⟩ := hi1
  obtain ⟨g1, pg1, sg1⟩ := hg1
  obtain ⟨t1, pt1, st1⟩ := ht1
  obtain ⟨te, pe, se⟩ := he
  exact ⟨tLc2 wi g t wi1 g1 t1 te (own.map (·.2)) vs1, fun X h => pe_lc2 (h.cm hcm) h.ndX (pi X h) (by rw [h.N, h.sc]; exact blkOk_by ok) hv1 (fun s H C cl fp => pg _ (h.blk scope s H C cl fp)) (fun s H C cl fp => pt _ (h.blk scope s H C cl fp)) (fun s H C cl fp => pi1 _ (h.blk scope s H C cl fp)) (fun s H C cl fp => pg1 _ (h.blk scope s H C cl fp)) (fun s H C cl fp => pt1 _ (h.blk scope s H C cl fp)) (fun s H C cl fp => pe _ (h.blk scope s H C cl fp)) (hs X.env) hs1, sim_lc2 si sg st si1 sg1 st1 se hv hv1 hW hL⟩
theorem setLc2_t {i : Nat} {y : Str} {lpos : Pos} (own : List (Str × Nat)) (hN : Γ.N[i]? = some y) (hyl : Γ.sc.names.lookup y = some .local) (hsw : swapsWith (.ListComp elt [⟨tg, iter, ifs, 0⟩, ⟨tg1, iter1, ifs1, 0⟩] scope lpos) (some (.Name y py)) pos.line (envS Γ.sc) = pure true)
    (hi : TrI2 Γ O W tg iter msrc) (ok : blkC Γ.N Γ.sc scope own = true) (hg : TrG (Γ.blk scope) O (own.map (·.2)) tg b) (ht : TrTs (Γ.blk scope) O W ifs mt) (hi1 : TrI2 (Γ.blk scope) O W tg1 iter1 msrc1) (hg1 : TrG (Γ.blk scope) O vs1 tg1 b1) (ht1 : TrTs (Γ.blk scope) O W ifs1 mt1) (he : TrE (Γ.blk scope) O O W elt me)
    (hv : ∀ j ∈ O, j ∉ own.map (·.2)) (hv1 : ∀ j ∈ vs1, j ∈ own.map (·.2)) (hW : ∀ j ∈ W, j ∈ O) (hs : ∀ (env : Env) x, foldedSetIterable iter env x = pure x := by intro _ _; rfl) (hs1 : ∀ (env : Env) x, foldedSetIterable iter1 env x = pure x := by intro _ _; rfl) (hcm : Γ.calm = true := by rfl) :
    ∃ t : TE, (∀ X, InG Γ X → PS X (.Assign [.Name y py] (.ListComp elt [⟨tg, iter, ifs, 0⟩, ⟨tg1, iter1, ifs1, 0⟩] scope lpos) pos) (tAsg t (gName i))) ∧ SimF Γ.K O O W t (xLc2 msrc (own.map (·.2)) b mt msrc1 vs1 b1 mt1 me) := by
  obtain ⟨wi, pi, si⟩ := hi
  obtain ⟨g, pg, sg⟩ := hg
  obtain ⟨t, pt, st⟩ := ht
  obtain ⟨wi1, pi1, si1⟩ := hi1
  obtain ⟨g1, pg1, sg1⟩ := hg1
  obtain ⟨t1, pt1, st1⟩ := ht1
  obtain ⟨te, pe, se⟩ := he
  exact ⟨tLc2 wi g t wi1 g1 t1 te (own.map (·.2)) vs1, fun X h => ps_setLc2 (h.cm hcm) h.ndX (h.nx hN) (by rw [h.sc]; exact hyl) ((swaps_sc (h.sc.trans rfl)).trans hsw) (pi X h) (by rw [h.N, h.sc]; exact blkOk_by ok) hv1 (fun s H C cl fp => pg _ (h.blk scope s H C cl fp)) (fun s H C cl fp => pt _ (h.blk scope s H C cl fp)) (fun s H C cl fp => pi1 _ (h.blk scope s H C cl fp)) (fun s H C cl fp => pg1 _ (h.blk scope s H C cl fp)) (fun s H C cl fp => pt1 _ (h.blk scope s H C cl fp)) (fun s H C cl fp => pe _ (h.blk scope s H C cl fp)) (hs X.env) hs1, sim_lc2 si sg st si1 sg1 st1 se hv hv1 hW (fun _ z => z)⟩
theorem ss_setLcF {i : Nat} {y : Str} {Th O' Ol : List Nat} {fz : Bool} {lc : Expr} {mf : MF} (h : ∃ t : TE, (∀ X, InG Γ X → PS X (.Assign [.Name y py] lc pos) (tAsg t (gName i))) ∧ SimF Γ.K O O W t mf) (ht : i ∉ Th) (hO : ∀ j ∈ O', j ∈ i :: O.filter (· ≠ i)) (hT : ∀ j ∈ Th, j ∈ O') (hW : ∀ j ∈ W, j ∈ O) :
    TrS Γ Th fz O O' Ol (.Assign [.Name y py] lc pos) (mSetF i mf) := TrS0.up <| by
  obtain ⟨t, p, q⟩ := h
  exact ⟨tAsg t (gName i), p, simF_set q ht hO hT hW⟩
theorem ss_setLcU {i : Nat} {y : Str} {Th O' Ol : List Nat} {fz : Bool} {lc : Expr} {mf : MF} (h : ∃ t : TE, (∀ X, InG Γ X → PS X (.Assign [.Name y py] lc pos) (tAsg t (gName i))) ∧ SimF Γ.K O O W t mf) (ht : i ∉ Th) (hO : ∀ j ∈ O', j ∈ O.filter (· ≠ i)) (hT : ∀ j ∈ Th, j ∈ O') (hW : ∀ j ∈ W, j ∈ O) :
    TrS Γ Th fz O O' Ol (.Assign [.Name y py] lc pos) (mSet i (xLst mf)) := TrS0.up <| by
  obtain ⟨t, p, q⟩ := h
  refine ⟨tAsg t (gName i), p, fun c hc σ H s r o e E w => ?_⟩
  unfold mSet at e
  obtain ⟨pr, e1, rfl⟩ := mapNx_of e
  refine q.toE (fun _ z => z) c σ H s r _ _ e1 _ fun v H1 r1 x1 d1 => ?_
  obtain ⟨r2, x2⟩ := setR r1 d1 (by rw [hc]; exact ht) hO (by rw [hc]; exact hT)
  exact w.nx _ _ H1 rfl r2 ((Fr.of_ex hW x1).trans x2)
end
end Z


namespace Z
open PySem PySem.Spec PyProof.Rows L2
/-! ## max(xs, default=d) of whole numbers -/
section
variable {prog : Program} {w : World} {A : Around} {E : Value → Shared → Prop} {s : Shared}
theorem call_tree_kw {id : String} {b : Builtin} {args : List Value} {kw : List (Str × Value)} {Q : Value → Shared → Prop} (hk : builtinKind id = none) (hp : plainId id = true) (hb : entryFor table id = some b) (ha : argsOk id ⟨args, kw⟩)
    (hc : wpAny (model prog w) A.in1 (b ⟨args, kw⟩) (fun fin s' => match fin with
      | .done f => (match (Except.ok f : Result) with | .ok (.ret v) => Q v s' | .ok _ => False | .error e => E e s')
      | .again c' => c'.quiet = true ∧ codeAny (model prog w) A c' (fun r s' => match r with | .ok (.ret v) => Q v s' | .ok _ => False | .error e => E e s') s') E s) : wpAny (model prog w) A (call (.builtin id) args kw) Q E s := by
  refine wpAny_call (codeAny_call_builtin hp hb ?_)
  simp only [checkBuiltinCall, hk]
  cases hsig : Manifest.signature? id with
  | none => exact wpAny_pure hc
  | some sig =>
    have e : Bind.checkArgs id sig ⟨args, kw⟩ = pure () := by simpa only [argsOk, hsig] using ha
    simp only [e]
    exact wpAny_pure hc
end
theorem nmL : (toString "max" ++ toString ".loop" : String) = "max.loop" := by decide
theorem argsMaxD (a d : Value) : argsOk "max" ⟨[a], [("default", d)]⟩ := by unfold argsOk; kernel_rfl
theorem bindMaxD (d : Value) : Builtin.Builtins.bindParams "max" ["key", "default"] 0 ⟨[], [("default", d)]⟩ = pure [none, some d] := by rfl
section
variable {prog : Program} {w : World} {A : Around} {R : Result → Shared → Prop} {I S : Addr} {fp wr : List Addr} {n : Nat} {P : Nat → Value → Prop} {St : Nat → Heap → Prop} {d : Value}
/-- what the loop's box holds behind j items -/
def BoxOk (P : Nat → Value → Prop) (bt : Nat → Nat → Bool) (j : Nat) (items : Array Value) : Prop := (j = 0 ∧ items = #[]) ∨ ∃ i vb, j = i + 1 ∧ P (argBest bt i) vb ∧ items = #[vb, vb]
/-- the loop's steps: from behind j items to the end -/
theorem zmaxL (W : Walks prog w A.in1 I fp wr n P St) (bt : Nat → Nat → Bool) (hg : CmpOf prog w A.in1 .Gt P bt) (hS : S ∉ fp) (k : Nat) : ∀ (j : Nat) (s : Shared) (items : Array Value) (cp : Nat), j + k = n → St j s.heap → s.heap.get? S = some { cls := .type "list", dict := none, data := .seq items cp, slots := #[] } → BoxOk P bt j items →
    (∀ v h' tk, ((n = 0 ∧ v = d) ∨ (0 < n ∧ P (argBest bt (n - 1)) v)) → (∀ b o, b ∉ wr → b ≠ S → s.heap.get? b = some o → h'.get? b = some o) → R (.ok (.ret v)) { s with heap := h', toks := tk }) →
    codeAny (model prog w) A (.builtin "max.loop" ⟨[.ref I, .none, .ref S], [("default", d)]⟩) R s := by
  have hw : S ∉ wr := fun z => hS (W.sub _ z)
  induction k with
  | zero =>
    intro j s items cp hj st hb ok fin
    obtain rfl : j = n := by omega
    refine codeAny_builtin F.entry_max_loop ?_
    rw [Around.under_plainId F.plain_max_loop _]
    show wpAny _ A.in1 (seqItems? (.ref S) >>= _) _ _ s
    refine wpAny_bind (wpAny_seqItems hb rfl ?_)
    rcases ok with ⟨rfl, rfl⟩ | ⟨i, vb, rfl, hp, rfl⟩
    · show wpAny _ A.in1 (tryCatch (pyNext (.ref I)) _ >>= _) _ _ s
      refine wpAny_bind (wpAny_tryCatch (W.done s _ _ st fun h' tk kept => ?_))
      exact wpAny_bind (wpAny_rule (wpAny_pure (fin d h' tk (.inl ⟨rfl, rfl⟩) fun b o hbw _ e => kept b o hbw e)))
    · show wpAny _ A.in1 (tryCatch (pyNext (.ref I)) _ >>= _) _ _ s
      refine wpAny_bind (wpAny_tryCatch (W.done s _ _ st fun h' tk kept => ?_))
      show wpAny _ A.in1 (updateSeq S (fun _ => #[]) >>= _) _ _ _
      refine wpAny_bind (wpAny_updateSeq (kept S _ hw hb) rfl (wpAny_bind (wpAny_letGo (wpAny_pure ?_))))
      exact fin vb _ tk (.inr ⟨Nat.succ_pos _, hp⟩) fun b o hbw hbS e => (Heap.get?_update_other _ _ (Ne.symm hbS)).trans (kept b o hbw e)
  | succ k ih =>
    intro j s items cp hj st hb ok fin
    have hlt : j < n := by omega
    refine codeAny_builtin F.entry_max_loop ?_
    rw [Around.under_plainId F.plain_max_loop _]
    show wpAny _ A.in1 (seqItems? (.ref S) >>= _) _ _ s
    refine wpAny_bind (wpAny_seqItems hb rfl ?_)
    rcases ok with ⟨rfl, rfl⟩ | ⟨i, vb, rfl, hp, rfl⟩
    · show wpAny _ A.in1 (tryCatch (pyNext (.ref I)) _ >>= _) _ _ s
      refine wpAny_bind (wpAny_tryCatch (W.item 0 s _ _ hlt st fun v h' tk hP hst' kept => ?_))
      have hb' := kept S _ hw hb
      show wpAny _ A.in1 (updateSeq S (fun _ => #[v, v]) >>= _) _ _ _
      refine wpAny_bind (wpAny_updateSeq hb' rfl ?_)
      rw [nmL]
      refine wpAny_pure ⟨plainId_quiet F.plain_max_loop _, ih 1 _ _ _ (by omega) (W.frame _ _ _ hst' fun b hbf o e => ?_) (Heap.get?_update_self _ hb' rfl) (.inr ⟨0, v, rfl, hP, rfl⟩) fun v' h'' tk'' hP' kept' => ?_⟩
      · exact (Heap.get?_update_other _ _ (fun z : S = b => hS (by rw [z]; exact hbf))).trans e
      · exact fin v' h'' tk'' hP' fun b o hbw hbS e => kept' b o hbw hbS ((Heap.get?_update_other _ _ (Ne.symm hbS)).trans (kept b o hbw e))
    · show wpAny _ A.in1 (tryCatch (pyNext (.ref I)) _ >>= _) _ _ s
      refine wpAny_bind (wpAny_tryCatch (W.item (i + 1) s _ _ hlt st fun v h' tk hP hst' kept => ?_))
      have hb' := kept S _ hw hb
      show wpAny _ A.in1 (tryCatch (holding [v, v] (richCompare .Gt v vb >>= _)) _ >>= _) _ _ _
      refine wpAny_bind (wpAny_tryCatch (wpAny_holding (wpAny_bind (hg (i + 1) (argBest bt i) v vb _ _ _ hP hp (wpAny_bind (wpAny_holding (wpAny_truthy_bool (wpAny_bind (wpAny_letGo (wpAny_pure ?_)))))))))) 
      cases hbb : bt (i + 1) (argBest bt i) with
      | true =>
        rw [if_pos rfl]
        refine wpAny_bind (wpAny_updateSeq hb' rfl (wpAny_bind (wpAny_letGo ?_)))
        rw [nmL]
        refine wpAny_pure ⟨plainId_quiet F.plain_max_loop _, ih (i + 1 + 1) _ _ _ (by omega) (W.frame _ _ _ hst' fun b hbf o e => ?_) (Heap.get?_update_self _ hb' rfl) (.inr ⟨i + 1, v, rfl, by rw [argBest, if_pos hbb]; exact hP, rfl⟩) fun v' h'' tk'' hP' kept' => ?_⟩
        · exact (Heap.get?_update_other _ _ (fun z : S = b => hS (by rw [z]; exact hbf))).trans e
        · exact fin v' h'' tk'' hP' fun b o hbw hbS e => kept' b o hbw hbS ((Heap.get?_update_other _ _ (Ne.symm hbS)).trans (kept b o hbw e))
      | false =>
        rw [if_neg Bool.false_ne_true]
        refine wpAny_bind (wpAny_letGo ?_)
        rw [nmL]
        refine wpAny_pure ⟨plainId_quiet F.plain_max_loop _, ih (i + 1 + 1) _ _ _ (by omega) hst' hb' (.inr ⟨i + 1, vb, rfl, by rw [argBest, hbb, if_neg Bool.false_ne_true]; exact hp, rfl⟩) fun v' h'' tk'' hP' kept' => ?_⟩
        exact fin v' h'' tk'' hP' fun b o hbw hbS e => kept' b o hbw hbS (kept b o hbw e)
end
section
variable {prog : Program} {w : World} {A : Around} {E : Value → Shared → Prop} {s : Shared}
theorem call_maxD {x d : Value} {Q : Value → Shared → Prop}
    (h : wpAny (model prog w) A.in1 (pyIter x) (fun it s₂ => ∃ I fp wr n P St bt, it = .ref I ∧ Walks prog w A.in1 I fp wr n P St ∧ St 0 s₂.heap ∧ (∀ b ∈ fp, b < s₂.heap.objs.size) ∧ CmpOf prog w A.in1 .Gt P bt ∧
      ∀ v h' tk, ((n = 0 ∧ v = d) ∨ (0 < n ∧ P (argBest bt (n - 1)) v)) → (∀ b o, b ∉ wr → s₂.heap.get? b = some o → h'.get? b = some o) → Q v { s₂ with heap := h', toks := tk }) E s) :
    wpAny (model prog w) A (call (.builtin "max") [x] [("default", d)]) Q E s := by
  refine call_tree_kw F.kind_max F.plain_max F.entry_max (argsMaxD x d) ?_
  show wpAny _ A.in1 (Builtin.Builtins.bindParams "max" ["key", "default"] 0 ⟨[], [("default", d)]⟩ >>= _) _ _ s
  refine wpAny_bind (wpAny_of_eq (bindMaxD d) ?_)
  refine wpAny_bind (wpAny_pure ?_)
  refine wpAny_bind (wpAny_mono h (fun it s₂ h₂ => ?_) fun _ _ e => e)
  obtain ⟨I, fp, wr, n, P, St, bt, rfl, W, st, hfp, hg, fin⟩ := h₂
  refine wpAny_bind (wpAny_newObj_type ?_)
  rw [nmL]
  refine wpAny_pure ⟨plainId_quiet F.plain_max_loop _, zmaxL W bt hg (fun z => Nat.lt_irrefl _ (hfp _ z)) n 0 _ _ _ (Nat.zero_add n) (W.frame _ _ _ st fun b _ o e => Heap.get?_push_of_some _ e) (Heap.get?_push_size _ rfl) (.inl ⟨rfl, rfl⟩) fun v h' tk hP kept => ?_⟩
  exact fin v h' tk hP fun b o hbw e => kept b o hbw (Nat.ne_of_lt (Heap.lt_size e)) (Heap.get?_push_of_some _ e)
end
/-! ## as a rule -/
def rMaxD (K : PySem.W.Frag) : List V → List V → Hp → VK → Prop := fun vs zs H Q => ∃ (a : Addr) (ns : List Int) (d : Int), vs = [V.ref a] ∧ zs = [.int d] ∧ SqL K H a (ns.map V.int) ∧ ((ns = [] → Q (.int d) H) ∧ (∀ m, m ∈ ns → (∀ y, y ∈ ns → y ≤ m) → Q (.int m) H))
theorem crk_maxD {X : Cx} (hc : X.calm = true) : CallRK X (.builtin "max") ["default"] (rMaxD X.K) := by
  intro pins s σ H xs zs us ws Q I r r2 h
  obtain ⟨a, ns, d, rfl, rfl, hs, q1, q2⟩ := h
  obtain ⟨its, rv, hl, _⟩ := I.list hs
  rw [Vals.ref1 r]
  obtain ⟨dv, rfl, rd⟩ : ∃ dv, ws = [dv] ∧ RelV (.int d) dv := by
    cases r2 with
    | cons h t => cases t; exact ⟨_, rfl, h⟩
  have hi := rv.ints
  obtain ⟨ys, e⟩ := hi.allInts.items
  have hn : numsOf (intItems ys).toList = ns := by rw [← e]; exact hi.numsOf
  rw [nums_intItems] at hn
  have hl' : s.heap.IsList a (intItems ys) := by rw [← e]; exact hl.isList
  refine call_maxD (iter_intList hl' fun s₂ e2 st hfp hlI => ?_)
  subst e2
  refine ⟨_, _, _, _, _, _, _, rfl, Walks.list (A := X.A.in1) (I.ok.hd hc) _ a hlI (intItems ys), st, hfp, CmpOf.ints_gt (numAt ys) (fun _ _ => intItems_at), fun v h' tk hP hk => ?_⟩
  have sz : (intItems ys).size = ys.size := by simp [intItems]
  rw [sz] at hP
  rcases hP with ⟨h0, rfl⟩ | ⟨h0, hv⟩
  · have e0 : ns = [] := by
      rw [← hn, List.map_eq_nil_iff]
      exact List.eq_nil_of_length_eq_zero (by rw [Array.length_toList]; exact h0)
    exact ⟨.int d, H, I.kept (old_kept hk), rd, q1 e0⟩
  · obtain ⟨t, rfl⟩ := intItems_at hv
    obtain ⟨g1, g2⟩ := argBest_gt (numAt ys) (ys.size - 1)
    refine ⟨.int _, H, I.kept (old_kept hk), ⟨_, rfl⟩, q2 _ ?_ fun y hy => ?_⟩
    · rw [← hn, numAt_eq]; exact PySem.getD_mem (by rw [List.length_map, Array.length_toList]; omega)
    · rw [← hn] at hy
      obtain ⟨j, hj, rfl⟩ := mem_getD hy
      rw [List.length_map, Array.length_toList] at hj
      rw [← numAt_eq]; exact g2 j (by omega)
def dMaxD : D → D → Option D
  | .list xs, .int d => match asInts xs with
    | some [] => some (.int d)
    | some (a :: r) => some (.int (maxL a r))
    | none => none
  | _, _ => none
def xMaxD (a d : ME) : ME := fun s => (a s).bind fun p => (d p.2).bind fun q => (dMaxD p.1 q.1).map fun z => (z, q.2)
theorem tr_maxD {Γ : G} {O L L0 W : List Nat} {e f : Expr} {me mf : ME} {p pos kpos : Pos} (hg : Γ.sc.names.lookup ("max" : Str) = some .globalImplicit) (hm : Γ.mg "max" = none) (ha : TrE Γ O L0 W e me) (hd : TrE Γ O L0 W f mf) (hW : ∀ j ∈ W, j ∈ L0) (hcm : Γ.calm = true := by rfl)
    (hs : ∀ env : Env, starEach [e] env = [(false, eval e env)] := by intro _; rfl)
    (he : ∀ env : Env, backTo pos (starEach [e] env) = (false, eval e env) :: backTo pos (starEach [] env) := by intro _; rfl) (hpl : ∀ env : Env, (backTo pos (starEach [e] env)).any (·.1) = false := by intro _; rfl)
    (hall : ∀ env : Env, (backToKw pos (keywordEach [⟨some "default", f, kpos⟩] env)).all (·.1.isSome) = true := by intro _; rfl) (hnone : ∀ env : Env, (backToKw pos (keywordEach [⟨some "default", f, kpos⟩] env)).any (·.1.isNone) = false := by intro _; rfl) (hks : ∀ env : Env, (backToKw pos (keywordEach [⟨some "default", f, kpos⟩] env)).filterMap (·.1) = [("default" : Str)] := by intro _; rfl) :
    TrE Γ O L W (.Call (.Name "max" p) [e] [⟨some "default", f, kpos⟩] pos) (xMaxD me mf) := by
  obtain ⟨t, pa, sa⟩ := ha
  obtain ⟨u, pf, sf⟩ := hd
  refine ⟨tCKw (rMaxD Γ.K) (tCons t tNil) (tCons u tNil), fun X h => by rw [← h.K]; exact pe_callBK (crk_maxD (h.cm hcm)) (h.gl hg) (h.mgn hm) (by decide +kernel) (pa_cons (pa X h) pa_nil (hs X.env)) (pk_cons (pf X h) pk_nil) (by decide) (by decide) (he X.env) (hpl X.env) (hall X.env) (hnone X.env) (hks X.env), fun c σ H s r d s' e0 Q q => ?_⟩
  unfold xMaxD at e0
  obtain ⟨⟨x, s1⟩, e1, e0⟩ := bind_of e0
  obtain ⟨⟨y, s2⟩, e2, e0⟩ := bind_of e0
  obtain ⟨z, e3, e0⟩ := mapNx_of e0
  cases e0
  refine sa c σ H s r _ _ e1 _ fun v H1 r1 x1 d1 => ?_
  refine sf c σ H1 s1 r1 _ _ e2 _ fun v2 H2 r2 x2 d2 => ?_
  have d1' := dp_ex (keep hW x2) d1
  dsimp only at e3
  unfold dMaxD at e3
  split at e3
  · cases d2
    cases d1' with
    | lst h a2 =>
      split at e3
      · rename_i e4
        cases e3
        cases asInts_of e4
        exact ⟨_, [], _, rfl, rfl, of_ints a2 ▸ sql_ex ex_hide0 h, fun _ => q _ H2 r2 (x1.trans x2) (.int _), fun m hm _ => by cases hm⟩
      · rename_i a r' e4
        cases e3
        cases asInts_of e4
        refine ⟨_, a :: r', _, rfl, rfl, of_ints a2 ▸ sql_ex ex_hide0 h, fun z => absurd z (by simp), fun m hm hle => ?_⟩
        obtain ⟨h1, h2⟩ := maxL_mem r' a
        have em : m = maxL a r' := Int.le_antisymm (h2 m hm) (hle _ h1)
        rw [em]
        exact q _ H2 r2 (x1.trans x2) (.int _)
      · cases e3
  · cases e3
end Z


namespace Z
open PySem PySem.Spec PyProof.Rows L2
/-! ## range(a, b, -1) -/
def dRgD (i j : Int) : List D := (List.range (i - j).toNat).map fun (k : Nat) => .int (i + (k : Nat) * (-1))
def xRg3 (a b e : ME) : MF := fun s => (a s).bind fun p => (b p.2).bind fun q => (e q.2).bind fun z => match p.1, q.1, z.1 with
  | .int i, .int j, .int k => if k = -1 ∧ ((i ≤ 1000000 ∧ -1000000 ≤ i) ∧ (j ≤ 1000000 ∧ -1000000 ≤ j)) then some (dRgD i j, z.2) else none
  | _, _, _ => none
theorem itok_rgD {K : PySem.W.Frag} {c : Cn} {O : List Nat} {σ : L2.St} {H : Hp} {i j : Int} : ItOk K c O σ (Itc i (-1) (i - j).toNat) H (dRgD i j) := fun k c' σ' H' e t => by
  have hl : (dRgD i j).length = (i - j).toNat := by unfold dRgD; rw [List.length_map, List.length_range]
  refine ⟨fun d h => ?_, fun h => by rw [hl] at h; show (i - j).toNat ≤ k; omega⟩
  have hi' := (List.getElem?_eq_some_iff.mp h).1
  rw [hl] at hi'
  refine ⟨hi', fun x H'' y => ?_⟩
  obtain ⟨rfl, rfl⟩ := y
  unfold dRgD at h
  rw [List.getElem?_map, List.getElem?_range hi'] at h
  cases h
  exact ⟨Ex.refl _, .int _⟩
section
variable {Γ : G} {O L0 L W : List Nat} {tg a b e : Expr} {ma mb me : ME} {p pos : Pos}
theorem ti_rng3 (hg : Γ.sc.names.lookup ("range" : Str) = some .globalImplicit) (hm : Γ.mg "range" = none) (ha : TrE Γ O L0 W a ma) (hb : TrE Γ O L0 W b mb) (he : TrE Γ O L0 W e me)
    (hs0 : ∀ env : Env, starEach [a, b, e] env = (false, eval a env) :: starEach [b, e] env := by intro _; rfl) (hs : ∀ env : Env, starEach [b, e] env = (false, eval b env) :: starEach [e] env := by intro _; rfl) (hs2 : ∀ env : Env, starEach [e] env = [(false, eval e env)] := by intro _; rfl) (hpl : ∀ env : Env, (backTo pos (starEach [b, e] env)).any (·.1) = false := by intro _; rfl) :
    TrI Γ O W tg (.Call (.Name "range" p) [a, b, e] [] pos) (xRg3 ma mb me) := by
  obtain ⟨t, pa, q⟩ := ha
  obtain ⟨t2, pb, q2⟩ := hb
  obtain ⟨t3, pe, q3⟩ := he
  refine ⟨iRng3 (tCons t (tCons t2 (tCons t3 tNil))), fun X h => pi_range3 (h.gl hg) (h.mgn hm) (pa_cons (pa X h) (pa_cons (pb X h) (pa_cons (pe X h) pa_nil (hs2 X.env)) (hs X.env)) (hs0 X.env)) (hs0 X.env) (hpl X.env), fun c σ H s r ds s' e0 Q k => ?_⟩
  unfold xRg3 at e0
  obtain ⟨⟨d1, s1⟩, e1, e0⟩ := bind_of e0
  obtain ⟨⟨d2, s2⟩, e2, e0⟩ := bind_of e0
  obtain ⟨⟨d3, s3⟩, e3, e0⟩ := bind_of e0
  cases d1 <;> first | (cases e0; done) | skip
  cases d2 <;> first | (cases e0; done) | skip
  cases d3 <;> first | (cases e0; done) | skip
  dsimp only at e0
  split at e0
  · rename_i hc
    cases e0
    obtain ⟨rfl, h1, h2⟩ := hc
    refine q c σ H s r _ _ e1 _ fun v H1 r1 x1 g1 => ?_
    refine q2 c σ H1 _ r1 _ _ e2 _ fun v2 H2 r2 x2 g2 => ?_
    refine q3 c σ H2 _ r2 _ _ e3 _ fun v3 H3 r3 x3 g3 => ?_
    cases g1; cases g2; cases g3
    exact ⟨_, _, _, _, rfl, RgC.neg (by omega) (by omega) (by omega) (by omega), k _ H3 r3 ((x1.trans x2).trans x3) itok_rgD⟩
  · cases e0
/-! ## tuple(x) -/
def xTupOf (m : ME) : ME := fun s => (m s).bind fun p => match p.1 with
  | .list ds => some (.tuple ds, p.2)
  | .tuple ds => some (.tuple ds, p.2)
  | _ => none
theorem tr_tupleOf (hg : Γ.sc.names.lookup ("tuple" : Str) = some .globalImplicit) (hm : Γ.mg "tuple" = none) (ha : TrE Γ O L W a ma) (hL : ∀ j ∈ L, j ∈ O) (na : ∀ env : Env, starEach [a] env = (false, eval a env) :: starEach [] env := by intro _; rfl) :
    TrE Γ O L W (.Call (.Name "tuple" p) [a] [] pos) (xTupOf ma) := by
  obtain ⟨t, pa, q⟩ := ha
  refine ⟨tThen t (L2.kTup Γ.K), fun X h => by rw [← h.K]; exact pe_tupleOf (h.gl hg) (h.mgn hm) (pa X h) (na X.env), fun c σ H s r d s' e0 Q k => ?_⟩
  unfold xTupOf at e0
  obtain ⟨⟨x, s1⟩, e1, e0⟩ := bind_of e0
  refine q c σ H s r _ _ e1 _ fun v H1 r1 x1 d1 => ?_
  cases d1 <;> first | (cases e0; done) | skip
  · rename_i a1 xs ds h h2
    cases e0
    refine .inl ⟨_, xs, rfl, sql_ex ex_hide0 h, fun p hp => ?_⟩
    have x2 := ex_upd (o := HO.tup xs) hp
    refine k _ _ (r1.ex x2) (x1.trans (ex_hide x2)) (.tup (.inl (.inl (hide_of (fun z => ?_) upd_same))) (dpa_ex (ex_hide x2) h2))
    obtain ⟨o, z⟩ := msk_there r1 hL p z
    rw [hp] at z; cases z
  · rename_i a1 xs ds h h2
    cases e0
    exact .inr ⟨_, xs, rfl, sqt_ex ex_hide0 h, k _ H1 r1 x1 (.tup h h2)⟩
/-! ## tests and scalars that read owned lists as values: the slots stand as they stood -/
def xKeepT (m : MT) : MT := fun s => (m s).map fun p => (p.1, s)
def isSc : D → Bool
  | .none | .bool _ | .int _ | .str _ => true
  | _ => false
def xKeepS (m : ME) : ME := fun s => (m s).bind fun p => if isSc p.1 = true then some (p.1, s) else none
theorem R.unth {K : PySem.W.Frag} {c : Cn} {O : List Nat} {s : MS} {σ : L2.St} {H : Hp} (r : R K c O s σ H) : R K { c with Th := [] } O s σ H := ⟨r.len, r.sh, r.ow, r.nd, r.cs, fun i hi => (by cases hi), fun i hi => (by cases hi)⟩
theorem ex_own0 {σ : L2.St} {H H' : Hp} (x : Ex (hide (Own [] σ) H) (hide (Own [] σ) H')) : Ex H H' := fun a o h => (of_hide (x a o (hide_of (fun ⟨j, hj, _⟩ => by cases hj) h))).2
theorem tt_keep {mt : MT} (L' : List Nat) (h : TrT Γ L' [] e mt) (hL : ∀ j ∈ L', j ∈ O) : TrT Γ O W e (xKeepT mt) := by
  obtain ⟨t, p, q⟩ := h
  refine ⟨t, p, fun c σ H s r b s' e0 Q k => ?_⟩
  unfold xKeepT at e0
  obtain ⟨⟨b0, s1⟩, e1, e2⟩ := mapNx_of e0
  cases e2
  have r1 := (r.unth.free (L := L') hL (fun j hj => by cases hj)).1
  refine q _ σ H s r1 _ _ e1 _ fun H' r' x => ?_
  have x' := ex_own0 x
  exact k H' (r.ex x') (ex_hide x')
theorem sc_any {K : PySem.W.Frag} {H : Hp} {v : V} {d : D} (h : Rp K H v d) (hs : isSc d = true) (M : Hp) : Rp K M v d := by
  cases h <;> first | (cases hs; done) | constructor
theorem tr_keep (L' : List Nat) (h : TrE Γ L' L' [] e me) (hL : ∀ j ∈ L', j ∈ O) : TrE Γ O L W e (xKeepS me) := by
  obtain ⟨t, p, q⟩ := h
  refine ⟨t, p, fun c σ H s r d s' e0 Q k => ?_⟩
  unfold xKeepS at e0
  obtain ⟨⟨d0, s1⟩, e1, e0⟩ := bind_of e0
  dsimp only at e0
  split at e0
  · rename_i hs
    cases e0
    have r1 := (r.unth.free (L := L') hL (fun j hj => by cases hj)).1
    refine q _ σ H s r1 _ _ e1 _ fun v H' r' x d' => ?_
    have x' := ex_own0 x
    exact k v H' (r.ex x') (ex_hide x') (sc_any d' hs _)
  · cases e0
end
end Z


namespace Z
open PySem PySem.Spec PyProof.Rows L2
/-! ## for x in an owned list that the body lets stand -/
open Classical in
noncomputable def forLO (i0 : Nat) (ds0 : List D) (b : D → MS → Option MS) (m : MM) : List D → MS → Option Out
  | [], s => if s.getD i0 none = some (.list ds0) then some (.nx s) else none
  | d :: ds, s => if s.getD i0 none = some (.list ds0) then (b d s).bind fun s1 => if s1.getD i0 none = some (.list ds0) then (m s1).bind fun o => match o with
      | .nx s2 => forLO i0 ds0 b m ds s2
      | .ct s2 => forLO i0 ds0 b m ds s2
      | .bk s2 => some (.nx s2)
      | .rt d s2 => some (.rt d s2)
      | .ex x s2 => some (.ex x s2)
    else none else none
noncomputable def mForO (i0 : Nat) (b : D → MS → Option MS) (m : MM) : MM := fun s => match s.getD i0 none with
  | some (.list ds) => forLO i0 ds b m ds s
  | _ => none
theorem getD_some {s : MS} {i : Nat} {d : D} (h : s.getD i none = some d) : s[i]? = some (some d) := by
  rw [List.getD_eq_getElem?_getD] at h
  cases e : s[i]? with
  | none => rw [e] at h; cases h
  | some o => rw [e] at h; exact congrArg some h
section
variable {Γ : G} {Th : List Nat} {fz : Bool} {O O' Ol : List Nat} {sts : List Stmt} {m : MM} {pos px : Pos}
theorem R.lend {K : PySem.W.Frag} {c : Cn} {s : MS} {σ : L2.St} {H : Hp} {i : Nat} {ds : List D} (r : R K c O s σ H) (hi : i ∈ O) (hs : s[i]? = some (some (.list ds))) : R K { c with Th := i :: c.Th, τ := σ } O s σ H :=
  ⟨r.len, r.sh, r.ow, r.nd, r.cs, fun j hj => (by
    rcases List.mem_cons.mp hj with rfl | hj
    · exact ⟨hi, rfl⟩
    · exact ⟨(r.th j hj).1, rfl⟩), fun j hj => (by
    rcases List.mem_cons.mp hj with rfl | hj
    · exact ⟨ds, hs⟩
    · exact r.tl j hj)⟩
theorem R.back {K : PySem.W.Frag} {c : Cn} {s0 s : MS} {σ0 σ : L2.St} {H0 H : Hp} {i : Nat} (r0 : R K c O s0 σ0 H0) (r : R K { c with Th := i :: c.Th, τ := σ0 } O' s σ H) : R K c O' s σ H :=
  ⟨r.len, r.sh, r.ow, r.nd, r.cs, fun j hj => ⟨(r.th j (List.mem_cons_of_mem _ hj)).1, (r.th j (List.mem_cons_of_mem _ hj)).2.trans (r0.th j hj).2⟩, fun j hj => r.tl j (List.mem_cons_of_mem _ hj)⟩
theorem T_back {K : PySem.W.Frag} {c : Cn} {s0 : MS} {σ0 : L2.St} {H0 : Hp} {i : Nat} (r0 : R K c O s0 σ0 H0) : ∀ a, c.T a → (Cn.mk c.C (i :: c.Th) σ0).T a := fun a ⟨j, hj, e⟩ => ⟨j, List.mem_cons_of_mem _ hj, by
  show σ0[j]? = _
  rw [(r0.th j hj).2]; exact e⟩
theorem rt_back {K : PySem.W.Frag} {c : Cn} {s0 : MS} {σ0 : L2.St} {H0 : Hp} {i : Nat} {d : D} {s' : MS} {v : V} {H' : Hp} (r0 : R K c O s0 σ0 H0) (t : RtOk K fz { c with Th := i :: c.Th, τ := σ0 } O σ0 H0 d s' v H') : RtOk K fz c O σ0 H0 d s' v H' where
  fr := t.fr.trans (ex_hide_sub (T_back r0))
  th := fun j hj => by
    obtain ⟨p, vs, ds, h1, h2, h3, h4⟩ := t.th j (List.mem_cons_of_mem _ hj)
    exact ⟨p, vs, ds, by rw [← (r0.th j hj).2]; exact h1, h2, h3, dpa_ex (ex_hide_sub fun a z => z.imp id (T_back r0 a)) h4⟩
  val := dp_ex (ex_hide_sub fun a z => z.imp id (T_back r0 a)) t.val
  fresh := fun h => by
    obtain ⟨p, vs, ds, h1, h2, h3, h4, h5, h6, h7⟩ := t.fresh h
    exact ⟨p, vs, ds, h1, h2, h3, fun z => h4 (T_back r0 p z), h5, h6, dpa_ex (ex_hide_sub fun a z => z.imp (fun z => z.imp id (T_back r0 a)) id) h7⟩
theorem ss_forO {tg : Expr} {vs : List Nat} {b : D → MS → Option MS} {i0 : Nat} {x : Str} (hN : Γ.N[i0]? = some x) (hx : visB Γ.sc x = true) (hi : i0 ∈ O) (hg : TrG Γ O vs tg b) (hb : TrSs Γ (i0 :: Th) fz O O O sts m) (hv : ∀ j ∈ O, j ∉ vs) (hd : (x == ("__debug__" : Str)) = false := by decide) (hcd : (x == ("__classdict__" : Str)) = false := by decide)
    (hs : ∀ (env : Env) y, foldedSetIterable (.Name x px) env y = pure y := by intro _ _; rfl) (hcm : Γ.calm = true := by rfl) : TrS Γ Th fz O O Ol (.For tg (.Name x px) sts [] pos) (mForO i0 b m) := by
  obtain ⟨g, pg, sg⟩ := hg
  obtain ⟨t, pb, sb⟩ := hb
  refine ⟨fun W => tFor (iSeq Γ.K (tVar i0)) g (t W), fun X W h k => ps_for h.po (h.g.cm hcm) (pi_nox (by rw [← h.g.K]; exact pi_seq (pe_var (h.g.nx hN) (h.g.vis hx) hd hcd))) (pg_nox (pg _ h.g)) (pb X W h k) (hs X.env), fun c hc σ H s r o e E W w => ?_⟩
  unfold mForO at e
  split at e <;> first | (cases e; done) | skip
  rename_i ds0 e0
  have e0' := getD_some e0
  obtain ⟨p, us0, h1, h3, h4, h5⟩ := r.owl hi e0'
  refine ⟨.ref p, h1, p, rfl, .inl ⟨⟨us0, .inl (.inl h3)⟩, ?_⟩⟩
  let Pv : Nat → L2.St → Hp → Prop := fun k σ' H' => ∃ si : MS, R Γ.K c O si σ' H' ∧ σ'[i0]? = some (some (.ref p)) ∧ Fr O σ H O σ' H' ∧ forLO i0 ds0 b m (ds0.drop k) si = some o
  refine ⟨fun k n σ' H' => n = ds0.length - k ∧ k ≤ ds0.length ∧ Pv k σ' H', ⟨ds0.length, by simp, Nat.zero_le _, s, r, h1, Fr.refl _ _ _, e⟩, ?_⟩
  rintro k n σ' H' ⟨rfl, hle, si, ri, hp, fi, run⟩
  have hls : si.getD i0 none = some (.list ds0) := by
    cases hd0 : ds0.drop k with
    | nil => rw [hd0] at run; unfold forLO at run; split at run <;> first | assumption | cases run
    | cons d r => rw [hd0] at run; unfold forLO at run; split at run <;> first | assumption | cases run
  obtain ⟨p', us, k1, k3, k4, k5⟩ := ri.owl hi (getD_some hls)
  rw [hp] at k1
  cases k1
  by_cases hlt : k < ds0.length
  · obtain ⟨d, hdk⟩ : ∃ d, ds0[k]? = some d := ⟨ds0[k], List.getElem?_eq_getElem hlt⟩
    have edrop : ds0.drop k = d :: ds0.drop (k + 1) := by
      rw [List.drop_eq_getElem_cons hlt]
      rw [List.getElem?_eq_getElem hlt] at hdk
      cases hdk; rfl
    rw [edrop] at run
    unfold forLO at run
    rw [if_pos hls] at run
    obtain ⟨s2, e3, run⟩ := bind_of run
    split at run <;> first | (cases run; done) | skip
    rename_i hls2
    obtain ⟨ob, e4, run⟩ := bind_of run
    obtain ⟨v, g1, g2⟩ := dpa_get k4 hdk
    refine .inr ⟨⟨us, v, .inl (.inl k3), g1⟩, Pv (k + 1), fun σ2 H2 p2 => ⟨ds0.length - (k + 1), by omega, rfl, hlt, p2⟩, fun x H2 y => ?_⟩
    obtain ⟨rfl, y⟩ := y
    have := y us (.inl (.inl k3))
    rw [g1] at this
    cases this
    refine sg c σ' H2 si v d ri g2 s2 e3 _ fun σ2 r2 o2 => ?_
    have f2 : Fr O σ H O σ2 H2 := fi.trans (by unfold Fr; rw [o2.own hv]; exact Ex.refl _)
    have hp2 : σ2[i0]? = some (some (.ref p)) := by rw [o2.2 i0 (hv i0 hi)]; exact hp
    have rl := r2.lend hi (getD_some hls2)
    refine sb { c with Th := i0 :: c.Th, τ := σ2 } (by rw [← hc]) σ2 H2 s2 rl ob e4 _ W ⟨fun s3 σ3 H3 eo r3 f3 => ?_, fun s3 σ3 H3 eo r3 f3 => ?_, fun s3 σ3 H3 eo r3 f3 => ?_, fun d3 s3 v3 H3 eo rt => ?_, fun x3 s3 σ3 H3 cls d3 eo r3 f3 rx => ?_⟩
    · subst eo
      exact ⟨s3, r2.back r3, ((r3.th i0 List.mem_cons_self).2).trans hp2, f2.trans f3, run⟩
    · subst eo
      cases run
      exact w.nx s3 σ3 H3 rfl (r2.back r3) (f2.trans f3)
    · subst eo
      exact ⟨s3, r2.back r3, ((r3.th i0 List.mem_cons_self).2).trans hp2, f2.trans f3, run⟩
    · subst eo
      cases run
      exact w.rt d3 s3 v3 H3 rfl ((rt_back r2 rt).ahead f2)
    · subst eo
      cases run
      exact w.ex x3 s3 σ3 H3 cls d3 rfl (r2.back r3) (f2.trans f3) rx
  · have hie : k = ds0.length := by omega
    rw [hie, List.drop_length] at run
    unfold forLO at run
    rw [if_pos hls] at run
    cases run
    exact .inl ⟨⟨us, .inl (.inl k3), by rw [dpa_len k4]; omega⟩, w.nx si σ' H' rfl ri fi⟩
end
/-! ## dicts made here -/
def isK (k : Key) : D → Bool
  | .int j => match k with
    | .inl i => decide (i = j)
    | .inr _ => false
  | .str b => match k with
    | .inr a => decide (a = b)
    | .inl _ => false
  | _ => false
theorem isK_D (k k' : Key) : isK k (keyD k') = decide (k' = k) := by
  cases k <;> cases k' <;> simp [isK, keyD, eq_comm]
def keyOf : D → Option Key
  | .int i => some (.inl i)
  | .str z => some (.inr z)
  | _ => none
theorem keyOf_V {K : PySem.W.Frag} {H : Hp} {v : V} {d : D} {k : Key} (h : Rp K H v d) (e : keyOf d = some k) : v = kV k ∧ d = keyD k := by
  cases h <;> first | (cases e; done) | (cases e; exact ⟨rfl, rfl⟩)
def getDc (k : Key) : List (D × D) → Option D
  | [] => none
  | p :: r => if isK k p.1 = true then some p.2 else getDc k r
def putDc (k : Key) (d : D) (ps : List (D × D)) : List (D × D) := if (ps.any fun p => isK k p.1) = true then ps.map (fun p => if isK k p.1 = true then (p.1, d) else p) else ps ++ [(keyD k, d)]
section
variable {K : PySem.W.Frag} {H : Hp}
theorem kva_len : ∀ {kvs : List (Key × V)} {ps : List (D × D)}, KvAll K H kvs ps → kvs.length = ps.length
  | _, _, .nil => rfl
  | _, _, .cons _ r => congrArg (· + 1) (kva_len r)
theorem kva_any (k : Key) : ∀ {kvs : List (Key × V)} {ps : List (D × D)}, KvAll K H kvs ps → (ps.any fun p => isK k p.1) = kvs.any fun kv => decide (kv.1 = k)
  | _, _, .nil => rfl
  | _, _, .cons (k := k') _ r => by rw [List.any_cons, List.any_cons, kva_any k r, isK_D]
theorem kva_app : ∀ {kvs kvs2 : List (Key × V)} {ps ps2 : List (D × D)}, KvAll K H kvs ps → KvAll K H kvs2 ps2 → KvAll K H (kvs ++ kvs2) (ps ++ ps2)
  | _, _, _, _, .nil, b => b
  | _, _, _, _, .cons h r, b => .cons h (kva_app r b)
theorem kva_map {k : Key} {v : V} {d : D} (h : Rp K H v d) : ∀ {kvs : List (Key × V)} {ps : List (D × D)}, KvAll K H kvs ps → KvAll K H (kvs.map fun kv => if kv.1 = k then (kv.1, v) else kv) (ps.map fun p => if isK k p.1 = true then (p.1, d) else p)
  | _, _, .nil => .nil
  | _, _, .cons (k := k') h' r => by
    rw [List.map_cons, List.map_cons, isK_D]
    by_cases e : k' = k
    · simp only [e, decide_true, if_true]
      exact .cons h (kva_map h r)
    · simp only [e, decide_false, if_false, Bool.false_eq_true]
      exact .cons h' (kva_map h r)
theorem kva_put {k : Key} {v : V} {d : D} (h : Rp K H v d) {kvs : List (Key × V)} {ps : List (D × D)} (a : KvAll K H kvs ps) : KvAll K H (putK kvs k v) (putDc k d ps) := by
  unfold putK putDc
  rw [kva_any k a]
  split
  · exact kva_map h a
  · exact kva_app a (.cons h .nil)
theorem kva_get (k : Key) : ∀ {kvs : List (Key × V)} {ps : List (D × D)}, KvAll K H kvs ps → (∃ v d, valV kvs k = some v ∧ getDc k ps = some d ∧ Rp K H v d) ∨ (valV kvs k = none ∧ getDc k ps = none)
  | _, _, .nil => .inr ⟨valV_nil, rfl⟩
  | _, _, .cons (k := k') h r => by
    by_cases e : k' = k
    · exact .inl ⟨_, _, valV_pos e, by unfold getDc; rw [if_pos (by rw [isK_D]; simpa using e)], h⟩
    · rcases kva_get k r with ⟨v, d, h1, h2, h3⟩ | ⟨h1, h2⟩
      · exact .inl ⟨v, d, by rw [valV_neg e]; exact h1, by unfold getDc; rw [if_neg (by rw [isK_D]; simpa using e)]; exact h2, h3⟩
      · exact .inr ⟨by rw [valV_neg e]; exact h1, by unfold getDc; rw [if_neg (by rw [isK_D]; simpa using e)]; exact h2⟩
theorem R.owd {c : Cn} {O : List Nat} {s : MS} {σ : L2.St} (r : R K c O s σ H) {i : Nat} {ps : List (D × D)} (hi : i ∈ O) (hs : s[i]? = some (some (.dict ps))) : ∃ (p : Addr) (kvs : List (Key × V)), σ[i]? = some (some (.ref p)) ∧ H p = some (.dK kvs) ∧ KvAll K (hide (c.msk O σ) H) kvs ps ∧ ¬ c.C p := by
  obtain ⟨p, o, d, h1, h2, h3, h4, h5⟩ := r.ow i hi
  rw [hs] at h2
  cases h2
  cases h4 with
  | dk a => exact ⟨p, _, h1, h3, a, h5⟩
end
def dcO : Option D → Bool
  | some (.dict _) => true
  | _ => false
theorem dcO_of {o : Option D} (h : dcO o = true) : ∃ ps, o = some (.dict ps) := by
  unfold dcO at h
  split at h
  · exact ⟨_, rfl⟩
  · cases h
def mDNew (i : Nat) : MM := fun s => if i < s.length then some (.nx (s.set i (some (.dict [])))) else none
def mDPut (i : Nat) (v k : ME) : MM := fun s => if dcO (s.getD i none) = true then (v s).bind fun p => (k p.2).bind fun q => (keyOf q.1).bind fun ky => match q.2.getD i none with
    | some (.dict ps) => if ps.length ≤ 1000000 then some (.nx (q.2.set i (some (.dict (putDc ky p.1 ps))))) else none
    | _ => none
  else none
def xDGetO (i : Nat) (k : ME) : ME := fun s => (k s).bind fun q => (keyOf q.1).bind fun ky => match q.2.getD i none with
  | some (.dict ps) => (getDc ky ps).map fun d => (d, q.2)
  | _ => none
section
variable {Γ : G} {Th : List Nat} {fz : Bool} {O O' Ol L L0 W : List Nat} {e k : Expr} {me mk : ME} {pos px p2 tpos : Pos} {i : Nat} {x : Str}
theorem ss_dnew (hN : Γ.N[i]? = some x) (hv : locB Γ x = true) (ht : i ∉ Th) (hO : ∀ j ∈ O', j ∈ i :: O.filter (· ≠ i)) (hT : ∀ j ∈ Th, j ∈ O') (hs : swapsWith (.Dict [] [] tpos) (some (.Name x p2)) pos.line (envS Γ.sc) = pure false := by rfl) :
    TrS Γ Th fz O O' Ol (.Assign [.Name x p2] (.Dict [] [] tpos) pos) (mDNew i) := TrS0.up <| by
  refine ⟨tAsg tDNewK (gName i), fun X h => ps_set h.ndX (h.nx hN) (h.loc hv).1 pe_dnewK ((swaps_sc (h.sc.trans rfl)).trans hs) (h.loc hv).2, fun c hc σ H s r o e0 E w => ?_⟩
  unfold mDNew at e0
  split at e0 <;> first | (cases e0; done) | skip
  rename_i hl
  cases e0
  intro p hp
  have r1 : R Γ.K c O s σ (hide (· = p) (upd H p (.dK []))) := by rw [hide_upd hp]; exact r
  obtain ⟨r2, x2⟩ := r1.setOwnO (o0 := .dK []) (d0 := .dict []) upd_same (.dk .nil) (by rw [hc]; exact ht) (by rw [← r.len]; exact hl)
  obtain ⟨r3, x3⟩ := r2.free hO (by rw [hc]; exact hT)
  refine w.nx _ _ _ rfl r3 (Ex.trans ?_ (x2.trans x3))
  rw [hide_upd hp]
  exact Ex.refl _
theorem ss_dput (hu : Γ.A.units + 64 < cLine) (hN : Γ.N[i]? = some x) (hv : visB Γ.sc x = true) (hi : i ∈ O) (ht : i ∉ Th) (he : TrE Γ O O W e me) (hk : TrE Γ O L0 W k mk) (hW : ∀ j ∈ W, j ∈ O) (hd : (x == ("__debug__" : Str)) = false := by decide) (hcd : (x == ("__classdict__" : Str)) = false := by decide)
    (hs : swapsWith e (some (.Subscript (.Name x px) k tpos)) pos.line (envS Γ.sc) = pure false := by rfl) : TrS Γ Th fz O O Ol (.Assign [.Subscript (.Name x px) k tpos] e pos) (mDPut i me mk) := TrS0.up <| by
  obtain ⟨t, p, q⟩ := he
  obtain ⟨t2, p2, q2⟩ := hk
  refine ⟨sDPut (tVar i) t2 t, fun X h => ps_dput (by rw [h.A]; omega) (pe_var (h.nx hN) (h.vis hv) hd hcd) (p2 X h) (p X h) ((swaps_sc (h.sc.trans rfl)).trans hs), fun c hc σ H s r o e0 E w => ?_⟩
  unfold mDPut at e0
  split at e0 <;> first | (cases e0; done) | skip
  rename_i hdc
  obtain ⟨⟨d, s1⟩, e1, e0⟩ := bind_of e0
  obtain ⟨⟨dk, s2⟩, e2, e0⟩ := bind_of e0
  obtain ⟨ky, e3, e0⟩ := bind_of e0
  dsimp only at e0
  split at e0 <;> first | (cases e0; done) | skip
  rename_i ps e4
  split at e0 <;> first | (cases e0; done) | skip
  rename_i hz
  cases e0
  refine q c σ H s r _ _ e1 _ fun v H1 r1 x1 d1 => ?_
  obtain ⟨p0, _, _, h1, _⟩ := r1.ow i hi
  refine ⟨.ref p0, h1, ?_⟩
  refine q2 c σ H1 s1 r1 _ _ e2 _ fun u H2 r2 x2 d2 => ?_
  obtain ⟨p', kvs, k1, k3, k4, k5⟩ := r2.owd hi (getD_some e4)
  rw [h1] at k1
  cases k1
  obtain ⟨ek, -⟩ := keyOf_V d2 e3
  refine ⟨p0, _, rfl, .inl ⟨kvs, ky, k3, ek, Nat.lt_of_lt_of_le (show kvs.length < 1000001 by rw [kva_len k4]; omega) (by decide), rfl⟩, ?_⟩
  obtain ⟨r3, x3⟩ := r2.chgO hi h1 (.dk (kva_put (k := ky) (dp_ex (keep hW x2) d1) k4)) (fun z => absurd (hc ▸ z) ht)
  exact w.nx _ σ _ rfl r3 ((Fr.of_ex hW (x1.trans x2)).trans (ex_wide (own_sub fun j hj => by rw [List.mem_singleton.mp hj]; exact hi) x3))
theorem tr_dgetO (hu : Γ.A.units + 64 < cLine) (hN : Γ.N[i]? = some x) (hv : visB Γ.sc x = true) (hi : i ∈ O) (hL : ∀ j ∈ L, j ∈ O) (hk : TrE Γ O L0 W k mk) (hs : NoSl k := by exact fun _ _ => rfl) (hd : (x == ("__debug__" : Str)) = false := by decide) (hcd : (x == ("__classdict__" : Str)) = false := by decide) :
    TrE Γ O L W (.Subscript (.Name x px) k pos) (xDGetO i mk) := by
  obtain ⟨t2, p2, q2⟩ := hk
  refine ⟨tDGet (tVar i) t2, fun X h => pe_dget (by rw [h.A]; omega) (pe_var (h.nx hN) (h.vis hv) hd hcd) (p2 X h) hs, fun c σ H s r d s' e0 Q q => ?_⟩
  unfold xDGetO at e0
  obtain ⟨⟨dk, s2⟩, e2, e0⟩ := bind_of e0
  obtain ⟨ky, e3, e0⟩ := bind_of e0
  dsimp only at e0
  split at e0 <;> first | (cases e0; done) | skip
  rename_i ps e4
  obtain ⟨d', e5, e6⟩ := mapNx_of e0
  cases e6
  obtain ⟨p0, _, _, h1, _⟩ := r.ow i hi
  refine ⟨.ref p0, h1, ?_⟩
  refine q2 c σ H s r _ _ e2 _ fun u H2 r2 x2 d2 => ?_
  obtain ⟨p', kvs, k1, k3, k4, k5⟩ := r2.owd hi (getD_some e4)
  rw [h1] at k1
  cases k1
  obtain ⟨ek, -⟩ := keyOf_V d2 e3
  rcases kva_get ky k4 with ⟨v, d', g1, g2, g3⟩ | ⟨g1, g2⟩
  · rw [e5] at g2
    cases g2
    refine ⟨p0, v, rfl, .inl ⟨kvs, ky, .inl k3, ek, g1.symm⟩, q v H2 r2 x2 (dp_ex (ex_hide_sub (msk_sub hL)) g3)⟩
  · rw [e5] at g2; cases g2
end
end Z


namespace Z
open PySem PySem.Spec PyProof.Rows L2
/-! ## answers with a new list as their n-th part, that the caller spoils at the end -/
def partD (d : D) (n : Nat) : Option (List D) := (seqOf d).bind fun ds => match ds[n]? with
  | some (.list es) => some es
  | _ => none
/-- M: what is hidden; H: the heap before -/
def NwP (K : PySem.W.Frag) (M : Addr → Prop) (H H' : Hp) (n : Nat) (v : V) (d : D) : Prop := ∃ (t : Addr) (us : List V) (p : Addr) (ws : List V) (ds : List D), v = .ref t ∧ Sq K (hide M H') t us ∧ us[n]? = some (.ref p) ∧ H p = none ∧ H' p = some (.lst ws) ∧ partD d n = some ds ∧ ws.length = ds.length
def spQ (K : PySem.W.Frag) (n : Nat) (f : List D → Option D) : Sp := fun vs H Q _ => ∃ (C : Addr → Prop) (ds : List D) (d : D), (∀ p, C p → ∃ o, H p = some o) ∧ RpAll K (hide C H) vs ds ∧ f ds = some d ∧
  ∀ v H', Ex H H' → Rp K (hide C H') v d → NwP K C H H' n v d → Q v H'
section
variable {P : Program} {w : World} {K : PySem.W.Frag} {mg : Str → Option Value} {base : Heap} {x : Str} {k n : Nat} {ps : List Str} {mf : List D → Option D}
theorem spQ_P {vs : List V} {H : Hp} {Q : VK} {E : XK} (h : spP K mf vs H Q E) : spQ K n mf vs H Q E := by
  obtain ⟨C, ds, d, h1, h2, h3, h4⟩ := h
  exact ⟨C, ds, d, h1, h2, h3, fun v H' e r _ => h4 v H' e r⟩
theorem fnAtQ (F : FnAt P w K mg base k x ps (spQ K n mf)) : FnAt P w K mg base k x ps (spP K mf) := by
  obtain ⟨f, fd, F, a, b, c⟩ := F.ex
  exact ⟨f, fd, F.imp fun _ _ _ _ h => spQ_P h, a, b, c⟩
end
/-- a def's rows up to its end -/
def TrEnd (Γ : G) (O : List Nat) (n : Nat) (sts : List Stmt) (m : MM) : Prop := ∃ t : WX → TS, (∀ X W, InX Γ X → Takes X W → PSs X sts (t W)) ∧ ∀ (c : Cn), c.Th = [] → ∀ (σ : L2.St) (H : Hp) (s : MS), R Γ.K c O s σ H → ∀ d s', m s = some (.rt d s') → ∀ (E : Ends) (W : WX),
  (∀ v H', Ex (hide (Own O σ) H) H' → Rp Γ.K (hide c.C H') v d → NwP Γ.K c.C (hide (Own O σ) H) H' n v d → E.rt v H') → t W E σ H
/-- an expression with a new n-th part -/
def TrEN (Γ : G) (O : List Nat) (n : Nat) (e : Expr) (m : ME) : Prop := ∃ t, (∀ X, InG Γ X → PE X e t) ∧ ∀ (c : Cn) (σ : L2.St) (H : Hp) (s : MS), R Γ.K c O s σ H → ∀ d s', m s = some (d, s') → ∀ Q : VK,
  (∀ v H', Ex (hide (Own O σ) H) H' → Rp Γ.K (hide c.C H') v d → NwP Γ.K c.C (hide (Own O σ) H) H' n v d → Q v H') → t σ H Q
def mSeqN (a b : MM) : MM := fun s => (a s).bind fun o => match o with
  | .nx s' => b s'
  | _ => none
section
variable {Γ : G} {O O1 L W : List Nat} {n : Nat} {st : Stmt} {sts : List Stmt} {e : Expr} {m m1 m2 : MM} {me : ME} {pos : Pos}
theorem te_cons' (h1 : TrS Γ [] false O O1 [] st m1) (h2 : TrEnd Γ O1 n sts m2) : TrEnd Γ O n (st :: sts) (mSeqN m1 m2) := by
  obtain ⟨t, p, q⟩ := h1
  obtain ⟨u, p2, q2⟩ := h2
  refine ⟨fun W => tSeq (t W) (u W), fun X W h k => pss_cons (p X W h k) (p2 X W h k), fun c hc σ H s r d s' e E W w => ?_⟩
  unfold mSeqN at e
  obtain ⟨o1, e1, e2⟩ := bind_of e
  refine q c hc σ H s r o1 e1 _ W ⟨fun s' σ' H' eo r' f => ?_, fun s' σ' H' eo r' f => ?_, fun s' σ' H' eo r' f => ?_, fun d s' v H' eo rt => ?_, fun x s' σ' H' cls d eo r' f rx => ?_⟩
  · subst eo
    refine q2 c hc σ' H' s' r' d _ e2 E W fun v H2 x2 d2 n2 => w v H2 (Ex.trans f x2) d2 ?_
    obtain ⟨t, us, p, ws, ds, h1, h2, h3, h4, h5⟩ := n2
    refine ⟨t, us, p, ws, ds, h1, h2, h3, ?_, h5⟩
    cases z : hide (Own O σ) H p with
    | none => rfl
    | some u => rw [f p u z] at h4; cases h4
  · subst eo; cases e2
  · subst eo; cases e2
  · subst eo; cases e2
  · subst eo; cases e2
theorem te_free' (h : TrEnd Γ L n sts m) (hL : ∀ j ∈ L, j ∈ O) : TrEnd Γ O n sts m := by
  obtain ⟨t, p, q⟩ := h
  refine ⟨t, p, fun c hc σ H s r d s' e E W w => ?_⟩
  obtain ⟨r1, x1⟩ := r.free hL (by rw [hc]; exact fun _ z => nomatch z)
  refine q c hc σ H s r1 d s' e E W fun v H2 x2 d2 n2 => w v H2 (Ex.trans x1 x2) d2 ?_
  obtain ⟨t, us, p, ws, ds, h1, h2, h3, h4, h5⟩ := n2
  refine ⟨t, us, p, ws, ds, h1, h2, h3, ?_, h5⟩
  cases z : hide (Own O σ) H p with
  | none => rfl
  | some u => rw [x1 p u z] at h4; cases h4
theorem te_ret' (h : TrEN Γ O n e me) : TrEnd Γ O n [.Return (some e) pos] (mRet me) := by
  obtain ⟨t, p, q⟩ := h
  refine ⟨fun _ => tRet t, fun X W h k => pss_one (ps_nox (ps_ret (p _ h.g))), fun c hc σ H s r d s' e0 E W w => ?_⟩
  unfold mRet at e0
  obtain ⟨pr, e1, e2⟩ := mapNx_of e0
  cases e2
  exact q c σ H s r _ _ e1 _ fun v H' x2 d2 n2 => w v H' x2 d2 n2
/-- (e, x) with an owned x -/
theorem tn_pair {i : Nat} {x : Str} {px tp : Pos} {kt : Nat} (hN : Γ.N[i]? = some x) (hv : visB Γ.sc x = true) (hi : i ∈ O) (he : TrE Γ O O [] e me) (hd : (x == ("__debug__" : Str)) = false := by decide) (hcd : (x == ("__classdict__" : Str)) = false := by decide)
    (hs1 : ∀ env : Env, starEach [e, .Name x px] env = (false, eval e env) :: starEach [.Name x px] env := by intro _; rfl) (hs2 : ∀ env : Env, starEach [.Name x px] env = (false, eval (.Name x px) env) :: starEach [] env := by intro _; rfl) :
    TrEN Γ O 1 (.Tuple [e, .Name x px] kt tp) (xTup (xaCons me (xaCons (xLst (xOwn i)) xaNil))) := by
  obtain ⟨t, p, q⟩ := he
  refine ⟨tTup (tCons t (tCons (tVar i) tNil)), fun X h => pe_tup (pa_cons (p X h) (pa_cons (pe_var (h.nx hN) (h.vis hv) hd hcd) pa_nil (hs2 X.env)) (hs1 X.env)), fun c σ H s r d s' e0 Q w => ?_⟩
  obtain ⟨ds, e1, hl, rfl⟩ := xTup_of e0
  obtain ⟨d1, s1, es, e2, e3, rfl⟩ := xaCons_of e1
  obtain ⟨d2, s2, es2, e4, e5, rfl⟩ := xaCons_of e3
  cases e5
  unfold xLst at e4
  obtain ⟨⟨xs, s3⟩, e6, e7⟩ := mapNx_of e4
  cases e7
  obtain ⟨e8, rfl⟩ := xOwn_of e6
  refine q c σ H s r _ _ e2 _ fun v H1 r1 x1 g1 => ?_
  obtain ⟨p0, vs, k1, k3, k4, k5⟩ := r1.owl hi e8
  refine ⟨.ref p0, k1, sz1000 (by simp), fun t0 ht0 => ?_⟩
  have x1' := ex_own0 x1
  have x2 := ex_upd (o := HO.tup [v, .ref p0]) ht0
  have nC : ¬ c.C t0 := fun z => by
    obtain ⟨o, z⟩ := r1.cs t0 z
    rw [ht0] at z; cases z
  have npt : p0 ≠ t0 := fun z => by rw [z, ht0] at k3; cases k3
  have sub : ∀ a, c.C a → c.msk O σ a := fun a z => .inl z
  refine w _ _ (fun a o z => x2 a o (x1' a o (of_hide z).2)) ?_ ⟨t0, [v, .ref p0], p0, vs, xs, rfl, .inr (.inl (.inl (hide_of nC upd_same))), rfl, hide_no ⟨i, hi, k1⟩, x2 _ _ k3, rfl, dpa_len k4⟩
  refine .tup (.inl (.inl (hide_of nC upd_same))) (.cons (dp_ex ((ex_hide_sub sub).trans (ex_hide x2)) g1) (.cons (.lst (.inl (.inl (hide_of k5 (x2 _ _ k3)))) (dpa_ex ((ex_hide_sub sub).trans (ex_hide x2)) k4)) .nil))
end
def outQ : Out → Option D
  | .rt d _ => some d
  | _ => none
def fnQ (a n : Nat) (m : MM) : List D → Option D := fun ds => if ds.length = a then (m (startM n ds)).bind outQ else none
section
variable {P : Program} {w : World} {K : PySem.W.Frag} {mg : Str → Option Value} {base : Heap} {x qual : Str} {st : Stmt} {f : Addr} {fd : FuncData} {N ps : List Str} {k a n nn : Nat} {m : MM}
theorem fn_Q (F : FnP K x qual st f fd) (S : FnScope N ps (defScope st)) (ha : ps.length = a) (hn : N.length = n) (h : ∀ A, Room k A → TrEnd (G0 P w K mg base A N (defScope st)) [] nn (defBody st) m) : FnOk P w K mg base CX0 (k + 1) f fd ps (spQ K nn (fnQ a n m)) := by
  refine F.ok S (fun vs H Q E hs => ?_) (fun cdv A outer s H vs Q E hr hs => ?_)
  · obtain ⟨C, ds, d, _, hd, e, _⟩ := hs
    unfold fnQ at e
    split at e
    · rw [dpa_len hd, ha]; assumption
    · cases e
  · obtain ⟨C, ds, d, hC, hd, e, q⟩ := hs
    unfold fnQ at e
    split at e
    · obtain ⟨o, e1, e2⟩ := bind_of e
      obtain ⟨t, pt, st'⟩ := h _ hr
      cases o <;> first | (cases e2; done) | skip
      cases e2
      refine ⟨t fun _ _ _ _ => False, pt _ _ (inX0 S.nd) takes_none5, st' ⟨C, [], start N vs⟩ rfl (start N vs) H (startM n ds) (R_start hn hC hd) _ _ e1 _ _ fun v H' x2 d2 n2 => ?_⟩
      rw [own_nil, hide_false] at x2 n2
      exact q v H' x2 d2 n2
    · cases e
end

/-! ### the caller -/
section
variable {K : PySem.W.Frag} {c : Cn} {O : List Nat} {s : MS} {σ : L2.St} {H : Hp}
def Cn.adp (c : Cn) (p : Addr) : Cn := ⟨fun a => c.C a ∨ a = p, c.Th, c.τ⟩
theorem R.shut {p : Addr} {o : HO} (r : R K (c.adp p) O s σ H) : R K c O s σ (upd H p o) := by
  have big : Ex (hide ((c.adp p).msk O σ) H) (hide (c.msk O σ) (upd H p o)) := fun a u z => by
    obtain ⟨n, z⟩ := of_hide z
    refine hide_of (fun y => n (y.imp .inl id)) ?_
    rw [upd_ne (fun e => n (.inl (.inr e)))]
    exact z
  refine ⟨r.len, fun i d hi h hd => ?_, fun i hi => ?_, r.nd, fun q hq => ?_, r.th, r.tl⟩
  · obtain ⟨v, h1, h2⟩ := r.sh i d hi h hd
    exact ⟨v, h1, dp_ex big h2⟩
  · obtain ⟨q, u, d, h1, h2, h3, h4, h5⟩ := r.ow i hi
    exact ⟨q, u, d, h1, h2, by rw [upd_ne (fun e => h5 (.inr e))]; exact h3, owo_ex big h4, fun z => h5 (.inl z)⟩
  · obtain ⟨u, z⟩ := r.cs q (.inl hq)
    by_cases e : q = p
    · exact ⟨o, by rw [e]; exact upd_same⟩
    · exact ⟨u, by rw [upd_ne e]; exact z⟩
theorem R.opn {p : Addr} (r : R K (c.adp p) O s σ H) : R K c O s σ H := by
  have big : Ex (hide ((c.adp p).msk O σ) H) (hide (c.msk O σ) H) := ex_hide_sub fun a z => z.imp .inl id
  refine ⟨r.len, fun i d hi h hd => ?_, fun i hi => ?_, r.nd, fun q hq => r.cs q (.inl hq), r.th, r.tl⟩
  · obtain ⟨v, h1, h2⟩ := r.sh i d hi h hd
    exact ⟨v, h1, dp_ex big h2⟩
  · obtain ⟨q, u, d, h1, h2, h3, h4, h5⟩ := r.ow i hi
    exact ⟨q, u, d, h1, h2, h3, owo_ex big h4, fun z => h5 (.inl z)⟩
theorem R.hid {p : Addr} {o : HO} (r : R K c O s σ (hide (· = p) H)) (hp : H p = some o) : R K (c.adp p) O s σ H := by
  have big : Ex (hide (c.msk O σ) (hide (· = p) H)) (hide ((c.adp p).msk O σ) H) := fun a u z => by
    obtain ⟨n, z⟩ := of_hide z
    obtain ⟨n2, z⟩ := of_hide z
    refine hide_of (fun y => ?_) z
    rcases y with (y | y) | y
    · exact n (.inl y)
    · exact n2 y
    · exact n (.inr y)
  refine ⟨r.len, fun i d hi h hd => ?_, fun i hi => ?_, r.nd, fun q hq => ?_, r.th, r.tl⟩
  · obtain ⟨v, h1, h2⟩ := r.sh i d hi h hd
    exact ⟨v, h1, dp_ex big h2⟩
  · obtain ⟨q, u, d, h1, h2, h3, h4, h5⟩ := r.ow i hi
    obtain ⟨n, h3⟩ := of_hide h3
    exact ⟨q, u, d, h1, h2, h3, owo_ex big h4, fun z => z.elim h5 n⟩
  · rcases hq with hq | hq
    · obtain ⟨u, z⟩ := r.cs q hq
      exact ⟨u, (of_hide z).2⟩
    · exact ⟨o, by rw [hq]; exact hp⟩
/-- a slot takes a value that nothing is told of -/
theorem R.blind (r : R K c O s σ H) {i : Nat} (v : V) (hi : i ∉ O) (ht : i ∉ c.Th) : R K c O (s.set i none) (σ.set i (some v)) H ∧ Own O (σ.set i (some v)) = Own O σ := by
  have own : Own O (σ.set i (some v)) = Own O σ := by
    funext a
    refine propext ⟨fun ⟨j, hj, e⟩ => ?_, fun ⟨j, hj, e⟩ => ?_⟩
    · rw [List.getElem?_set_ne (fun z : i = j => hi (z ▸ hj))] at e
      exact ⟨j, hj, e⟩
    · exact ⟨j, hj, by rw [List.getElem?_set_ne (fun z : i = j => hi (z ▸ hj))]; exact e⟩
  have msk : c.msk O (σ.set i (some v)) = c.msk O σ := by
    funext a
    show (c.C a ∨ _) = _
    rw [own]; rfl
  refine ⟨⟨by simpa using r.len, fun j d hj h hd => ?_, fun j hj => ?_, fun j k p hj hk h1 h2 => ?_, r.cs, fun j hj => ?_, fun j hj => ?_⟩, own⟩
  · by_cases e : j = i
    · subst e
      by_cases hl : j < s.length
      · rw [List.getElem?_set_self hl] at h; cases h
      · rw [List.getElem?_eq_none (by simp; omega)] at h; cases h
    · rw [List.getElem?_set_ne (Ne.symm e)] at h
      rw [List.getElem?_set_ne (Ne.symm e), msk]
      exact r.sh j d hj h hd
  · have e : i ≠ j := fun z => hi (z ▸ hj)
    rw [List.getElem?_set_ne e, List.getElem?_set_ne e, msk]
    exact r.ow j hj
  · rw [List.getElem?_set_ne (fun z : i = j => hi (z ▸ hj))] at h1
    rw [List.getElem?_set_ne (fun z : i = k => hi (z ▸ hk))] at h2
    exact r.nd j k p hj hk h1 h2
  · have e : i ≠ j := fun z => ht (z ▸ hj)
    rw [List.getElem?_set_ne e]
    exact r.th j hj
  · have e : i ≠ j := fun z => ht (z ▸ hj)
    rw [List.getElem?_set_ne e]
    exact r.tl j hj
/-- a slot of which nothing was told is told of -/
theorem R.see (r : R K c O s σ H) {i : Nat} {v : V} {d : D} (hi : i ∉ O) (ht : i ∉ c.Th) (hs : σ[i]? = some (some v)) (h : Rp K (hide (c.msk O σ) H) v d) : R K c O (s.set i (some d)) σ H := by
  refine ⟨by simpa using r.len, fun j e hj h1 hd => ?_, fun j hj => ?_, r.nd, r.cs, r.th, fun j hj => ?_⟩
  · by_cases e1 : j = i
    · subst e1
      rw [List.getElem?_set_self (by rw [r.len]; exact (List.getElem?_eq_some_iff.mp hs).1)] at h1
      cases h1
      exact ⟨v, hs, h⟩
    · rw [List.getElem?_set_ne (Ne.symm e1)] at h1
      exact r.sh j e hj h1 hd
  · rw [List.getElem?_set_ne (fun z : i = j => hi (z ▸ hj))]
    exact r.ow j hj
  · rw [List.getElem?_set_ne (fun z : i = j => ht (z ▸ hj))]
    exact r.tl j hj
end
/-- x in slot i is d, and its n-th part, at p, is looked at by nothing else -/
structure Pf (K : PySem.W.Frag) (c : Cn) (O : List Nat) (i n : Nat) (s : MS) (σ : L2.St) (H : Hp) (v : V) (d : D) (p : Addr) : Prop where
  r : R K (c.adp p) O s σ H
  no : i ∉ O ∧ i ∉ c.Th
  sl : σ[i]? = some (some v)
  rp : Rp K (hide (c.msk O σ) H) v d
  nw : ∃ t us, v = .ref t ∧ Sq K (hide (c.msk O σ) H) t us ∧ us[n]? = some (.ref p)
  pl : ∃ ws ds, H p = some (.lst ws) ∧ partD d n = some ds ∧ ws.length = ds.length
  pm : ¬ c.msk O σ p
theorem Pf.ex {K : PySem.W.Frag} {c : Cn} {O : List Nat} {i n : Nat} {s s' : MS} {σ : L2.St} {H H' : Hp} {v : V} {d : D} {p : Addr} (f : Pf K c O i n s σ H v d p) (r : R K (c.adp p) O s' σ H') (x : Ex (hide (Own O σ) H) (hide (Own O σ) H')) : Pf K c O i n s' σ H' v d p := by
  have x2 : Ex (hide (c.msk O σ) H) (hide (c.msk O σ) H') := ex_wide (fun a z => .inr z) x
  obtain ⟨t, us, h1, h2, h3⟩ := f.nw
  obtain ⟨ws, ds, k1, k2, k3⟩ := f.pl
  exact ⟨r, f.no, f.sl, dp_ex x2 f.rp, ⟨t, us, h1, sq_ex x2 h2, h3⟩, ⟨ws, ds, (of_hide (x2 p _ (hide_of f.pm k1))).2, k2, k3⟩, f.pm⟩
/-- rows behind such an answer -/
def TrP (Γ : G) (Th O : List Nat) (i n : Nat) (sts : List Stmt) (m : D → MM) : Prop := ∃ t : WX → TS, (∀ X W, InX Γ X → Takes X W → PSs X sts (t W)) ∧ ∀ (c : Cn), c.Th = Th → ∀ (σ : L2.St) (H : Hp) (s : MS) (v : V) (d : D) (p : Addr), Pf Γ.K c O i n s σ H v d p →
  ∀ o, m d s = some o → ∀ (E : Ends) (W : WX),
  (∀ s' H', o = .nx s' → R Γ.K c O s' σ H' → Ex (hide (fun a => Own O σ a ∨ a = p) H) (hide (fun a => Own O σ a ∨ a = p) H') → E.nx σ H') →
  (∀ z s' v' H', o = .rt z s' → R Γ.K c O s' σ H' → Ex (hide (fun a => Own O σ a ∨ a = p) H) (hide (fun a => Own O σ a ∨ a = p) H') → (∀ M, Rp Γ.K M v' z) → E.rt v' H') → t W E σ H
/-- if t: return c -/
def pGd (i : Nat) (mt : MT) (mc : ME) (r : D → MM) : D → MM := fun d s => (mt (s.set i (some d))).bind fun p => if p.1 = true then (mc s).bind fun q => if isSc q.1 = true then some (.rt q.1 s) else none else r d s
def pApp (j : Nat) (me : ME) (r : D → MM) : D → MM := fun d s => (mApp j me s).bind fun o => match o with
  | .nx s' => r d s'
  | _ => none
def pEnd (n : Nat) (me : ME) : D → MM := fun d s => (me s).bind fun q => (partD d n).bind fun ds => if ds.length ≤ 1000000 then some (.nx q.2) else none
section
variable {Γ : G} {Th O W : List Nat} {i n : Nat} {sts : List Stmt} {e c0 : Expr} {mt : MT} {mc me : ME} {m : D → MM} {pos p1 p2 : Pos}
theorem tp_gd (ht : TrT Γ [] [] e mt) (hc : TrE Γ O O [] c0 mc) (h : TrP Γ Th O i n sts m) : TrP Γ Th O i n (.If e [.Return (some c0) p1] [] pos :: sts) (pGd i mt mc m) := by
  obtain ⟨t, pt, qt⟩ := ht
  obtain ⟨tc, pc, qc⟩ := hc
  obtain ⟨u, pu, qu⟩ := h
  refine ⟨fun W => tSeq (tIfS t (tRet tc) tNext) (u W), fun X W h k => pss_cons (ps_if (pt _ h.g).nox (pss_one (ps_nox (ps_ret (pc _ h.g)))) pss_nil) (pu X W h k), fun c hc σ H s v d p f o e0 E W nx rt => ?_⟩
  unfold pGd at e0
  obtain ⟨⟨b, s1⟩, e1, e0⟩ := bind_of e0
  have rs := ((f.r.opn.see f.no.1 f.no.2 f.sl f.rp).unth.free (L := []) (fun j hj => nomatch hj) (fun j hj => nomatch hj)).1
  refine qt _ σ H _ rs _ _ e1 _ fun H1 r1 x1 => ?_
  have x1' := ex_own0 x1
  cases b with
  | true =>
    rw [if_pos rfl] at e0 ⊢
    obtain ⟨⟨z, s2⟩, e2, e0⟩ := bind_of e0
    dsimp only at e0
    split at e0 <;> first | (cases e0; done) | skip
    rename_i hz
    cases e0
    refine qc c σ H1 s (f.r.opn.ex x1') _ _ e2 _ fun v' H2 r2 x2 d2 => ?_
    have x2' := ex_own0 x2
    exact rt z s v' H2 rfl (f.r.opn.ex (x1'.trans x2')) (ex_hide (x1'.trans x2')) (sc_any d2 hz)
  | false =>
    rw [if_neg Bool.false_ne_true] at e0 ⊢
    refine qu c hc σ H1 s v d p (f.ex (f.r.ex x1') (ex_hide x1')) o e0 E W (fun s' H' eo r' x' => nx s' H' eo r' ((ex_hide x1').trans x')) fun z s' v' H' eo r' x' hv => rt z s' v' H' eo r' ((ex_hide x1').trans x') hv
theorem rd_ap {j : Nat} {p : Addr} {σ : L2.St} : ∀ a, Own O σ a → (fun a => Own O σ a ∨ a = p) a := fun a z => .inl z
theorem tp_app {j : Nat} {y : Str} {px apos cpos : Pos} (hN : Γ.N[j]? = some y) (hv : visB Γ.sc y = true) (hi : j ∈ O) (he : TrE Γ O O W e me) (hW : ∀ j ∈ W, j ∈ O) (h : TrP Γ Th O i n sts m) (hst : ∀ env : Env, starEach [e] env = (false, eval e env) :: starEach [] env := by intro _; rfl) (hd : (y == ("__debug__" : Str)) = false := by decide) (hcd : (y == ("__classdict__" : Str)) = false := by decide)
    (hbase : ∀ env : Env, attributeBase (.Name y px) "append" env (eval (.Name y px) env) = eval (.Name y px) env := by intro _; rfl)
    (hfew : ∀ env : Env, ((backTo cpos (starEach [e] env)).all (fun x => !x.1) && (backToKw cpos (keywordEach [] env)).all (fun x => x.1.isSome)
      && decide (([e] : List Expr).length + ([] : List Keyword).length + (if ([] : List Keyword).isEmpty then 0 else 1) < 30)) = true := by intro _; rfl)
    (hline : (apos.endLine == cpos.line) = true := by rfl) :
    TrP Γ Th O i n (.Expr (.Call (.Attribute (.Name y px) "append" apos) [e] [] cpos) pos :: sts) (pApp j me m) := by
  obtain ⟨t, p, q⟩ := he
  obtain ⟨u, pu, qu⟩ := h
  refine ⟨fun W => tSeq (tDrop (tBM Γ.K "list" rAppend (tVar j) (tCons t tNil))) (u W), fun X W h k => pss_cons (ps_nox (by rw [← h.g.K]; exact ps_expr (pe_bm PySem.F.plainAttrs_list PySem.F.slot_list_append PySem.F.type_list_append mt_append (pe_var (h.g.nx hN) (h.g.vis hv) hd hcd) (pa_cons (p _ h.g) pa_nil (hst X.env)) (hbase X.env) (hfew X.env) hline (hst X.env)))) (pu X W h k), fun c hc σ H s v d p0 f o e0 E W0 nx rt => ?_⟩
  unfold pApp at e0
  obtain ⟨o1, e1, e0⟩ := bind_of e0
  unfold mApp at e1
  split at e1 <;> first | (cases e1; done) | skip
  rename_i hls
  obtain ⟨⟨dv, s1⟩, e2, e3⟩ := bind_of e1
  dsimp only at e3
  split at e3 <;> first | (cases e3; done) | skip
  rename_i ds e4
  split at e3 <;> first | (cases e3; done) | skip
  rename_i hl
  cases e3
  have r := f.r
  obtain ⟨p1, vs0, h1, h3⟩ := own_list r hi hls
  refine ⟨.ref p1, h1, .inl ⟨rfl, vs0, .inl (.inl h3)⟩, ?_⟩
  refine q _ σ H s r _ _ e2 _ fun v1 H1 r1 x1 d1 => ?_
  obtain ⟨vs, k3, k4⟩ := own_at r1 hi e4 h1
  refine ⟨p1, vs, v1, rfl, rfl, k3, Nat.lt_of_lt_of_le (show vs.length < 1000001 by rw [dpa_len k4]; omega) (by decide), ?_⟩
  obtain ⟨r2, x2⟩ := r1.chg hi h1 (vs := vs ++ [v1]) (ds := ds ++ [dv]) (dpa_app k4 (.cons d1 .nil))
  have x12 : Ex (hide (Own O σ) H) (hide (Own O σ) (upd H1 p1 (.lst (vs ++ [v1])))) := (ex_wide (own_sub hW) x1).trans (ex_wide (own_sub fun k hk => by rw [List.mem_singleton.mp hk]; exact hi) x2)
  have x12' := ex_wide (rd_ap (j := j) (p := p0) (O := O) (σ := σ)) x12
  exact qu c hc σ _ _ v d p0 (f.ex r2 x12) o e0 E W0 (fun s' H' eo r' x' => nx s' H' eo r' (x12'.trans x')) fun z s' v' H' eo r' x' hv => rt z s' v' H' eo r' (x12'.trans x') hv
theorem atI_nat {α : Type} {xs : List α} {n : Nat} {x : α} (h : xs[n]? = some x) : atI xs (n : Int) = some x := by
  have hl := (List.getElem?_eq_some_iff.mp h).1
  unfold atI ixN
  rw [if_pos (Int.natCast_nonneg n), if_pos (by omega), Option.bind_some, Int.toNat_natCast]
  exact h
theorem tp_end {x : Str} {px p5 sp apos cpos : Pos} {kk : Nat} (hN : Γ.N[i]? = some x) (hv : visB Γ.sc x = true) (he : TrE Γ O O [] e me) (hst : ∀ env : Env, starEach [e] env = (false, eval e env) :: starEach [] env := by intro _; rfl) (hd : (x == ("__debug__" : Str)) = false := by decide) (hcd : (x == ("__classdict__" : Str)) = false := by decide)
    (hpl : PlainIx (.Constant (.int (n : Int)) kk p5) := by exact fun _ _ => rfl)
    (hbase : ∀ env : Env, attributeBase (.Subscript (.Name x px) (.Constant (.int (n : Int)) kk p5) sp) "append" env (eval (.Subscript (.Name x px) (.Constant (.int (n : Int)) kk p5) sp) env) = eval (.Subscript (.Name x px) (.Constant (.int (n : Int)) kk p5) sp) env := by intro _; rfl)
    (hfew : ∀ env : Env, ((backTo cpos (starEach [e] env)).all (fun x => !x.1) && (backToKw cpos (keywordEach [] env)).all (fun x => x.1.isSome)
      && decide (([e] : List Expr).length + ([] : List Keyword).length + (if ([] : List Keyword).isEmpty then 0 else 1) < 30)) = true := by intro _; rfl)
    (hline : (apos.endLine == cpos.line) = true := by rfl) :
    TrP Γ Th O i n [.Expr (.Call (.Attribute (.Subscript (.Name x px) (.Constant (.int (n : Int)) kk p5) sp) "append" apos) [e] [] cpos) pos] (pEnd n me) := by
  obtain ⟨t, p, q⟩ := he
  refine ⟨fun W => tDrop (tBM Γ.K "list" rAppend (tOp (rIx Γ.K) (tVar i) (tC (.int (n : Int)))) (tCons t tNil)), fun X W h k => pss_one (ps_nox (by rw [← h.g.K]; exact ps_expr (pe_bm PySem.F.plainAttrs_list PySem.F.slot_list_append PySem.F.type_list_append mt_append (pe_ix ix_seq (pe_var (h.g.nx hN) (h.g.vis hv) hd hcd) pe_int hpl) (pa_cons (p _ h.g) pa_nil (hst X.env)) (hbase X.env) (hfew X.env) hline (hst X.env)))), fun c hc σ H s v d p0 f o e0 E W0 nx rt => ?_⟩
  unfold pEnd at e0
  obtain ⟨⟨dv, s1⟩, e2, e0⟩ := bind_of e0
  obtain ⟨ds, e3, e0⟩ := bind_of e0
  split at e0 <;> first | (cases e0; done) | skip
  rename_i hl
  cases e0
  obtain ⟨t0, us, rfl, k2, k3⟩ := f.nw
  obtain ⟨ws, ds', j1, j2, j3⟩ := f.pl
  rw [e3] at j2
  cases j2
  have k2' := sq_ex ex_hide0 k2
  refine ⟨.ref t0, f.sl, ?_⟩
  have fin : (∃ v', v' = V.ref p0 ∧ tyV Γ.K "list" v' H ∧ tCons t tNil σ H fun xs H2 => rAppend v' xs H2 fun _ H3 => E.nx σ H3) := by
    refine ⟨.ref p0, rfl, .inl ⟨rfl, ws, .inl (.inl j1)⟩, ?_⟩
    refine q _ σ H s f.r _ _ e2 _ fun v1 H1 r1 x1 d1 => ?_
    have x1' := ex_own0 x1
    refine ⟨p0, ws, v1, rfl, rfl, x1' _ _ j1, Nat.lt_of_lt_of_le (show ws.length < 1000001 by rw [j3]; omega) (by decide), ?_⟩
    refine nx _ _ rfl r1.shut ((ex_hide x1').trans (ex_hide_up (.inr rfl)))
  obtain ⟨_, rfl, f1, f2⟩ := fin
  rcases k2' with h | h
  · exact .inl ⟨t0, us, n, .ref p0, rfl, rfl, h, atI_nat k3, f1, f2⟩
  · exact .inr (.inl ⟨t0, us, n, .ref p0, rfl, rfl, h, atI_nat k3, f1, f2⟩)
def mSpoil (i : Nat) (mf : List D → Option D) (ms : MF) (r : D → MM) : MM := fun s => (ms s).bind fun p => (mf p.1).bind fun d => if i < p.2.length then r d (p.2.set i none) else none
theorem sss_spoil {ps : List Str} {a : Expr} {k : Nat} {fn x : Str} {as : List Expr} {ms : MF} {mf : List D → Option D} {pf cp px : Pos} {O' : List Nat} (F : FnAt Γ.P Γ.w Γ.K Γ.mg Γ.base k fn ps (spQ Γ.K n mf)) (hr : Room k Γ.A) (hg : Γ.sc.names.lookup fn = some .globalImplicit) (ha : TrA Γ O O [] (a :: as) ms)
    (hN : Γ.N[i]? = some x) (hv : locB Γ x = true) (hi : i ∉ O) (ht : i ∉ Th) (h : TrP Γ Th O i n sts m)
    (hdb : (fn == ("__debug__" : Str)) = false := by decide) (he : ∀ env : Env, starEach (a :: as) env = (false, eval a env) :: starEach as env := by intro _; rfl) (hpl : ∀ env : Env, (backTo cp (starEach as env)).any (·.1) = false := by intro _; rfl)
    (hs : ∀ env : Env, swapsWith (.Call (.Name fn pf) (a :: as) [] cp) (some (.Name x px)) pos.line env = pure false := by intro _; rfl) :
    TrSs Γ Th false O O O' (.Assign [.Name x px] (.Call (.Name fn pf) (a :: as) [] cp) pos :: sts) (mSpoil i mf ms m) := by
  obtain ⟨f, fd, F, hm, hk, hb⟩ := F.ex
  obtain ⟨t, pa, sa⟩ := ha
  obtain ⟨u, pu, qu⟩ := h
  refine ⟨fun W => tSeq (tAsg (tCall (spQ Γ.K n mf) [] E0 t) (gName i)) (u W), fun X W h k => pss_cons (ps_nox (ps_set h.g.ndX (h.g.nx hN) (h.g.loc hv).1 (pe_call (h.g.fn F) (h.g.room hr) (h.g.gl hg) (h.g.mgn hm) (h.g.kp hk) (h.g.bd hb) .nil pass0 (pa _ h.g) hdb (he X.env) (hpl X.env)) (hs X.env) (h.g.loc hv).2)) (pu X W h k), fun c hc σ H s r o e0 E W w => ?_⟩
  unfold mSpoil at e0
  obtain ⟨⟨ds, s1⟩, e1, e0⟩ := bind_of e0
  obtain ⟨d, e2, e0⟩ := bind_of e0
  refine sa c σ H s r _ _ e1 _ fun vs H1 r1 x1 d1 => ?_
  have x1' := ex_own0 x1
  refine ⟨c.msk O σ, ds, d, msk_there r1 (fun _ z => z), by rw [List.append_nil]; exact d1, e2, fun v H2 x2 d2 n2 => ?_⟩
  obtain ⟨t0, us, p, ws, ds', k1, k2, k3, k4, k5, k6⟩ := n2
  have x2p : Ex H1 (hide (· = p) H2) := fun a o z => hide_of (fun e => by rw [e, k4] at z; cases z) (x2 a o z)
  have ht' : i ∉ c.Th := by rw [hc]; exact ht
  dsimp only at e0
  split at e0 <;> first | (cases e0; done) | skip
  rename_i hl
  rw [r1.len] at hl
  obtain ⟨r2, ow⟩ := (((r1.ex x2p).hid k5).blind (i := i) v hi ht')
  have mk : c.msk O (σ.set i (some v)) = c.msk O σ := by
    funext a
    show (c.C a ∨ _) = _
    rw [ow]; rfl
  have pm : ¬ c.msk O σ p := fun z => by
    obtain ⟨o, z⟩ := msk_there r1 (fun _ z => z) p z
    rw [k4] at z; cases z
  have f : Pf Γ.K c O i n (s1.set i none) (σ.set i (some v)) H2 v d p := ⟨r2, ⟨hi, ht'⟩, List.getElem?_set_self hl, by rw [mk]; exact d2, ⟨t0, us, k1, by rw [mk]; exact k2, k3⟩, ⟨ws, ds', k5, k6⟩, by rw [mk]; exact pm⟩
  have fr : ∀ {H'}, Ex (hide (fun a => Own O (σ.set i (some v)) a ∨ a = p) H2) (hide (fun a => Own O (σ.set i (some v)) a ∨ a = p) H') → Ex (hide (Own O σ) H) (hide (Own O (σ.set i (some v))) H') := fun {H'} x3 a o z => by
    obtain ⟨n1, z⟩ := of_hide z
    have z1 := x1' a o z
    have z2 := of_hide (x2p a o z1)
    have z3 := x3 a o (hide_of (fun y => y.elim (fun y => n1 (by rw [← ow]; exact y)) z2.1) z2.2)
    exact hide_of (fun y => n1 (by rw [← ow]; exact y)) (of_hide z3).2
  refine qu c hc _ H2 _ v d p f o e0 E W (fun s' H' eo r' x3 => w.nx s' _ H' eo r' (fr x3)) fun z s' v' H' eo r' x3 hv => w.rt z s' v' H' eo ⟨?_, rt_th r', hv _, fun z => Bool.noConfusion z⟩
  have y := rt_ex (W := []) r' (fun _ z => nomatch z) (Ex.refl _)
  exact (fr x3).trans y
end
/-! ## is None as a test -/
section
variable {Γ : G} {O L0 W : List Nat} {a : Expr} {ma : ME} {pos : Pos}
theorem sim_none {K : PySem.W.Frag} {b : Bool} {t : TE} {tn : TE → TE} (ht : tn = (if b = true then tNotN else tIsN)) (q : SimE K O L0 W t ma) : SimE K O [] W (tn t) (xUn (dIsN b) ma) := fun c σ H s r d s' e Q w => by
  obtain ⟨x, e1, e2⟩ := xUn_of e
  subst ht
  cases b with
  | true =>
    refine q c σ H s r _ _ e1 _ fun v H1 r1 x1 d1 => ?_
    cases d1 <;> cases e2 <;> exact w _ H1 r1 x1 (.bl _)
  | false =>
    refine q c σ H s r _ _ e1 _ fun v H1 r1 x1 d1 => ?_
    cases d1 <;> cases e2 <;> exact w _ H1 r1 x1 (.bl _)
theorem tt_isN {j : Nat} {p2 : Pos} (ha : TrE Γ O L0 W a ma) : TrT Γ O W (.Compare a [.Is] [.Constant .none j p2] pos) (xT (xUn (dIsN false) ma)) := by
  obtain ⟨t, p, q⟩ := ha
  exact ⟨tTest (tIsN t), fun X h => pt_cmp (pc_isN (p X h)) rfl, sim_test (L := []) (sim_none (b := false) (tn := tIsN) rfl q)⟩
theorem tt_notN {j : Nat} {p2 : Pos} (ha : TrE Γ O L0 W a ma) : TrT Γ O W (.Compare a [.IsNot] [.Constant .none j p2] pos) (xT (xUn (dIsN true) ma)) := by
  obtain ⟨t, p, q⟩ := ha
  exact ⟨tTest (tNotN t), fun X h => pt_cmp (pc_notN (p X h)) rfl, sim_test (L := []) (sim_none (b := true) (tn := tNotN) rfl q)⟩
end
end Z


namespace Z
open PySem PySem.Spec PyProof.Rows L2
/-! ## in, not in: data of any depth -/
def dInX (neg : Bool) (x y : D) : Option D := (seqOf y).bind fun ys => if SeqAt.shaped x = true ∧ SeqAt.shaped y = true then some (.bool (if neg then !inD x ys else inD x ys)) else none
def rInX (K : PySem.W.Frag) (neg : Bool) : R2 := fun x y H Q => ∃ d e ds, L2.Dp K H x d ∧ L2.Dp K H y e ∧ seqOf e = some ds ∧ SeqAt.shaped d = true ∧ SeqAt.shaped e = true ∧ Q (.bl (if neg then !inD d ds else inD d ds)) H
theorem op_inX {X : Cx} (hu : X.A.units + 65 < cLine) : OpR X (compareOp .In) (rInX X.K false) := by
  intro pins s σ H x y v u Q I rx ry h
  obtain ⟨d, e, ds, hd, he, es, sd, se, q⟩ := h
  obtain ⟨as, r1⟩ := Dp.reads I d x v hd rx
  obtain ⟨bs, r2⟩ := Dp.reads I e y u he ry
  cases e <;> first | (cases es; done) | skip
  · cases es
    exact SeqAt.in_list_reads r2 r1 (SeqAt.canLay_of_shaped se) (SeqAt.canLay_of_shaped sd) (room_in_shaped sd hu) ⟨.bl _, H, I, rfl, q⟩
  · cases es
    exact SeqAt.in_tuple_reads r2 r1 (SeqAt.canLay_of_shaped se) (SeqAt.canLay_of_shaped sd) (room_in_shaped sd hu) ⟨.bl _, H, I, rfl, q⟩
theorem op_ninX {X : Cx} (hu : X.A.units + 65 < cLine) : OpR X (compareOp .NotIn) (rInX X.K true) := by
  intro pins s σ H x y v u Q I rx ry h
  obtain ⟨d, e, ds, hd, he, es, sd, se, q⟩ := h
  obtain ⟨as, r1⟩ := Dp.reads I d x v hd rx
  obtain ⟨bs, r2⟩ := Dp.reads I e y u he ry
  cases e <;> first | (cases es; done) | skip
  · cases es
    exact SeqAt.notIn_list_reads r2 r1 (SeqAt.canLay_of_shaped se) (SeqAt.canLay_of_shaped sd) (room_in_shaped sd hu) ⟨.bl _, H, I, rfl, q⟩
  · cases es
    exact SeqAt.notIn_tuple_reads r2 r1 (SeqAt.canLay_of_shaped se) (SeqAt.canLay_of_shaped sd) (room_in_shaped sd hu) ⟨.bl _, H, I, rfl, q⟩
theorem rs_inX {K : PySem.W.Frag} (neg : Bool) : RS K (rInX K neg) (dInX neg) := fun H x y dx dy dz hx hy e Q q => by
  unfold dInX at e
  obtain ⟨ys, e1, e⟩ := bind_of e
  split at e <;> first | (cases e; done) | skip
  rename_i h
  cases e
  exact ⟨dx, dy, ys, hx.dp, hy.dp, e1, h.1, h.2, q _ fun M => .bl _⟩
section
variable {Γ : G}
theorem u65 {k : Nat} {A : Around} (hr : Room k A) : A.units + 65 < cLine := by have := hr.un; omega
theorem ho_inX (hu : Γ.A.units + 65 < cLine) : ∀ X, InG Γ X → OpR X (compareOp .In) (rInX Γ.K false) := fun X h => by rw [← h.K]; exact op_inX (by rw [h.A]; exact hu)
theorem ho_ninX (hu : Γ.A.units + 65 < cLine) : ∀ X, InG Γ X → OpR X (compareOp .NotIn) (rInX Γ.K true) := fun X h => by rw [← h.K]; exact op_ninX (by rw [h.A]; exact hu)
end
/-! ## k in d, k not in d, len(d): dicts made here -/
def xDInO (neg : Bool) (k : ME) (i : Nat) : ME := fun s => (k s).bind fun q => (keyOf q.1).bind fun ky => match q.2.getD i none with
  | some (.dict ps) => some (.bool (if neg then !(getDc ky ps).isSome else (getDc ky ps).isSome), q.2)
  | _ => none
def xDLenO (i : Nat) : ME := fun s => match s.getD i none with
  | some (.dict ps) => some (.int ps.length, s)
  | _ => none
section
variable {Γ : G} {O L L0 W : List Nat} {k : Expr} {mk : ME} {pos px p2 : Pos} {i : Nat} {x : Str}
theorem sim_dinO (neg : Bool) (hi : i ∈ O) {t2 : TE} (q2 : SimE Γ.K O L0 W t2 mk) : SimE Γ.K O L W (if neg = true then tDNotIn t2 (tVar i) else tDIn t2 (tVar i)) (xDInO neg mk i) := fun c σ H s r d s' e0 Q q => by
  unfold xDInO at e0
  obtain ⟨⟨dk, s2⟩, e2, e0⟩ := bind_of e0
  obtain ⟨ky, e3, e0⟩ := bind_of e0
  dsimp only at e0
  split at e0 <;> first | (cases e0; done) | skip
  rename_i ps e4
  cases e0
  have fin : ∀ u H2, R Γ.K c O s' σ H2 → Rp Γ.K (hide (c.msk L0 σ) H2) u dk → ∃ p0, σ[i]? = some (some (.ref p0)) ∧ ∃ a o, V.ref p0 = .ref a ∧ DGet H2 a u o ∧ o.isSome = (getDc ky ps).isSome := fun u H2 r2 d2 => by
    obtain ⟨p', kvs, k1, k3, k4, k5⟩ := r2.owd hi (getD_some e4)
    obtain ⟨ek, -⟩ := keyOf_V d2 e3
    refine ⟨p', k1, p', valV kvs ky, rfl, .inl ⟨kvs, ky, .inl k3, ek, rfl⟩, ?_⟩
    rcases kva_get ky k4 with ⟨v, d', g1, g2, g3⟩ | ⟨g1, g2⟩
    · rw [g1, g2]; rfl
    · rw [g1, g2]; rfl
  cases neg with
  | true =>
    rw [if_pos rfl]
    refine q2 c σ H s r _ _ e2 _ fun u H2 r2 x2 d2 => ?_
    obtain ⟨p0, h1, a, o, h2, h3, h4⟩ := fin u H2 r2 d2
    refine ⟨.ref p0, h1, a, o, h2, h3, ?_⟩
    rw [h4]
    exact q _ H2 r2 x2 (.bl _)
  | false =>
    rw [if_neg Bool.false_ne_true]
    refine q2 c σ H s r _ _ e2 _ fun u H2 r2 x2 d2 => ?_
    obtain ⟨p0, h1, a, o, h2, h3, h4⟩ := fin u H2 r2 d2
    refine ⟨.ref p0, h1, a, o, h2, h3, ?_⟩
    rw [h4]
    exact q _ H2 r2 x2 (.bl _)
theorem tt_dinO (hu : Γ.A.units + 64 < cLine) (hN : Γ.N[i]? = some x) (hv : visB Γ.sc x = true) (hi : i ∈ O) (hk : TrE Γ O L0 W k mk) (hd : (x == ("__debug__" : Str)) = false := by decide) (hcd : (x == ("__classdict__" : Str)) = false := by decide) :
    TrT Γ O W (.Compare k [.In] [.Name x px] pos) (xT (xDInO false mk i)) := by
  obtain ⟨t2, p2, q2⟩ := hk
  exact ⟨tTest (tDIn t2 (tVar i)), fun X h => pt_cmp (pc_din (by rw [h.A]; omega) (p2 X h) (pe_var (h.nx hN) (h.vis hv) hd hcd)) rfl, sim_test (L := []) (sim_dinO false hi q2)⟩
theorem tt_dninO (hu : Γ.A.units + 64 < cLine) (hN : Γ.N[i]? = some x) (hv : visB Γ.sc x = true) (hi : i ∈ O) (hk : TrE Γ O L0 W k mk) (hd : (x == ("__debug__" : Str)) = false := by decide) (hcd : (x == ("__classdict__" : Str)) = false := by decide) :
    TrT Γ O W (.Compare k [.NotIn] [.Name x px] pos) (xT (xDInO true mk i)) := by
  obtain ⟨t2, p2, q2⟩ := hk
  exact ⟨tTest (tDNotIn t2 (tVar i)), fun X h => pt_cmp (pc_dnotin (by rw [h.A]; omega) (p2 X h) (pe_var (h.nx hN) (h.vis hv) hd hcd)) rfl, sim_test (L := []) (sim_dinO true hi q2)⟩
theorem tr_dlenO (hg : Γ.sc.names.lookup ("len" : Str) = some .globalImplicit) (hm : Γ.mg "len" = none) (hN : Γ.N[i]? = some x) (hv : visB Γ.sc x = true) (hi : i ∈ O) (hd : (x == ("__debug__" : Str)) = false := by decide) (hcd : (x == ("__classdict__" : Str)) = false := by decide)
    (he : ∀ env : Env, starEach [.Name x px] env = (false, eval (.Name x px) env) :: starEach [] env := by intro _; rfl) : TrE Γ O L W (.Call (.Name "len" p2) [.Name x px] [] pos) (xDLenO i) := by
  refine ⟨_, fun X h => pe_callB (x := "len") call_lenD (h.gl hg) (h.mgn hm) PySem.boot_len (pa_cons (pe_var (h.nx hN) (h.vis hv) hd hcd) pa_nil (he X.env)) (by decide) (by decide) (he X.env), fun c σ H s r d s' e0 Q q => ?_⟩
  unfold xDLenO at e0
  split at e0 <;> first | (cases e0; done) | skip
  rename_i ps e4
  cases e0
  obtain ⟨p', kvs, k1, k3, k4, k5⟩ := r.owd hi (getD_some e4)
  refine ⟨.ref p', k1, p', kvs, rfl, k3, ?_⟩
  rw [kva_len k4]
  exact q _ H r (Ex.refl _) (.int _)
end
end Z


namespace Z
open PySem PySem.Spec PyProof.Rows L2
/-! ## rows of mirrors: dicts made here, lists walked that are owned, spoilt answers, keep, range down, tuple, max default -/
section
variable {α : Type} {s s1 : MS} {as : MF} {d x y : D} {ds xs : List D} {i j : Nat} {m n : MM} {a b k v : ME} {t : MT} {ps : List (D × D)} {o : Option D} {neg p : Bool}
@[simp] theorem nd_d : nd (some (.dict ps)) = none := by unfold nd; rfl
@[simp] theorem dcO_d : dcO (some (.dict ps)) = true := by unfold dcO; rfl
@[simp] theorem lsO_d : lsO (some (.dict ps)) = false := by unfold lsO; rfl
@[simp] theorem keyOf_i (n : Int) : keyOf (.int n) = some (.inl n) := by unfold keyOf; rfl
@[simp] theorem keyOf_s (z : Str) : keyOf (.str z) = some (.inr z) := by unfold keyOf; rfl
@[simp] theorem mDNew_ap : mDNew i s = if i < s.length then some (.nx (s.set i (some (.dict [])))) else none := rfl
def kDP1 (i : Nat) (k : ME) : D → MS → Option Out := fun d s => (k s).bind fun q => (keyOf q.1).bind fun ky => match q.2.getD i none with
    | some (.dict ps) => if ps.length ≤ 1000000 then some (.nx (q.2.set i (some (.dict (putDc ky d ps))))) else none
    | _ => none
def kDP2 (i : Nat) (d : D) : D → MS → Option Out := fun q s => (keyOf q).bind fun ky => match s.getD i none with
    | some (.dict ps) => if ps.length ≤ 1000000 then some (.nx (s.set i (some (.dict (putDc ky d ps))))) else none
    | _ => none
def dpO (i : Nat) (d : D) (ky : Key) (s : MS) : Option D → Option Out
  | some (.dict ps) => if ps.length ≤ 1000000 then some (.nx (s.set i (some (.dict (putDc ky d ps))))) else none
  | _ => none
@[simp] theorem mDPut_ap : mDPut i v k s = if dcO (s.getD i none) = true then bE (v s) (kDP1 i k) else none := rfl
@[simp] theorem kDP1_ap : kDP1 i k d s = bE (k s) (kDP2 i d) := rfl
@[simp] theorem kDP2_i (n : Int) : kDP2 i d (.int n) s = dpO i d (.inl n) s (s.getD i none) := by
  unfold kDP2 dpO
  rw [keyOf_i, Option.bind_some]
@[simp] theorem kDP2_s (z : Str) : kDP2 i d (.str z) s = dpO i d (.inr z) s (s.getD i none) := by
  unfold kDP2 dpO
  rw [keyOf_s, Option.bind_some]
@[simp] theorem dpO_d (ky : Key) : dpO i d ky s (some (.dict ps)) = if ps.length ≤ 1000000 then some (.nx (s.set i (some (.dict (putDc ky d ps))))) else none := by unfold dpO; rfl
def dcG (ky : Key) : Option D → Option D
  | some (.dict ps) => getDc ky ps
  | _ => none
@[simp] theorem dcG_d (ky : Key) : dcG ky (some (.dict ps)) = getDc ky ps := by unfold dcG; rfl
def kDGt (i : Nat) : D → MS → Option (D × MS) := fun q s => (keyOf q).bind fun ky => match s.getD i none with
  | some (.dict ps) => (getDc ky ps).map fun d => (d, s)
  | _ => none
@[simp] theorem xDGetO_ap : xDGetO i k s = bE (k s) (kDGt i) := rfl
@[simp] theorem kDGt_i (n : Int) : kDGt i (.int n) s = ret1 (dcG (.inl n) (s.getD i none)) s := by
  unfold kDGt dcG ret1
  rw [keyOf_i, Option.bind_some]
  cases s.getD i none with
  | none => rfl
  | some d => cases d <;> rfl
@[simp] theorem kDGt_s (z : Str) : kDGt i (.str z) s = ret1 (dcG (.inr z) (s.getD i none)) s := by
  unfold kDGt dcG ret1
  rw [keyOf_s, Option.bind_some]
  cases s.getD i none with
  | none => rfl
  | some d => cases d <;> rfl
def dcI (neg : Bool) (ky : Key) : Option D → Option D
  | some (.dict ps) => some (.bool (if neg then !(getDc ky ps).isSome else (getDc ky ps).isSome))
  | _ => none
@[simp] theorem dcI_d (ky : Key) : dcI neg ky (some (.dict ps)) = some (.bool (if neg then !(getDc ky ps).isSome else (getDc ky ps).isSome)) := by unfold dcI; rfl
def kDIn (neg : Bool) (i : Nat) : D → MS → Option (D × MS) := fun q s => (keyOf q).bind fun ky => ret1 (dcI neg ky (s.getD i none)) s
@[simp] theorem xDInO_ap : xDInO neg k i s = bE (k s) (kDIn neg i) := by
  unfold xDInO bE kDIn dcI ret1
  cases k s with
  | none => rfl
  | some q =>
    simp only [Option.bind_some]
    cases keyOf q.1 with
    | none => rfl
    | some ky =>
      simp only [Option.bind_some]
      cases q.2.getD i none with
      | none => rfl
      | some d => cases d <;> rfl
@[simp] theorem kDIn_i (n : Int) : kDIn neg i (.int n) s = ret1 (dcI neg (.inl n) (s.getD i none)) s := by
  unfold kDIn; rw [keyOf_i, Option.bind_some]
@[simp] theorem kDIn_s (z : Str) : kDIn neg i (.str z) s = ret1 (dcI neg (.inr z) (s.getD i none)) s := by
  unfold kDIn; rw [keyOf_s, Option.bind_some]
def dcL : Option D → Option D
  | some (.dict ps) => some (.int ps.length)
  | _ => none
@[simp] theorem dcL_d : dcL (some (.dict ps)) = some (.int ps.length) := by unfold dcL; rfl
@[simp] theorem xDLenO_ap : xDLenO i s = ret1 (dcL (s.getD i none)) s := by
  unfold xDLenO dcL ret1
  cases s.getD i none with
  | none => rfl
  | some d => cases d <;> rfl
/-! lists walked that are owned -/
noncomputable def foO (i : Nat) (b : D → MS → Option MS) (m : MM) (s : MS) : Option D → Option Out
  | some (.list ds) => forLO i ds b m ds s
  | _ => none
theorem mForO_ap (b : D → MS → Option MS) : mForO i b m s = foO i b m s (s.getD i none) := by
  unfold mForO foO
  cases s.getD i none with
  | none => rfl
  | some d => cases d <;> rfl
@[simp] theorem foO_l (b : D → MS → Option MS) : foO i b m s (some (.list ds)) = forLO i ds b m ds s := by unfold foO; rfl
/-- a loop over an owned list whose states keep the list -/
theorem forO_st {β : Type} (enc : β → D) (ds0 : List D) (b : D → MS → Option MS) (m : MM) (st : List β → MS) (hg : ∀ d, (st d).getD i none = some (.list ds0)) : ∀ (xs d : List β), (∀ d' x r, d ++ xs = d' ++ x :: r → ∃ s1, b (enc x) (st d') = some s1 ∧ s1.getD i none = some (.list ds0) ∧ m s1 = some (.nx (st (d' ++ [x])))) →
    forLO i ds0 b m (xs.map enc) (st d) = some (.nx (st (d ++ xs)))
  | [], d, _ => by
    rw [List.map_nil, forLO, if_pos (hg d), List.append_nil]
  | x :: r, d, h => by
    obtain ⟨s1, h1, h2, h3⟩ := h d x r rfl
    rw [List.map_cons, forLO, if_pos (hg d), h1]
    simp only [Option.bind_some]
    rw [if_pos h2, h3]
    have := forO_st enc ds0 b m st hg r (d ++ [x]) fun d' y r' e => h d' y r' (by rw [← e, List.append_assoc]; rfl)
    rw [List.append_assoc] at this
    exact this
/-! sequences to an end, spoilt answers -/
def thenN (o : Option Out) (b : MM) : Option Out := o.bind fun o => match o with
  | .nx s' => b s'
  | _ => none
@[simp] theorem mSeqN_ap : mSeqN m n s = thenN (m s) n := rfl
@[simp] theorem thenN_nx : thenN (some (.nx s)) n = n s := by unfold thenN; rw [Option.bind_some]
@[simp] theorem outQ_rt : outQ (.rt d s) = some d := by unfold outQ; rfl
def kSp1 (i : Nat) (mf : List D → Option D) (r : D → MM) : List D → MS → Option Out := fun ds s => bE (ret1 (mf ds) s) fun d s => if i < s.length then r d (s.set i none) else none
theorem mSpoil_ap (mf : List D → Option D) (r : D → MM) : mSpoil i mf as r s = bE (as s) (kSp1 i mf r) := by
  unfold mSpoil bE kSp1 bE ret1
  cases as s with
  | none => rfl
  | some q =>
    simp only [Option.bind_some]
    cases mf q.1 with
    | none => rfl
    | some d => simp only [Option.bind_some, Option.map_some]
def kSp2 (i : Nat) (r : D → MM) : D → MS → Option Out := fun d s => if i < s.length then r d (s.set i none) else none
@[simp] theorem kSp1_ap (mf : List D → Option D) (r : D → MM) : kSp1 i mf r ds s = bE (ret1 (mf ds) s) (kSp2 i r) := rfl
@[simp] theorem kSp2_ap (r : D → MM) : kSp2 i r d s = if i < s.length then r d (s.set i none) else none := rfl
def kGd (c : ME) (r : D → MM) (d : D) (s : MS) : Bool → MS → Option Out := fun p _ => if p = true then (c s).bind fun q => if isSc q.1 = true then some (.rt q.1 s) else none else r d s
@[simp] theorem pGd_ap (r : D → MM) : pGd i t a r d s = bE (t (s.set i (some d))) (kGd a r d s) := rfl
@[simp] theorem kGd_f (r : D → MM) : kGd a r d s false s1 = r d s := by unfold kGd; rw [if_neg Bool.false_ne_true]
@[simp] theorem pApp_ap (r : D → MM) : pApp j a r d s = thenN (mApp j a s) (r d) := rfl
def kEn (n : Nat) (d : D) : D → MS → Option Out := fun _ s => (partD d n).bind fun ds => if ds.length ≤ 1000000 then some (.nx s) else none
@[simp] theorem pEnd_ap (n : Nat) : pEnd n a d s = bE (a s) (kEn n d) := rfl
@[simp] theorem kEn_ap (n : Nat) : kEn n d x s = (partD d n).bind fun ds => if ds.length ≤ 1000000 then some (.nx s) else none := rfl
/-! keep -/
def kKT (s : MS) : Bool → MS → Option (Bool × MS) := fun p _ => some (p, s)
@[simp] theorem xKeepT_ap : xKeepT t s = bE (t s) (kKT s) := by
  unfold xKeepT bE kKT
  cases t s <;> rfl
@[simp] theorem kKT_ap : kKT s p s1 = some (p, s) := rfl
def kKS (s : MS) : D → MS → Option (D × MS) := fun d _ => if isSc d = true then some (d, s) else none
@[simp] theorem xKeepS_ap : xKeepS a s = bE (a s) (kKS s) := rfl
@[simp] theorem kKS_i (n : Int) : kKS s (.int n) s1 = some (.int n, s) := by unfold kKS isSc; simp
@[simp] theorem kKS_b : kKS s (.bool p) s1 = some (.bool p, s) := by unfold kKS isSc; simp
@[simp] theorem kKS_s (z : Str) : kKS s (.str z) s1 = some (.str z, s) := by unfold kKS isSc; simp
/-! range down, tuple, max with a default -/
def kR31 (b e : ME) : D → MS → Option (List D × MS) := fun p s => (b s).bind fun q => (e q.2).bind fun z => match p, q.1, z.1 with
  | .int i, .int j, .int k => if k = -1 ∧ ((i ≤ 1000000 ∧ -1000000 ≤ i) ∧ (j ≤ 1000000 ∧ -1000000 ≤ j)) then some (dRgD i j, z.2) else none
  | _, _, _ => none
def kR32 (p : D) (e : ME) : D → MS → Option (List D × MS) := fun q s => (e s).bind fun z => match p, q, z.1 with
  | .int i, .int j, .int k => if k = -1 ∧ ((i ≤ 1000000 ∧ -1000000 ≤ i) ∧ (j ≤ 1000000 ∧ -1000000 ≤ j)) then some (dRgD i j, z.2) else none
  | _, _, _ => none
def kR33 (p q : D) : D → MS → Option (List D × MS) := fun z s => match p, q, z with
  | .int i, .int j, .int k => if k = -1 ∧ ((i ≤ 1000000 ∧ -1000000 ≤ i) ∧ (j ≤ 1000000 ∧ -1000000 ≤ j)) then some (dRgD i j, s) else none
  | _, _, _ => none
@[simp] theorem xRg3_ap : xRg3 a b k s = bE (a s) (kR31 b k) := rfl
@[simp] theorem kR31_ap : kR31 b k x s = bE (b s) (kR32 x k) := rfl
@[simp] theorem kR32_ap : kR32 x k y s = bE (k s) (kR33 x y) := rfl
@[simp] theorem kR33_ap (i j k : Int) : kR33 (.int i) (.int j) (.int k) s = if k = -1 ∧ ((i ≤ 1000000 ∧ -1000000 ≤ i) ∧ (j ≤ 1000000 ∧ -1000000 ≤ j)) then some (dRgD i j, s) else none := rfl
def kTO : D → MS → Option (D × MS) := fun p s => match p with
  | .list ds => some (.tuple ds, s)
  | .tuple ds => some (.tuple ds, s)
  | _ => none
@[simp] theorem xTupOf_ap : xTupOf a s = bE (a s) kTO := rfl
@[simp] theorem kTO_l : kTO (.list ds) s = some (.tuple ds, s) := rfl
@[simp] theorem kTO_t : kTO (.tuple ds) s = some (.tuple ds, s) := rfl
def kMD1 (e : ME) : D → MS → Option (D × MS) := fun p s => (e s).bind fun q => (dMaxD p q.1).map fun z => (z, q.2)
def kMD2 (x : D) : D → MS → Option (D × MS) := fun q s => ret1 (dMaxD x q) s
@[simp] theorem xMaxD_ap : xMaxD a b s = bE (a s) (kMD1 b) := rfl
@[simp] theorem kMD1_ap : kMD1 b x s = bE (b s) (kMD2 x) := rfl
@[simp] theorem kMD2_ap : kMD2 x y s = ret1 (dMaxD x y) s := rfl
def mxD (dflt : Int) : List Int → Int
  | [] => dflt
  | a :: r => maxL a r
@[simp] theorem dMaxD_ints (ns : List Int) (n : Int) : dMaxD (.list (ns.map PyData.int)) (.int n) = some (.int (mxD n ns)) := by
  unfold dMaxD
  dsimp only
  rw [asInts_map]
  cases ns <;> rfl
end
/-! comprehensions of two clauses that draw nothing -/
section
variable {α β : Type} {vs vs1 : List Nat} {b b1 : D → MS → Option MS} {t t1 : MT} {e : ME} {src1 : MF}
theorem lcO_pure (enc : α → D) (zs : α → List D) {s : MS} : ∀ xs : List α, (∀ x ∈ xs, ∃ s1 ys s2 s3, b (enc x) s = some s1 ∧ t s1 = some (true, s1) ∧ src1 s1 = some (ys, s2) ∧ lcL vs1 b1 t1 e ys (wipeM s2 vs1) = some (zs x, s3) ∧ wipeM s3 vs = s) →
    lcO vs vs1 b t src1 b1 t1 e (xs.map enc) s = some (xs.flatMap zs, s)
  | [], _ => rfl
  | x :: r, h => by
    obtain ⟨s1, ys, s2, s3, h1, h2, h3, h4, h5⟩ := h x List.mem_cons_self
    have ih := lcO_pure enc zs r fun y hy => h y (List.mem_cons_of_mem _ hy)
    rw [List.map_cons, lcO, h1]
    simp only [Option.bind_some]
    rw [h2]
    simp only [Option.bind_some, if_true]
    rw [h3]
    simp only [Option.bind_some]
    rw [h4]
    simp only [Option.bind_some]
    rw [h5, ih]
    rfl
end
end Z


namespace Z
open PySem PySem.Spec PyProof.Rows L2
namespace Tk70
noncomputable section
section
variable {P : Program} {w : World} {K : PySem.W.Frag} {mg : Str → Option Value} {base : Heap}
def top (i : Nat) : Stmt := PySem.Challenge.pw_steadywires_k70_whole_steps_of_rows.main.body.getD i (.Pass ⟨0, 0, 0, 0⟩)
/-! ### is_whole -/
abbrev s_is_whole : Stmt := top 1
abbrev N_is_whole : List Str := ["value"]
theorem sc_is_whole : FnScope N_is_whole ["value"] (defScope s_is_whole) := ⟨rfl, rfl, rfl, by decide +kernel, rfl, by decide +kernel, by decide +kernel⟩
def mb_is_whole : MM := (mRet (xAndV (xT (xUn (dIsi "int") (xVar 0))) (xB (xNot (xT (xUn (dIsi "bool") (xVar 0)))))))
def m_is_whole : List D → Option D := fnP 1 1 mb_is_whole
theorem ok_is_whole {f : Addr} {fd : FuncData} (F : FnP K "is_whole" "is_whole" s_is_whole f fd) (b_isinstance : mg "isinstance" = none) (b_int : mg "int" = none) (b_bool : mg "bool" = none) : FnOk P w K mg base CX0 1 f fd ["value"] (spP K m_is_whole) :=
  fn_P F sc_is_whole rfl rfl fun A hr => have hu := u64 hr
  (sss_one (ss_ret (W := []) (tr_and (L0 := []) (tr_isi (L0 := []) (T := "int") rfl b_isinstance rfl b_int (by decide +kernel) (tr_var (i := 0) rfl rfl (by decide) (by decide))) (tr_one (tr_not (L0 := []) (tr_isi (L0 := []) (T := "bool") rfl b_isinstance rfl b_bool (by decide +kernel) (tr_var (i := 0) rfl rfl (by decide) (by decide)))))) (by decide)))
/-! ### are_wholes -/
abbrev s_are_wholes : Stmt := top 2
abbrev N_are_wholes : List Str := ["value", "number"]
theorem sc_are_wholes : FnScope N_are_wholes ["value"] (defScope s_are_wholes) := ⟨rfl, rfl, rfl, by decide +kernel, rfl, by decide +kernel, by decide +kernel⟩
def mb_are_wholes : MM := (mSeq (mIf (xNot (xTru (xUn (dIsi "list") (xVar 0)))) (mRet (xC (.bool false)))
  mSkip)
  (mRet (xFn dAll (xaCons (xLst (xLc (xSeq (xVar 0)) [1] (bName 1) xYes (xFn m_is_whole (xaCons (xVar 1) xaNil)))) xaNil))))
def m_are_wholes : List D → Option D := fnP 1 2 mb_are_wholes
theorem ok_are_wholes {f : Addr} {fd : FuncData} (F : FnP K "are_wholes" "are_wholes" s_are_wholes f fd) (b_isinstance : mg "isinstance" = none) (b_list : mg "list" = none) (b_all : mg "all" = none) (F_is_whole : FnAt P w K mg base 1 "is_whole" ["value"] (spP K m_is_whole)) : FnOk P w K mg base CX0 2 f fd ["value"] (spP K m_are_wholes) :=
  fn_P F sc_are_wholes rfl rfl fun A hr => have hu := u64 hr
  (sss_cons (O1 := []) (ss_if (W := []) (tt_not (tt_tru (L := []) (tr_isi (L0 := []) (T := "list") rfl b_isinstance rfl b_list (by decide +kernel) (tr_var (i := 0) rfl rfl (by decide) (by decide))))) (sss_one (ss_ret (W := []) tr_bl (by decide)))
  sss_nil (by decide))
  (sss_one (ss_ret (W := []) (tr_all (L0 := []) rfl b_all (ta_cons (tr_F (by decide) (tf_lc [("number", 1)] (ti_E (by decide) (tr_var (i := 0) rfl rfl (by decide) (by decide))) rfl (tg_name (i := 1) rfl rfl (by decide) (by decide)) tts_nil (tr_call F_is_whole (hr.mono (by decide)) rfl (ta_cons (tr_var (i := 1) rfl rfl (by decide) (by decide)) ta_nil (by decide)) (by decide)) (by decide) (by decide) (by decide))) ta_nil (by decide))) (by decide))))
/-! ### are_between -/
abbrev s_are_between : Stmt := top 3
abbrev N_are_between : List Str := ["value", "least", "most", "number"]
theorem sc_are_between : FnScope N_are_between ["value", "least", "most"] (defScope s_are_between) := ⟨rfl, rfl, rfl, by decide +kernel, rfl, by decide +kernel, by decide +kernel⟩
def mb_are_between : MM := (mSeq (mIf (xNot (xTru (xFn m_are_wholes (xaCons (xVar 0) xaNil)))) (mRet (xC (.bool false)))
  mSkip)
  (mRet (xFn dAll (xaCons (xLst (xLc (xSeq (xVar 0)) [3] (bName 3) xYes (xChain dLe dLe (xVar 1) (xVar 3) (xVar 2)))) xaNil))))
def m_are_between : List D → Option D := fnP 3 4 mb_are_between
theorem ok_are_between {f : Addr} {fd : FuncData} (F : FnP K "are_between" "are_between" s_are_between f fd) (b_all : mg "all" = none) (F_are_wholes : FnAt P w K mg base 2 "are_wholes" ["value"] (spP K m_are_wholes)) : FnOk P w K mg base CX0 3 f fd ["value", "least", "most"] (spP K m_are_between) :=
  fn_P F sc_are_between rfl rfl fun A hr => have hu := u64 hr
  (sss_cons (O1 := []) (ss_if (W := []) (tt_not (tt_tru (L := []) (tr_call F_are_wholes (hr.mono (by decide)) rfl (ta_cons (tr_var (i := 0) rfl rfl (by decide) (by decide)) ta_nil (by decide)) (by decide)))) (sss_one (ss_ret (W := []) tr_bl (by decide)))
  sss_nil (by decide))
  (sss_one (ss_ret (W := []) (tr_all (L0 := []) rfl b_all (ta_cons (tr_F (by decide) (tf_lc [("number", 3)] (ti_E (by decide) (tr_var (i := 0) rfl rfl (by decide) (by decide))) rfl (tg_name (i := 3) rfl rfl (by decide) (by decide)) tts_nil (tr_chain (L0 := []) ho_le rs_le ho_le rs_le (tr_var (i := 1) rfl rfl (by decide) (by decide)) (tr_var (i := 3) rfl rfl (by decide) (by decide)) (tr_var (i := 2) rfl rfl (by decide) (by decide)) (by decide)) (by decide) (by decide) (by decide))) ta_nil (by decide))) (by decide))))
/-! ### is_rising -/
abbrev s_is_rising : Stmt := top 4
abbrev N_is_rising : List Str := ["numbers", "at"]
theorem sc_is_rising : FnScope N_is_rising ["numbers"] (defScope s_is_rising) := ⟨rfl, rfl, rfl, by decide +kernel, rfl, by decide +kernel, by decide +kernel⟩
def mb_is_rising : MM := (mRet (xFn dAll (xaCons (xLst (xLc (xRg2 (xC (.int 1)) (xFn dLen (xaCons (xVar 0) xaNil))) [1] (bName 1) xYes (xOp dLt (xOp dIx (xVar 0) (xOp dSub (xVar 1) (xC (.int 1)))) (xOp dIx (xVar 0) (xVar 1))))) xaNil)))
def m_is_rising : List D → Option D := fnP 1 2 mb_is_rising
theorem ok_is_rising {f : Addr} {fd : FuncData} (F : FnP K "is_rising" "is_rising" s_is_rising f fd) (b_all : mg "all" = none) (b_range : mg "range" = none) (b_len : mg "len" = none) : FnOk P w K mg base CX0 1 f fd ["numbers"] (spP K m_is_rising) :=
  fn_P F sc_is_rising rfl rfl fun A hr => have hu := u64 hr
  (sss_one (ss_ret (W := []) (tr_all (L0 := []) rfl b_all (ta_cons (tr_F (by decide) (tf_lc [("at", 1)] (ti_rng2 (L0 := []) rfl b_range tr_int (tr_len (L0 := []) rfl b_len (ta_cons (tr_var (i := 0) rfl rfl (by decide) (by decide)) ta_nil (by decide)))) rfl (tg_name (i := 1) rfl rfl (by decide) (by decide)) tts_nil (tr_cmp (L0 := []) ho_lt rs_lt (tr_ix (tr_var (i := 0) rfl rfl (by decide) (by decide)) (tr_opS (L0 := []) ho_sub rs_sub (tr_var (i := 1) rfl rfl (by decide) (by decide)) tr_int (by decide)) (by decide) (by decide)) (tr_ix (tr_var (i := 0) rfl rfl (by decide) (by decide)) (tr_var (i := 1) rfl rfl (by decide) (by decide)) (by decide) (by decide)) (by decide) rfl) (by decide) (by decide) (by decide))) ta_nil (by decide))) (by decide)))
/-! ### are_lists_of_wholes -/
abbrev s_are_lists_of_wholes : Stmt := top 5
abbrev N_are_lists_of_wholes : List Str := ["value", "row"]
theorem sc_are_lists_of_wholes : FnScope N_are_lists_of_wholes ["value"] (defScope s_are_lists_of_wholes) := ⟨rfl, rfl, rfl, by decide +kernel, rfl, by decide +kernel, by decide +kernel⟩
def mb_are_lists_of_wholes : MM := (mSeq (mIf (xNot (xTru (xUn (dIsi "list") (xVar 0)))) (mRet (xC (.bool false)))
  mSkip)
  (mRet (xFn dAll (xaCons (xLst (xLc (xSeq (xVar 0)) [1] (bName 1) xYes (xFn m_are_wholes (xaCons (xVar 1) xaNil)))) xaNil))))
def m_are_lists_of_wholes : List D → Option D := fnP 1 2 mb_are_lists_of_wholes
theorem ok_are_lists_of_wholes {f : Addr} {fd : FuncData} (F : FnP K "are_lists_of_wholes" "are_lists_of_wholes" s_are_lists_of_wholes f fd) (b_isinstance : mg "isinstance" = none) (b_list : mg "list" = none) (b_all : mg "all" = none) (F_are_wholes : FnAt P w K mg base 2 "are_wholes" ["value"] (spP K m_are_wholes)) : FnOk P w K mg base CX0 3 f fd ["value"] (spP K m_are_lists_of_wholes) :=
  fn_P F sc_are_lists_of_wholes rfl rfl fun A hr => have hu := u64 hr
  (sss_cons (O1 := []) (ss_if (W := []) (tt_not (tt_tru (L := []) (tr_isi (L0 := []) (T := "list") rfl b_isinstance rfl b_list (by decide +kernel) (tr_var (i := 0) rfl rfl (by decide) (by decide))))) (sss_one (ss_ret (W := []) tr_bl (by decide)))
  sss_nil (by decide))
  (sss_one (ss_ret (W := []) (tr_all (L0 := []) rfl b_all (ta_cons (tr_F (by decide) (tf_lc [("row", 1)] (ti_E (by decide) (tr_var (i := 0) rfl rfl (by decide) (by decide))) rfl (tg_name (i := 1) rfl rfl (by decide) (by decide)) tts_nil (tr_call F_are_wholes (hr.mono (by decide)) rfl (ta_cons (tr_var (i := 1) rfl rfl (by decide) (by decide)) ta_nil (by decide)) (by decide)) (by decide) (by decide) (by decide))) ta_nil (by decide))) (by decide))))
/-! ### slots_of -/
abbrev s_slots_of : Stmt := top 7
abbrev N_slots_of : List Str := ["row"]
theorem sc_slots_of : FnScope N_slots_of ["row"] (defScope s_slots_of) := ⟨rfl, rfl, rfl, by decide +kernel, rfl, by decide +kernel, by decide +kernel⟩
def mb_slots_of : MM := (mSeq (mIf (xT (xOp dEq (xOp dIx (xVar 0) (xC (.int 0))) (xC (.str "turn")))) (mRet (xOp dIx (xVar 0) (xC (.int 2))))
  mSkip)
  (mSeq (mIf (xT (xOp dEq (xOp dIx (xVar 0) (xC (.int 0))) (xC (.str "fix")))) (mRet (xLst (xDisp (xaCons (xOp dIx (xVar 0) (xC (.int 2))) xaNil))))
  mSkip)
  (mRet (xLst (xDisp (xaCons (xOp dIx (xVar 0) (xC (.int 1))) xaNil))))))
def m_slots_of : List D → Option D := fnP 1 1 mb_slots_of
theorem ok_slots_of {f : Addr} {fd : FuncData} (F : FnP K "slots_of" "slots_of" s_slots_of f fd) : FnOk P w K mg base CX0 1 f fd ["row"] (spP K m_slots_of) :=
  fn_P F sc_slots_of rfl rfl fun A hr => have hu := u64 hr
  (sss_cons (O1 := []) (ss_if (W := []) (tt_cmp (L0 := []) (ho_eq hu) rs_eq (tr_ix (tr_var (i := 0) rfl rfl (by decide) (by decide)) tr_int (by decide) (by decide)) tr_str (by decide) rfl) (sss_one (ss_ret (W := []) (tr_ix (tr_var (i := 0) rfl rfl (by decide) (by decide)) tr_int (by decide) (by decide)) (by decide)))
  sss_nil (by decide))
  (sss_cons (O1 := []) (ss_if (W := []) (tt_cmp (L0 := []) (ho_eq hu) rs_eq (tr_ix (tr_var (i := 0) rfl rfl (by decide) (by decide)) tr_int (by decide) (by decide)) tr_str (by decide) rfl) (sss_one (ss_ret (W := []) (tr_F (by decide) (tf_disp (ta_cons (tr_ix (tr_var (i := 0) rfl rfl (by decide) (by decide)) tr_int (by decide) (by decide)) ta_nil (by decide)) (by decide))) (by decide)))
  sss_nil (by decide))
  (sss_one (ss_ret (W := []) (tr_F (by decide) (tf_disp (ta_cons (tr_ix (tr_var (i := 0) rfl rfl (by decide) (by decide)) tr_int (by decide) (by decide)) ta_nil (by decide)) (by decide))) (by decide)))))
/-! ### do_share -/
abbrev s_do_share : Stmt := top 9
abbrev N_do_share : List Str := ["one", "other", "slot"]
theorem sc_do_share : FnScope N_do_share ["one", "other"] (defScope s_do_share) := ⟨rfl, rfl, rfl, by decide +kernel, rfl, by decide +kernel, by decide +kernel⟩
def mb_do_share : MM := (mRet (xFn dAny (xaCons (xLst (xLc (xSeq (xFn m_slots_of (xaCons (xVar 0) xaNil))) [2] (bName 2) xYes (xOp (dIn false) (xVar 2) (xFn m_slots_of (xaCons (xVar 1) xaNil))))) xaNil)))
def m_do_share : List D → Option D := fnP 2 3 mb_do_share
theorem ok_do_share {f : Addr} {fd : FuncData} (F : FnP K "do_share" "do_share" s_do_share f fd) (b_any : mg "any" = none) (F_slots_of : FnAt P w K mg base 1 "slots_of" ["row"] (spP K m_slots_of)) : FnOk P w K mg base CX0 2 f fd ["one", "other"] (spP K m_do_share) :=
  fn_P F sc_do_share rfl rfl fun A hr => have hu := u64 hr
  (sss_one (ss_ret (W := []) (tr_any (L0 := []) rfl b_any (ta_cons (tr_F (by decide) (tf_lc [("slot", 2)] (ti_E (by decide) (tr_call F_slots_of (hr.mono (by decide)) rfl (ta_cons (tr_var (i := 0) rfl rfl (by decide) (by decide)) ta_nil (by decide)) (by decide))) rfl (tg_name (i := 2) rfl rfl (by decide) (by decide)) tts_nil (tr_cmp (L0 := []) ho_in (rs_in false) (tr_var (i := 2) rfl rfl (by decide) (by decide)) (tr_call F_slots_of (hr.mono (by decide)) rfl (ta_cons (tr_var (i := 1) rfl rfl (by decide) (by decide)) ta_nil (by decide)) (by decide)) (by decide) rfl) (by decide) (by decide) (by decide))) ta_nil (by decide))) (by decide)))
/-! ### reads_for -/
abbrev s_reads_for : Stmt := top 11
abbrev N_reads_for : List Str := ["one", "other"]
theorem sc_reads_for : FnScope N_reads_for ["one", "other"] (defScope s_reads_for) := ⟨rfl, rfl, rfl, by decide +kernel, rfl, by decide +kernel, by decide +kernel⟩
def mb_reads_for : MM := (mRet (xAndV (xT (xOp dEq (xOp dIx (xVar 0) (xC (.int 0))) (xC (.str "read")))) (xAndV (xT (xOp dEq (xOp dIx (xVar 1) (xC (.int 0))) (xC (.str "fix")))) (xOp (dIn false) (xOp dIx (xVar 0) (xC (.int 2))) (xOp dIx (xVar 1) (xC (.int 3)))))))
def m_reads_for : List D → Option D := fnP 2 2 mb_reads_for
theorem ok_reads_for {f : Addr} {fd : FuncData} (F : FnP K "reads_for" "reads_for" s_reads_for f fd) : FnOk P w K mg base CX0 1 f fd ["one", "other"] (spP K m_reads_for) :=
  fn_P F sc_reads_for rfl rfl fun A hr => have hu := u64 hr
  (sss_one (ss_ret (W := []) (tr_and (L0 := []) (tr_cmp (L0 := []) (ho_eq hu) rs_eq (tr_ix (tr_var (i := 0) rfl rfl (by decide) (by decide)) tr_int (by decide) (by decide)) tr_str (by decide) rfl) (tr_and (L0 := []) (tr_cmp (L0 := []) (ho_eq hu) rs_eq (tr_ix (tr_var (i := 1) rfl rfl (by decide) (by decide)) tr_int (by decide) (by decide)) tr_str (by decide) rfl) (tr_one (tr_cmp (L0 := []) ho_in (rs_in false) (tr_ix (tr_var (i := 0) rfl rfl (by decide) (by decide)) tr_int (by decide) (by decide)) (tr_ix (tr_var (i := 1) rfl rfl (by decide) (by decide)) tr_int (by decide) (by decide)) (by decide) rfl)))) (by decide)))
/-! ### hang_together -/
abbrev s_hang_together : Stmt := top 12
abbrev N_hang_together : List Str := ["one", "other", "kinds"]
theorem sc_hang_together : FnScope N_hang_together ["one", "other"] (defScope s_hang_together) := ⟨rfl, rfl, rfl, by decide +kernel, rfl, by decide +kernel, by decide +kernel⟩
def mb_hang_together : MM := (mSeq (mSet 2 (xTup (xaCons (xOp dIx (xVar 0) (xC (.int 0))) (xaCons (xOp dIx (xVar 1) (xC (.int 0))) xaNil))))
  (mSeq (mIf (xT (xOp (dInX false) (xVar 2) (xTup (xaCons (xTup (xaCons (xC (.str "read")) (xaCons (xC (.str "read")) xaNil))) (xaCons (xTup (xaCons (xC (.str "read")) (xaCons (xC (.str "new")) xaNil))) (xaCons (xTup (xaCons (xC (.str "new")) (xaCons (xC (.str "read")) xaNil))) xaNil)))))) (mRet (xC (.bool true)))
  mSkip)
  (mRet (xOrV (xT (xFn m_do_share (xaCons (xVar 0) (xaCons (xVar 1) xaNil)))) (xOrV (xT (xFn m_reads_for (xaCons (xVar 0) (xaCons (xVar 1) xaNil)))) (xFn m_reads_for (xaCons (xVar 1) (xaCons (xVar 0) xaNil))))))))
def m_hang_together : List D → Option D := fnP 2 3 mb_hang_together
theorem ok_hang_together {f : Addr} {fd : FuncData} (F : FnP K "hang_together" "hang_together" s_hang_together f fd) (F_do_share : FnAt P w K mg base 2 "do_share" ["one", "other"] (spP K m_do_share)) (F_reads_for : FnAt P w K mg base 1 "reads_for" ["one", "other"] (spP K m_reads_for)) : FnOk P w K mg base CX0 3 f fd ["one", "other"] (spP K m_hang_together) :=
  fn_P F sc_hang_together rfl rfl fun A hr => have hu := u64 hr
  (sss_cons (O1 := []) (ss_set (W := []) (i := 2) (O' := []) rfl rfl (tr_tup (ta_cons (tr_ix (tr_var (i := 0) rfl rfl (by decide) (by decide)) tr_int (by decide) (by decide)) (ta_cons (tr_ix (tr_var (i := 1) rfl rfl (by decide) (by decide)) tr_int (by decide) (by decide)) ta_nil (by decide)) (by decide)) (by decide)) (by decide) (by decide) (by decide) (by decide))
  (sss_cons (O1 := []) (ss_if (W := []) (tt_cmp (L0 := []) (ho_inX (u65 hr)) (rs_inX false) (tr_var (i := 2) rfl rfl (by decide) (by decide)) (tr_tup (ta_cons (tr_tup (ta_cons tr_str (ta_cons tr_str ta_nil (by decide)) (by decide)) (by decide)) (ta_cons (tr_tup (ta_cons tr_str (ta_cons tr_str ta_nil (by decide)) (by decide)) (by decide)) (ta_cons (tr_tup (ta_cons tr_str (ta_cons tr_str ta_nil (by decide)) (by decide)) (by decide)) ta_nil (by decide)) (by decide)) (by decide)) (by decide)) (by decide) rfl) (sss_one (ss_ret (W := []) tr_bl (by decide)))
  sss_nil (by decide))
  (sss_one (ss_ret (W := []) (tr_or (L0 := []) (tr_call F_do_share (hr.mono (by decide)) rfl (ta_cons (tr_var (i := 0) rfl rfl (by decide) (by decide)) (ta_cons (tr_var (i := 1) rfl rfl (by decide) (by decide)) ta_nil (by decide)) (by decide)) (by decide)) (tr_or (L0 := []) (tr_call F_reads_for (hr.mono (by decide)) rfl (ta_cons (tr_var (i := 0) rfl rfl (by decide) (by decide)) (ta_cons (tr_var (i := 1) rfl rfl (by decide) (by decide)) ta_nil (by decide)) (by decide)) (by decide)) (tr_one (tr_call F_reads_for (hr.mono (by decide)) rfl (ta_cons (tr_var (i := 1) rfl rfl (by decide) (by decide)) (ta_cons (tr_var (i := 0) rfl rfl (by decide) (by decide)) ta_nil (by decide)) (by decide)) (by decide))))) (by decide)))))
/-! ### levels_of -/
abbrev s_levels_of : Stmt := top 13
abbrev N_levels_of : List Str := ["core", "levels", "rows", "at", "row", "k"]
theorem sc_levels_of : FnScope N_levels_of ["core"] (defScope s_levels_of) := ⟨rfl, rfl, rfl, by decide +kernel, rfl, by decide +kernel, by decide +kernel⟩
def mb_levels_of : MM := (mSeq (mSetF 1 (xDisp xaNil))
  (mSeq (mSet 2 (xOp dIx (xVar 0) (xC (.int 1))))
  (mSeq (mFor (xEnum (xItemsLS (xVar 2))) (bTup 2 (bCons (bName 3) (bCons (bName 4) bNil))) (mForget [3, 4] (mApp 1 (xMaxD (xLst (xLc (xRg1 (xVar 3)) [5] (bName 5) (xTru (xFn m_hang_together (xaCons (xOp dIx (xVar 2) (xVar 5)) (xaCons (xVar 4) xaNil)))) (xOp dAdd (xIxOwn 1 (xVar 5)) (xC (.int 1))))) (xC (.int 0))))))
  (mRet (xLst (xOwn 1))))))
def m_levels_of : List D → Option (List D) := fnL 1 6 mb_levels_of
theorem ok_levels_of {f : Addr} {fd : FuncData} (F : FnP K "levels_of" "levels_of" s_levels_of f fd) (b_enumerate : mg "enumerate" = none) (b_max : mg "max" = none) (b_range : mg "range" = none) (F_hang_together : FnAt P w K mg base 3 "hang_together" ["one", "other"] (spP K m_hang_together)) : FnOk P w K mg base CX0 4 f fd ["core"] (spL K m_levels_of) :=
  fn_L F sc_levels_of rfl rfl fun A hr => have hu := u64 hr
  (sss_cons (O1 := [1]) (ss_setF (W := []) (i := 1) (O' := [1]) rfl rfl (tf_disp ta_nil (by decide)) (by decide) (by decide) (by decide) (by decide))
  (sss_cons (O1 := [1]) (ss_set (W := []) (i := 2) (O' := [1]) rfl rfl (tr_ix (tr_var (i := 0) rfl rfl (by decide) (by decide)) tr_int (by decide) (by decide)) (by decide) (by decide) (by decide) (by decide))
  (sss_cons (O1 := [1]) (ss_for (W := []) (vs := [3, 4]) (ti_enumG rfl b_enumerate (tr_var (i := 2) rfl rfl (by decide) (by decide))) (tg_tup (tgs_cons (tg_name (i := 3) rfl rfl (by decide) (by decide)) (tgs_cons (tg_name (i := 4) rfl rfl (by decide) (by decide)) tgs_nil (by decide)) (by decide))) (sss_forget [3, 4] (sss_one (ss_app (W := []) (i := 1) rfl rfl (by decide) (tr_maxD (L0 := []) rfl b_max (tr_F (by decide) (tf_lc [("k", 5)] (ti_rng1 (L0 := []) rfl b_range (tr_var (i := 3) rfl rfl (by decide) (by decide))) rfl (tg_name (i := 5) rfl rfl (by decide) (by decide)) (tts_one (tt_tru (L := []) (tr_call F_hang_together (hr.mono (by decide)) rfl (ta_cons (tr_ix (tr_var (i := 2) rfl rfl (by decide) (by decide)) (tr_var (i := 5) rfl rfl (by decide) (by decide)) (by decide) (by decide)) (ta_cons (tr_var (i := 4) rfl rfl (by decide) (by decide)) ta_nil (by decide)) (by decide)) (by decide)))) (tr_opS (L0 := []) ho_add rs_add (tr_ixOwn (L0 := []) (i := 1) rfl rfl (by decide) (by decide) (tr_var (i := 5) rfl rfl (by decide) (by decide))) tr_int (by decide)) (by decide) (by decide) (by decide))) tr_int (by decide)) (by decide))) (by decide)) (by decide) (by decide))
  (sss_one (ss_retO (i := 1) rfl rfl (by decide) (by decide))))))
/-! ### steps_of -/
abbrev s_steps_of : Stmt := top 14
abbrev N_steps_of : List Str := ["core", "levels", "level", "at", "own"]
theorem sc_steps_of : FnScope N_steps_of ["core"] (defScope s_steps_of) := ⟨rfl, rfl, rfl, by decide +kernel, rfl, by decide +kernel, by decide +kernel⟩
def mb_steps_of : MM := (mSeq (mSet 1 (xLst (xfMap m_levels_of (xaCons (xVar 0) xaNil))))
  (mRetF (xLc (xRg1 (xOp dAdd (xMaxD (xVar 1) (xUn dNeg (xC (.int 1)))) (xC (.int 1)))) [2] (bName 2) xYes (xLst (xLc (xEnum (xList (xVar 1))) [3, 4] (bTup 2 (bCons (bName 3) (bCons (bName 4) bNil))) (xT (xOp dEq (xVar 4) (xVar 2))) (xVar 3))))))
def m_steps_of : List D → Option (List D) := fnL 1 5 mb_steps_of
theorem ok_steps_of {f : Addr} {fd : FuncData} (F : FnP K "steps_of" "steps_of" s_steps_of f fd) (b_range : mg "range" = none) (b_max : mg "max" = none) (b_enumerate : mg "enumerate" = none) (F_levels_of : FnAt P w K mg base 4 "levels_of" ["core"] (spL K m_levels_of)) : FnOk P w K mg base CX0 5 f fd ["core"] (spL K m_steps_of) :=
  fn_L F sc_steps_of rfl rfl fun A hr => have hu := u64 hr
  (sss_cons (O1 := []) (ss_setFu (W := []) (i := 1) (O' := []) rfl rfl (tf_call F_levels_of (hr.mono (by decide)) rfl (ta_cons (tr_var (i := 0) rfl rfl (by decide) (by decide)) ta_nil (by decide)) (by decide) (by decide)) (by decide) (by decide) (by decide) (by decide))
  (sss_one (ss_retF (W := []) (tf_lc [("level", 2)] (ti_rng1 (L0 := []) rfl b_range (tr_opS (L0 := []) ho_add rs_add (tr_maxD (L0 := []) rfl b_max (tr_var (i := 1) rfl rfl (by decide) (by decide)) (tr_neg (L0 := []) tr_int) (by decide)) tr_int (by decide))) rfl (tg_name (i := 2) rfl rfl (by decide) (by decide)) tts_nil (tr_F (by decide) (tf_lc [("at", 3), ("own", 4)] (ti_enum rfl b_enumerate (tz_E (tr_var (i := 1) rfl rfl (by decide) (by decide)))) rfl (tg_tup (tgs_cons (tg_name (i := 3) rfl rfl (by decide) (by decide)) (tgs_cons (tg_name (i := 4) rfl rfl (by decide) (by decide)) tgs_nil (by decide)) (by decide))) (tts_one (tt_cmp (L0 := []) (ho_eq hu) rs_eq (tr_var (i := 4) rfl rfl (by decide) (by decide)) (tr_var (i := 2) rfl rfl (by decide) (by decide)) (by decide) rfl)) (tr_var (i := 3) rfl rfl (by decide) (by decide)) (by decide) (by decide) (by decide))) (by decide) (by decide) (by decide)) (by decide))))
/-! ### heights_of -/
abbrev s_heights_of : Stmt := top 15
abbrev N_heights_of : List Str := ["core", "rows", "heights", "at", "behind", "k"]
theorem sc_heights_of : FnScope N_heights_of ["core"] (defScope s_heights_of) := ⟨rfl, rfl, rfl, by decide +kernel, rfl, by decide +kernel, by decide +kernel⟩
def mb_heights_of : MM := (mSeq (mSet 1 (xOp dIx (xVar 0) (xC (.int 1))))
  (mSeq (mSetF 2 (xRep (xDisp (xaCons (xC (.int 1)) xaNil)) (xFn dLen (xaCons (xVar 1) xaNil))))
  (mSeq (mFor (xRg3 (xOp dSub (xFn dLen (xaCons (xVar 1) xaNil)) (xC (.int 1))) (xUn dNeg (xC (.int 1))) (xUn dNeg (xC (.int 1)))) (bName 3) (mForget [3, 4] (mSeq (mSet 4 (xLst (xLc (xRg2 (xOp dAdd (xVar 3) (xC (.int 1))) (xFn dLen (xaCons (xVar 1) xaNil))) [5] (bName 5) (xTru (xFn m_hang_together (xaCons (xOp dIx (xVar 1) (xVar 3)) (xaCons (xOp dIx (xVar 1) (xVar 5)) xaNil)))) (xIxOwn 2 (xVar 5)))))
  (mSetIx 2 (xOp dAdd (xC (.int 1)) (xMaxD (xVar 4) (xC (.int 0)))) (xVar 3)))))
  (mRet (xLst (xOwn 2))))))
def m_heights_of : List D → Option (List D) := fnL 1 6 mb_heights_of
theorem ok_heights_of {f : Addr} {fd : FuncData} (F : FnP K "heights_of" "heights_of" s_heights_of f fd) (b_len : mg "len" = none) (b_range : mg "range" = none) (b_max : mg "max" = none) (F_hang_together : FnAt P w K mg base 3 "hang_together" ["one", "other"] (spP K m_hang_together)) : FnOk P w K mg base CX0 4 f fd ["core"] (spL K m_heights_of) :=
  fn_L F sc_heights_of rfl rfl fun A hr => have hu := u64 hr
  (sss_cons (O1 := []) (ss_set (W := []) (i := 1) (O' := []) rfl rfl (tr_ix (tr_var (i := 0) rfl rfl (by decide) (by decide)) tr_int (by decide) (by decide)) (by decide) (by decide) (by decide) (by decide))
  (sss_cons (O1 := [2]) (ss_setF (W := []) (i := 2) (O' := [2]) rfl rfl (tf_rep (L0 := []) (tf_disp (ta_cons tr_int ta_nil (by decide)) (by decide)) (tr_len (L0 := []) rfl b_len (ta_cons (tr_var (i := 1) rfl rfl (by decide) (by decide)) ta_nil (by decide))) (by decide) (by decide)) (by decide) (by decide) (by decide) (by decide))
  (sss_cons (O1 := [2]) (ss_for (W := []) (vs := [3]) (ti_rng3 (L0 := []) rfl b_range (tr_opS (L0 := []) ho_sub rs_sub (tr_len (L0 := []) rfl b_len (ta_cons (tr_var (i := 1) rfl rfl (by decide) (by decide)) ta_nil (by decide))) tr_int (by decide)) (tr_neg (L0 := []) tr_int) (tr_neg (L0 := []) tr_int)) (tg_name (i := 3) rfl rfl (by decide) (by decide)) (sss_forget [3, 4] (sss_cons (O1 := [2]) (ss_setLcU (W := []) (O' := [2]) (setLc_t (W := []) (i := 4) [("k", 5)] rfl rfl rfl (ti_rng2 (L0 := []) rfl b_range (tr_opS (L0 := []) ho_add rs_add (tr_var (i := 3) rfl rfl (by decide) (by decide)) tr_int (by decide)) (tr_len (L0 := []) rfl b_len (ta_cons (tr_var (i := 1) rfl rfl (by decide) (by decide)) ta_nil (by decide)))) rfl (tg_name (i := 5) rfl rfl (by decide) (by decide)) (tts_one (tt_tru (L := []) (tr_call F_hang_together (hr.mono (by decide)) rfl (ta_cons (tr_ix (tr_var (i := 1) rfl rfl (by decide) (by decide)) (tr_var (i := 3) rfl rfl (by decide) (by decide)) (by decide) (by decide)) (ta_cons (tr_ix (tr_var (i := 1) rfl rfl (by decide) (by decide)) (tr_var (i := 5) rfl rfl (by decide) (by decide)) (by decide) (by decide)) ta_nil (by decide)) (by decide)) (by decide)))) (tr_ixOwn (L0 := []) (i := 2) rfl rfl (by decide) (by decide) (tr_var (i := 5) rfl rfl (by decide) (by decide))) (by decide) (by decide)) (by decide) (by decide) (by decide) (by decide))
  (sss_one (ss_setIx (W := []) (L0 := []) (i := 2) rfl rfl (by decide) (tr_opS (L0 := []) ho_add rs_add tr_int (tr_maxD (L0 := []) rfl b_max (tr_var (i := 4) rfl rfl (by decide) (by decide)) tr_int (by decide)) (by decide)) (tr_var (i := 3) rfl rfl (by decide) (by decide)) (by decide)))) (by decide)) (by decide) (by decide))
  (sss_one (ss_retO (i := 2) rfl rfl (by decide) (by decide))))))
/-! ### depth_told -/
abbrev s_depth_told : Stmt := top 16
abbrev N_depth_told : List Str := ["core", "rows", "heights", "depth", "chain", "at", "height", "hangs"]
theorem sc_depth_told : FnScope N_depth_told ["core"] (defScope s_depth_told) := ⟨rfl, rfl, rfl, by decide +kernel, rfl, by decide +kernel, by decide +kernel⟩
def mb_depth_told : MM := (mSeqN (mSet 1 (xOp dIx (xVar 0) (xC (.int 1))))
  (mSeqN (mSet 2 (xLst (xfMap m_heights_of (xaCons (xVar 0) xaNil))))
  (mSeqN (mSet 3 (xMaxD (xVar 2) (xC (.int 0))))
  (mSeqN (mSetF 4 (xDisp xaNil))
  (mSeqN (mFor (xEnum (xList (xVar 2))) (bTup 2 (bCons (bName 5) (bCons (bName 6) bNil))) (mForget [5, 6, 7] (mSeq (mSet 7 (xOrV (xT (xOp dEq (xVar 4) (xLst (xDisp xaNil)))) (xFn m_hang_together (xaCons (xOp dIx (xVar 1) (xIxOwn 4 (xUn dNeg (xC (.int 1))))) (xaCons (xOp dIx (xVar 1) (xVar 5)) xaNil)))))
  (mIf (xAnd (xT (xOp dEq (xVar 6) (xOp dSub (xVar 3) (xFn dLen (xaCons (xVar 4) xaNil))))) (xTru (xVar 7))) (mApp 4 (xVar 5))
  mSkip))))
  (mRet (xTup (xaCons (xVar 3) (xaCons (xLst (xOwn 4)) xaNil)))))))))
def m_depth_told : List D → Option D := fnQ 1 8 mb_depth_told
theorem ok_depth_told {f : Addr} {fd : FuncData} (F : FnP K "depth_told" "depth_told" s_depth_told f fd) (b_max : mg "max" = none) (b_enumerate : mg "enumerate" = none) (b_len : mg "len" = none) (F_heights_of : FnAt P w K mg base 4 "heights_of" ["core"] (spL K m_heights_of)) (F_hang_together : FnAt P w K mg base 3 "hang_together" ["one", "other"] (spP K m_hang_together)) : FnOk P w K mg base CX0 5 f fd ["core"] (spQ K 1 m_depth_told) :=
  fn_Q F sc_depth_told rfl rfl fun A hr => have hu := u64 hr
  (te_cons' (O1 := []) (ss_set (W := []) (i := 1) (O' := []) rfl rfl (tr_ix (tr_var (i := 0) rfl rfl (by decide) (by decide)) tr_int (by decide) (by decide)) (by decide) (by decide) (by decide) (by decide))
  (te_cons' (O1 := []) (ss_setFu (W := []) (i := 2) (O' := []) rfl rfl (tf_call F_heights_of (hr.mono (by decide)) rfl (ta_cons (tr_var (i := 0) rfl rfl (by decide) (by decide)) ta_nil (by decide)) (by decide) (by decide)) (by decide) (by decide) (by decide) (by decide))
  (te_cons' (O1 := []) (ss_set (W := []) (i := 3) (O' := []) rfl rfl (tr_maxD (L0 := []) rfl b_max (tr_var (i := 2) rfl rfl (by decide) (by decide)) tr_int (by decide)) (by decide) (by decide) (by decide) (by decide))
  (te_cons' (O1 := [4]) (ss_setF (W := []) (i := 4) (O' := [4]) rfl rfl (tf_disp ta_nil (by decide)) (by decide) (by decide) (by decide) (by decide))
  (te_cons' (O1 := [4]) (ss_for (W := []) (vs := [5, 6]) (ti_enum rfl b_enumerate (tz_E (tr_var (i := 2) rfl rfl (by decide) (by decide)))) (tg_tup (tgs_cons (tg_name (i := 5) rfl rfl (by decide) (by decide)) (tgs_cons (tg_name (i := 6) rfl rfl (by decide) (by decide)) tgs_nil (by decide)) (by decide))) (sss_forget [5, 6, 7] (sss_cons (O1 := [4]) (ss_set (W := []) (i := 7) (O' := [4]) rfl rfl (tr_or (L0 := []) (tr_cmp (L0 := []) (ho_eq hu) rs_eq (tr_var (i := 4) rfl rfl (by decide) (by decide)) (tr_F (by decide) (tf_disp ta_nil (by decide))) (by decide) rfl) (tr_one (tr_call F_hang_together (hr.mono (by decide)) rfl (ta_cons (tr_ix (tr_var (i := 1) rfl rfl (by decide) (by decide)) (tr_ixOwn (L0 := []) (i := 4) rfl rfl (by decide) (by decide) (tr_neg (L0 := []) tr_int)) (by decide) (by decide)) (ta_cons (tr_ix (tr_var (i := 1) rfl rfl (by decide) (by decide)) (tr_var (i := 5) rfl rfl (by decide) (by decide)) (by decide) (by decide)) ta_nil (by decide)) (by decide)) (by decide)))) (by decide) (by decide) (by decide) (by decide))
  (sss_one (ss_if (W := []) (tt_W (tw_and (tt_cmp (L0 := []) (ho_eq hu) rs_eq (tr_var (i := 6) rfl rfl (by decide) (by decide)) (tr_opS (L0 := []) ho_sub rs_sub (tr_var (i := 3) rfl rfl (by decide) (by decide)) (tr_len (L0 := []) rfl b_len (ta_cons (tr_var (i := 4) rfl rfl (by decide) (by decide)) ta_nil (by decide))) (by decide)) (by decide) rfl) (tw_and1 (tt_tru (L := []) (tr_var (i := 7) rfl rfl (by decide) (by decide)))))) (sss_one (ss_app (W := []) (i := 4) rfl rfl (by decide) (tr_var (i := 5) rfl rfl (by decide) (by decide)) (by decide)))
  sss_nil (by decide)))) (by decide)) (by decide) (by decide))
  (te_ret' (tn_pair (i := 4) rfl rfl (by decide) (tr_var (i := 3) rfl rfl (by decide) (by decide)))))))))
/-! ### shows_chain -/
abbrev s_shows_chain : Stmt := top 17
abbrev N_shows_chain : List Str := ["core", "chain", "rows", "k"]
theorem sc_shows_chain : FnScope N_shows_chain ["core", "chain"] (defScope s_shows_chain) := ⟨rfl, rfl, rfl, by decide +kernel, rfl, by decide +kernel, by decide +kernel⟩
def mb_shows_chain : MM := (mSeq (mSet 2 (xOp dIx (xVar 0) (xC (.int 1))))
  (mSeq (mIf (xOr (xNot (xTru (xFn m_are_between (xaCons (xVar 1) (xaCons (xC (.int 0)) (xaCons (xOp dSub (xFn dLen (xaCons (xVar 2) xaNil)) (xC (.int 1))) xaNil)))))) (xNot (xTru (xFn m_is_rising (xaCons (xVar 1) xaNil))))) (mRet (xC (.bool false)))
  mSkip)
  (mRet (xFn dAll (xaCons (xLst (xLc (xRg1 (xOp dSub (xFn dLen (xaCons (xVar 1) xaNil)) (xC (.int 1)))) [3] (bName 3) xYes (xFn m_hang_together (xaCons (xOp dIx (xVar 2) (xOp dIx (xVar 1) (xVar 3))) (xaCons (xOp dIx (xVar 2) (xOp dIx (xVar 1) (xOp dAdd (xVar 3) (xC (.int 1))))) xaNil))))) xaNil)))))
def m_shows_chain : List D → Option D := fnP 2 4 mb_shows_chain
theorem ok_shows_chain {f : Addr} {fd : FuncData} (F : FnP K "shows_chain" "shows_chain" s_shows_chain f fd) (b_len : mg "len" = none) (b_all : mg "all" = none) (b_range : mg "range" = none) (F_are_between : FnAt P w K mg base 3 "are_between" ["value", "least", "most"] (spP K m_are_between)) (F_is_rising : FnAt P w K mg base 1 "is_rising" ["numbers"] (spP K m_is_rising)) (F_hang_together : FnAt P w K mg base 3 "hang_together" ["one", "other"] (spP K m_hang_together)) : FnOk P w K mg base CX0 4 f fd ["core", "chain"] (spP K m_shows_chain) :=
  fn_P F sc_shows_chain rfl rfl fun A hr => have hu := u64 hr
  (sss_cons (O1 := []) (ss_set (W := []) (i := 2) (O' := []) rfl rfl (tr_ix (tr_var (i := 0) rfl rfl (by decide) (by decide)) tr_int (by decide) (by decide)) (by decide) (by decide) (by decide) (by decide))
  (sss_cons (O1 := []) (ss_if (W := []) (tt_W (tw_or (tt_not (tt_tru (L := []) (tr_call F_are_between (hr.mono (by decide)) rfl (ta_cons (tr_var (i := 1) rfl rfl (by decide) (by decide)) (ta_cons tr_int (ta_cons (tr_opS (L0 := []) ho_sub rs_sub (tr_len (L0 := []) rfl b_len (ta_cons (tr_var (i := 2) rfl rfl (by decide) (by decide)) ta_nil (by decide))) tr_int (by decide)) ta_nil (by decide)) (by decide)) (by decide)) (by decide)))) (tw_or1 (tt_not (tt_tru (L := []) (tr_call F_is_rising (hr.mono (by decide)) rfl (ta_cons (tr_var (i := 1) rfl rfl (by decide) (by decide)) ta_nil (by decide)) (by decide))))))) (sss_one (ss_ret (W := []) tr_bl (by decide)))
  sss_nil (by decide))
  (sss_one (ss_ret (W := []) (tr_all (L0 := []) rfl b_all (ta_cons (tr_F (by decide) (tf_lc [("k", 3)] (ti_rng1 (L0 := []) rfl b_range (tr_opS (L0 := []) ho_sub rs_sub (tr_len (L0 := []) rfl b_len (ta_cons (tr_var (i := 1) rfl rfl (by decide) (by decide)) ta_nil (by decide))) tr_int (by decide))) rfl (tg_name (i := 3) rfl rfl (by decide) (by decide)) tts_nil (tr_call F_hang_together (hr.mono (by decide)) rfl (ta_cons (tr_ix (tr_var (i := 2) rfl rfl (by decide) (by decide)) (tr_ix (tr_var (i := 1) rfl rfl (by decide) (by decide)) (tr_var (i := 3) rfl rfl (by decide) (by decide)) (by decide) (by decide)) (by decide) (by decide)) (ta_cons (tr_ix (tr_var (i := 2) rfl rfl (by decide) (by decide)) (tr_ix (tr_var (i := 1) rfl rfl (by decide) (by decide)) (tr_opS (L0 := []) ho_add rs_add (tr_var (i := 3) rfl rfl (by decide) (by decide)) tr_int (by decide)) (by decide) (by decide)) (by decide) (by decide)) ta_nil (by decide)) (by decide)) (by decide)) (by decide) (by decide) (by decide))) ta_nil (by decide))) (by decide)))))
/-! ### shows_steps -/
abbrev s_shows_steps : Stmt := top 18
abbrev N_shows_steps : List Str := ["core", "steps", "rows", "levels", "level", "step", "at", "pairs", "j", "i"]
theorem sc_shows_steps : FnScope N_shows_steps ["core", "steps"] (defScope s_shows_steps) := ⟨rfl, rfl, rfl, by decide +kernel, rfl, by decide +kernel, by decide +kernel⟩
def mb_shows_steps : MM := (mSeq (mSet 2 (xOp dIx (xVar 0) (xC (.int 1))))
  (mSeq (mIf (xOr (xNot (xTru (xFn m_are_lists_of_wholes (xaCons (xVar 1) xaNil)))) (xNot (xTru (xFn dAll (xaCons (xLst (xLc (xSeq (xVar 1)) [5] (bName 5) xYes (xFn m_is_rising (xaCons (xVar 5) xaNil)))) xaNil))))) (mRet (xC (.bool false)))
  mSkip)
  (mSeq (mIf (xT (xOp dNe (xLst (xfMap dSorted (xLc2 (xSeq (xVar 1)) [5, 6] (bName 5) xYes (xSeq (xVar 5)) [6] (bName 6) xYes (xVar 6)))) (xLst (xRg1 (xFn dLen (xaCons (xVar 2) xaNil)))))) (mRet (xC (.bool false)))
  mSkip)
  (mSeq (mDNew 3)
  (mSeq (mFor (xEnum (xItemsLS (xVar 1))) (bTup 2 (bCons (bName 4) (bCons (bName 5) bNil))) (mForget [4, 5, 6] (mFor (xSeq (xVar 5)) (bName 6) (mForget [6] (mDPut 3 (xVar 4) (xVar 6))))))
  (mSeq (mSet 7 (xLst (xLc2 (xRg1 (xFn dLen (xaCons (xVar 2) xaNil))) [8, 9] (bName 8) xYes (xRg1 (xVar 8)) [9] (bName 9) (xTru (xFn m_hang_together (xaCons (xOp dIx (xVar 2) (xVar 9)) (xaCons (xOp dIx (xVar 2) (xVar 8)) xaNil)))) (xTup (xaCons (xVar 9) (xaCons (xVar 8) xaNil))))))
  (mRet (xFn dAll (xaCons (xLst (xLc (xSeq (xVar 7)) [9, 8] (bTup 2 (bCons (bName 9) (bCons (bName 8) bNil))) xYes (xOp dLt (xDGetO 3 (xVar 9)) (xDGetO 3 (xVar 8))))) xaNil)))))))))
def m_shows_steps : List D → Option D := fnP 2 10 mb_shows_steps
theorem ok_shows_steps {f : Addr} {fd : FuncData} (F : FnP K "shows_steps" "shows_steps" s_shows_steps f fd) (b_all : mg "all" = none) (b_sorted : mg "sorted" = none) (b_list : mg "list" = none) (b_range : mg "range" = none) (b_len : mg "len" = none) (b_enumerate : mg "enumerate" = none) (F_are_lists_of_wholes : FnAt P w K mg base 3 "are_lists_of_wholes" ["value"] (spP K m_are_lists_of_wholes)) (F_is_rising : FnAt P w K mg base 1 "is_rising" ["numbers"] (spP K m_is_rising)) (F_hang_together : FnAt P w K mg base 3 "hang_together" ["one", "other"] (spP K m_hang_together)) : FnOk P w K mg base CX0 4 f fd ["core", "steps"] (spP K m_shows_steps) :=
  fn_P F sc_shows_steps rfl rfl fun A hr => have hu := u64 hr
  (sss_cons (O1 := []) (ss_set (W := []) (i := 2) (O' := []) rfl rfl (tr_ix (tr_var (i := 0) rfl rfl (by decide) (by decide)) tr_int (by decide) (by decide)) (by decide) (by decide) (by decide) (by decide))
  (sss_cons (O1 := []) (ss_if (W := []) (tt_W (tw_or (tt_not (tt_tru (L := []) (tr_call F_are_lists_of_wholes (hr.mono (by decide)) rfl (ta_cons (tr_var (i := 1) rfl rfl (by decide) (by decide)) ta_nil (by decide)) (by decide)))) (tw_or1 (tt_not (tt_tru (L := []) (tr_all (L0 := []) rfl b_all (ta_cons (tr_F (by decide) (tf_lc [("step", 5)] (ti_E (by decide) (tr_var (i := 1) rfl rfl (by decide) (by decide))) rfl (tg_name (i := 5) rfl rfl (by decide) (by decide)) tts_nil (tr_call F_is_rising (hr.mono (by decide)) rfl (ta_cons (tr_var (i := 5) rfl rfl (by decide) (by decide)) ta_nil (by decide)) (by decide)) (by decide) (by decide) (by decide))) ta_nil (by decide)))))))) (sss_one (ss_ret (W := []) tr_bl (by decide)))
  sss_nil (by decide))
  (sss_cons (O1 := []) (ss_if (W := []) (tt_cmp (L0 := []) (ho_ne hu) rs_ne (tr_F (by decide) (tf_sorted (L0 := []) rfl b_sorted (tb_F (by decide) (tf_lc2 (vs1 := [6]) [("step", 5), ("at", 6)] (ti2_of (ti_E (by decide) (tr_var (i := 1) rfl rfl (by decide) (by decide)))) rfl (tg_name (i := 5) rfl rfl (by decide) (by decide)) tts_nil (ti2_of (ti_E (by decide) (tr_var (i := 5) rfl rfl (by decide) (by decide)))) (tg_name (i := 6) rfl rfl (by decide) (by decide)) tts_nil (tr_var (i := 6) rfl rfl (by decide) (by decide)) (by decide) (by decide) (by decide) (by decide))) (by decide))) (tr_F (by decide) (tf_listRg1 (L0 := []) rfl b_list rfl b_range (tr_len (L0 := []) rfl b_len (ta_cons (tr_var (i := 2) rfl rfl (by decide) (by decide)) ta_nil (by decide))) (by decide))) (by decide) rfl) (sss_one (ss_ret (W := []) tr_bl (by decide)))
  sss_nil (by decide))
  (sss_cons (O1 := [3]) (ss_dnew (i := 3) (O' := [3]) rfl rfl (by decide) (by decide) (by decide))
  (sss_cons (O1 := [3]) (ss_for (W := []) (vs := [4, 5]) (ti_enumG rfl b_enumerate (tr_var (i := 1) rfl rfl (by decide) (by decide))) (tg_tup (tgs_cons (tg_name (i := 4) rfl rfl (by decide) (by decide)) (tgs_cons (tg_name (i := 5) rfl rfl (by decide) (by decide)) tgs_nil (by decide)) (by decide))) (sss_forget [4, 5, 6] (sss_one (ss_for (W := []) (vs := [6]) (ti_E (by decide) (tr_var (i := 5) rfl rfl (by decide) (by decide))) (tg_name (i := 6) rfl rfl (by decide) (by decide)) (sss_forget [6] (sss_one (ss_dput (W := []) (L0 := []) (i := 3) hu rfl rfl (by decide) (by decide) (tr_var (i := 4) rfl rfl (by decide) (by decide)) (tr_var (i := 6) rfl rfl (by decide) (by decide)) (by decide))) (by decide)) (by decide) (by decide))) (by decide)) (by decide) (by decide))
  (sss_cons (O1 := [3]) (ss_setLcU (W := []) (O' := [3]) (setLc2_t (W := []) (i := 7) (vs1 := [9]) [("j", 8), ("i", 9)] rfl rfl rfl (ti2_of (ti_rng1 (L0 := []) rfl b_range (tr_len (L0 := []) rfl b_len (ta_cons (tr_var (i := 2) rfl rfl (by decide) (by decide)) ta_nil (by decide))))) rfl (tg_name (i := 8) rfl rfl (by decide) (by decide)) tts_nil (ti2_of (ti_rng1 (L0 := []) rfl b_range (tr_var (i := 8) rfl rfl (by decide) (by decide)))) (tg_name (i := 9) rfl rfl (by decide) (by decide)) (tts_one (tt_tru (L := []) (tr_call F_hang_together (hr.mono (by decide)) rfl (ta_cons (tr_ix (tr_var (i := 2) rfl rfl (by decide) (by decide)) (tr_var (i := 9) rfl rfl (by decide) (by decide)) (by decide) (by decide)) (ta_cons (tr_ix (tr_var (i := 2) rfl rfl (by decide) (by decide)) (tr_var (i := 8) rfl rfl (by decide) (by decide)) (by decide) (by decide)) ta_nil (by decide)) (by decide)) (by decide)))) (tr_tup (ta_cons (tr_var (i := 9) rfl rfl (by decide) (by decide)) (ta_cons (tr_var (i := 8) rfl rfl (by decide) (by decide)) ta_nil (by decide)) (by decide)) (by decide)) (by decide) (by decide) (by decide)) (by decide) (by decide) (by decide) (by decide))
  (sss_one (ss_ret (W := []) (tr_all (L0 := []) rfl b_all (ta_cons (tr_F (by decide) (tf_lc [("i", 9), ("j", 8)] (ti_E (by decide) (tr_var (i := 7) rfl rfl (by decide) (by decide))) rfl (tg_tup (tgs_cons (tg_name (i := 9) rfl rfl (by decide) (by decide)) (tgs_cons (tg_name (i := 8) rfl rfl (by decide) (by decide)) tgs_nil (by decide)) (by decide))) tts_nil (tr_cmp (L0 := []) ho_lt rs_lt (tr_dgetO (L0 := []) (i := 3) hu rfl rfl (by decide) (by decide) (tr_var (i := 9) rfl rfl (by decide) (by decide))) (tr_dgetO (L0 := []) (i := 3) hu rfl rfl (by decide) (by decide) (tr_var (i := 8) rfl rfl (by decide) (by decide))) (by decide) rfl) (by decide) (by decide) (by decide))) ta_nil (by decide))) (by decide)))))))))
/-! ### _law_feed -/
abbrev s__law_feed : Stmt := top 20
abbrev N__law_feed : List Str := ["script"]
theorem sc__law_feed : FnScope N__law_feed ["script"] (defScope s__law_feed) := ⟨rfl, rfl, rfl, by decide +kernel, rfl, by decide +kernel, by decide +kernel⟩
def mb__law_feed : MM := (mRetF (xDisp (xaCons (xLst (xSeq (xVar 0))) (xaCons (xC (.int 0)) (xaCons (xC (.int 0)) (xaCons (xC (.int 1)) xaNil))))))
def m__law_feed : List D → Option (List D) := fnL 1 1 mb__law_feed
theorem ok__law_feed {f : Addr} {fd : FuncData} (F : FnP K "_law_feed" "_law_feed" s__law_feed f fd) (b_list : mg "list" = none) : FnOk P w K mg base CX0 1 f fd ["script"] (spL K m__law_feed) :=
  fn_L F sc__law_feed rfl rfl fun A hr => have hu := u64 hr
  (sss_one (ss_retF (W := []) (tf_disp (ta_cons (tr_F (by decide) (tf_list rfl b_list (tq_E (by decide) (tr_var (i := 0) rfl rfl (by decide) (by decide))) (by decide))) (ta_cons tr_int (ta_cons tr_int (ta_cons tr_int ta_nil (by decide)) (by decide)) (by decide)) (by decide)) (by decide)) (by decide)))
/-! ### _law_draw -/
abbrev s__law_draw : Stmt := top 21
abbrev N__law_draw : List Str := ["feed", "many", "cell", "told", "mixed"]
theorem sc__law_draw : FnScope N__law_draw ["feed", "many"] (defScope s__law_draw) := ⟨rfl, rfl, rfl, by decide +kernel, rfl, by decide +kernel, by decide +kernel⟩
def mb__law_draw : MM := (mSeq (mIf (xAnd (xT (xOp dEq (xIxOwn 0 (xC (.int 2))) (xC (.int 0)))) (xT (xOp dLt (xIxOwn 0 (xC (.int 1))) (xFn dLen (xaCons (xIxOwn 0 (xC (.int 0))) xaNil))))) (mSeq (mSet 2 (xFn dAbs (xaCons (xFn dInt (xaCons (xOp dIx (xIxOwn 0 (xC (.int 0))) (xIxOwn 0 (xC (.int 1)))) xaNil)) xaNil)))
  (mSeq (mAugIx dAddI 0 (xC (.int 1)) (xC (.int 1)))
  (mIf (xT (xOp dGe (xVar 2) (xOp dPow (xC (.int 10)) (xC (.int 18))))) (mSetIx 0 (xVar 2) (xC (.int 2)))
  (mSetIx 0 (xOp dMod (xFn dInt (xaCons (xOp dAdd (xOp dAdd (xOp dMul (xIxOwn 0 (xC (.int 3))) (xC (.int 48271))) (xOp dMul (xVar 2) (xC (.int 69621)))) (xIxOwn 0 (xC (.int 1)))) xaNil)) (xC (.int 2147483647))) (xC (.int 3))))))
  mSkip)
  (mSeq (mIf (xT (xOp dGt (xIxOwn 0 (xC (.int 2))) (xC (.int 0)))) (mSeq (mSet 3 (xOp dMod (xFn dInt (xaCons (xIxOwn 0 (xC (.int 2))) xaNil)) (xVar 1)))
  (mSeq (mSetIx 0 (xOp dDiv (xIxOwn 0 (xC (.int 2))) (xVar 1)) (xC (.int 2)))
  (mRet (xVar 3))))
  mSkip)
  (mSeq (mSetIx 0 (xOp dMod (xFn dInt (xaCons (xOp dAdd (xOp dMul (xIxOwn 0 (xC (.int 3))) (xC (.int 16807))) (xC (.int 12345))) xaNil)) (xC (.int 2147483647))) (xC (.int 3)))
  (mSeq (mSet 4 (xOp dMod (xFn dInt (xaCons (xOp dAdd (xOp dMul (xIxOwn 0 (xC (.int 3))) (xIxOwn 0 (xC (.int 3)))) (xIxOwn 0 (xC (.int 3)))) xaNil)) (xC (.int 2147483629))))
  (mRet (xOp dMod (xOp dDiv (xVar 4) (xC (.int 11))) (xVar 1)))))))
def m__law_draw : List D → List D → Option (D × List D) := fnT 2 5 mb__law_draw
theorem ok__law_draw {f : Addr} {fd : FuncData} (F : FnP K "_law_draw" "_law_draw" s__law_draw f fd) (b_len : mg "len" = none) (b_abs : mg "abs" = none) (b_int : mg "int" = none) : FnOk P w K mg base CX0 1 f fd ["feed", "many"] (spT K m__law_draw) :=
  fn_T F sc__law_draw rfl rfl fun A hr => have hu := u64 hr
  (sss_cons (O1 := [0]) (ss_if (W := []) (tt_W (tw_and (tt_cmp (L0 := []) (ho_eq hu) rs_eq (tr_ixOwn (L0 := []) (i := 0) rfl rfl (by decide) (by decide) tr_int) tr_int (by decide) rfl) (tw_and1 (tt_cmp (L0 := []) ho_lt rs_lt (tr_ixOwn (L0 := []) (i := 0) rfl rfl (by decide) (by decide) tr_int) (tr_len (L0 := []) rfl b_len (ta_cons (tr_ixOwn (L0 := []) (i := 0) rfl rfl (by decide) (by decide) tr_int) ta_nil (by decide))) (by decide) rfl)))) (sss_cons (O1 := [0]) (ss_set (W := []) (i := 2) (O' := [0]) rfl rfl (tr_abs (L0 := []) rfl b_abs (ta_cons (tr_intC (L0 := []) rfl b_int (ta_cons (tr_ix (tr_ixOwn (L0 := []) (i := 0) rfl rfl (by decide) (by decide) tr_int) (tr_ixOwn (L0 := []) (i := 0) rfl rfl (by decide) (by decide) tr_int) (by decide) (by decide)) ta_nil (by decide))) ta_nil (by decide))) (by decide) (by decide) (by decide) (by decide))
  (sss_cons (O1 := [0]) (ss_augIx (L0 := []) (L := []) (i := 0) ho_iadd rs_addI rfl rfl (by decide) tr_int tr_int)
  (sss_one (ss_if (W := []) (tt_cmp (L0 := []) ho_ge rs_ge (tr_var (i := 2) rfl rfl (by decide) (by decide)) (tr_opS (L0 := []) ho_pow rs_pow tr_int tr_int (by decide)) (by decide) rfl) (sss_one (ss_setIx (W := []) (L0 := []) (i := 0) rfl rfl (by decide) (tr_var (i := 2) rfl rfl (by decide) (by decide)) tr_int (by decide)))
  (sss_one (ss_setIx (W := []) (L0 := []) (i := 0) rfl rfl (by decide) (tr_opS (L0 := []) ho_mod rs_mod (tr_intC (L0 := []) rfl b_int (ta_cons (tr_opS (L0 := []) ho_add rs_add (tr_opS (L0 := []) ho_add rs_add (tr_opS (L0 := []) ho_mul rs_mul (tr_ixOwn (L0 := []) (i := 0) rfl rfl (by decide) (by decide) tr_int) tr_int (by decide)) (tr_opS (L0 := []) ho_mul rs_mul (tr_var (i := 2) rfl rfl (by decide) (by decide)) tr_int (by decide)) (by decide)) (tr_ixOwn (L0 := []) (i := 0) rfl rfl (by decide) (by decide) tr_int) (by decide)) ta_nil (by decide))) tr_int (by decide)) tr_int (by decide))) (by decide)))))
  sss_nil (by decide))
  (sss_cons (O1 := [0]) (ss_if (W := []) (tt_cmp (L0 := []) ho_gt rs_gt (tr_ixOwn (L0 := []) (i := 0) rfl rfl (by decide) (by decide) tr_int) tr_int (by decide) rfl) (sss_cons (O1 := [0]) (ss_set (W := []) (i := 3) (O' := [0]) rfl rfl (tr_opS (L0 := []) ho_mod rs_mod (tr_intC (L0 := []) rfl b_int (ta_cons (tr_ixOwn (L0 := []) (i := 0) rfl rfl (by decide) (by decide) tr_int) ta_nil (by decide))) (tr_var (i := 1) rfl rfl (by decide) (by decide)) (by decide)) (by decide) (by decide) (by decide) (by decide))
  (sss_cons (O1 := [0]) (ss_setIx (W := []) (L0 := []) (i := 0) rfl rfl (by decide) (tr_opS (L0 := []) ho_div rs_div (tr_ixOwn (L0 := []) (i := 0) rfl rfl (by decide) (by decide) tr_int) (tr_var (i := 1) rfl rfl (by decide) (by decide)) (by decide)) tr_int (by decide))
  (sss_one (ss_ret (W := []) (tr_var (i := 3) rfl rfl (by decide) (by decide)) (by decide)))))
  sss_nil (by decide))
  (sss_cons (O1 := [0]) (ss_setIx (W := []) (L0 := []) (i := 0) rfl rfl (by decide) (tr_opS (L0 := []) ho_mod rs_mod (tr_intC (L0 := []) rfl b_int (ta_cons (tr_opS (L0 := []) ho_add rs_add (tr_opS (L0 := []) ho_mul rs_mul (tr_ixOwn (L0 := []) (i := 0) rfl rfl (by decide) (by decide) tr_int) tr_int (by decide)) tr_int (by decide)) ta_nil (by decide))) tr_int (by decide)) tr_int (by decide))
  (sss_cons (O1 := [0]) (ss_set (W := []) (i := 4) (O' := [0]) rfl rfl (tr_opS (L0 := []) ho_mod rs_mod (tr_intC (L0 := []) rfl b_int (ta_cons (tr_opS (L0 := []) ho_add rs_add (tr_opS (L0 := []) ho_mul rs_mul (tr_ixOwn (L0 := []) (i := 0) rfl rfl (by decide) (by decide) tr_int) (tr_ixOwn (L0 := []) (i := 0) rfl rfl (by decide) (by decide) tr_int) (by decide)) (tr_ixOwn (L0 := []) (i := 0) rfl rfl (by decide) (by decide) tr_int) (by decide)) ta_nil (by decide))) tr_int (by decide)) (by decide) (by decide) (by decide) (by decide))
  (sss_one (ss_ret (W := []) (tr_opS (L0 := []) ho_mod rs_mod (tr_opS (L0 := []) ho_div rs_div (tr_var (i := 4) rfl rfl (by decide) (by decide)) tr_int (by decide)) (tr_var (i := 1) rfl rfl (by decide) (by decide)) (by decide)) (by decide)))))))
/-! ### _law_slots -/
abbrev s__law_slots : Stmt := top 22
abbrev N__law_slots : List Str := ["row"]
theorem sc__law_slots : FnScope N__law_slots ["row"] (defScope s__law_slots) := ⟨rfl, rfl, rfl, by decide +kernel, rfl, by decide +kernel, by decide +kernel⟩
def mb__law_slots : MM := (mSeq (mIf (xT (xOp dEq (xOp dIx (xVar 0) (xC (.int 0))) (xC (.str "turn")))) (mRet (xOp dIx (xVar 0) (xC (.int 2))))
  mSkip)
  (mSeq (mIf (xT (xOp dEq (xOp dIx (xVar 0) (xC (.int 0))) (xC (.str "fix")))) (mRet (xLst (xDisp (xaCons (xOp dIx (xVar 0) (xC (.int 2))) xaNil))))
  mSkip)
  (mRet (xLst (xDisp (xaCons (xOp dIx (xVar 0) (xC (.int 1))) xaNil))))))
def m__law_slots : List D → Option D := fnP 1 1 mb__law_slots
theorem ok__law_slots {f : Addr} {fd : FuncData} (F : FnP K "_law_slots" "_law_slots" s__law_slots f fd) : FnOk P w K mg base CX0 1 f fd ["row"] (spP K m__law_slots) :=
  fn_P F sc__law_slots rfl rfl fun A hr => have hu := u64 hr
  (sss_cons (O1 := []) (ss_if (W := []) (tt_cmp (L0 := []) (ho_eq hu) rs_eq (tr_ix (tr_var (i := 0) rfl rfl (by decide) (by decide)) tr_int (by decide) (by decide)) tr_str (by decide) rfl) (sss_one (ss_ret (W := []) (tr_ix (tr_var (i := 0) rfl rfl (by decide) (by decide)) tr_int (by decide) (by decide)) (by decide)))
  sss_nil (by decide))
  (sss_cons (O1 := []) (ss_if (W := []) (tt_cmp (L0 := []) (ho_eq hu) rs_eq (tr_ix (tr_var (i := 0) rfl rfl (by decide) (by decide)) tr_int (by decide) (by decide)) tr_str (by decide) rfl) (sss_one (ss_ret (W := []) (tr_F (by decide) (tf_disp (ta_cons (tr_ix (tr_var (i := 0) rfl rfl (by decide) (by decide)) tr_int (by decide) (by decide)) ta_nil (by decide)) (by decide))) (by decide)))
  sss_nil (by decide))
  (sss_one (ss_ret (W := []) (tr_F (by decide) (tf_disp (ta_cons (tr_ix (tr_var (i := 0) rfl rfl (by decide) (by decide)) tr_int (by decide) (by decide)) ta_nil (by decide)) (by decide))) (by decide)))))
/-! ### _law_share -/
abbrev s__law_share : Stmt := top 23
abbrev N__law_share : List Str := ["one", "other", "slot"]
theorem sc__law_share : FnScope N__law_share ["one", "other"] (defScope s__law_share) := ⟨rfl, rfl, rfl, by decide +kernel, rfl, by decide +kernel, by decide +kernel⟩
def mb__law_share : MM := (mRet (xOp dGt (xFn dLen (xaCons (xLst (xLc (xSeq (xFn m__law_slots (xaCons (xVar 0) xaNil))) [2] (bName 2) (xT (xOp (dIn false) (xVar 2) (xFn m__law_slots (xaCons (xVar 1) xaNil)))) (xVar 2))) xaNil)) (xC (.int 0))))
def m__law_share : List D → Option D := fnP 2 3 mb__law_share
theorem ok__law_share {f : Addr} {fd : FuncData} (F : FnP K "_law_share" "_law_share" s__law_share f fd) (b_len : mg "len" = none) (F__law_slots : FnAt P w K mg base 1 "_law_slots" ["row"] (spP K m__law_slots)) : FnOk P w K mg base CX0 2 f fd ["one", "other"] (spP K m__law_share) :=
  fn_P F sc__law_share rfl rfl fun A hr => have hu := u64 hr
  (sss_one (ss_ret (W := []) (tr_cmp (L0 := []) ho_gt rs_gt (tr_len (L0 := []) rfl b_len (ta_cons (tr_F (by decide) (tf_lc [("slot", 2)] (ti_E (by decide) (tr_call F__law_slots (hr.mono (by decide)) rfl (ta_cons (tr_var (i := 0) rfl rfl (by decide) (by decide)) ta_nil (by decide)) (by decide))) rfl (tg_name (i := 2) rfl rfl (by decide) (by decide)) (tts_one (tt_cmp (L0 := []) ho_in (rs_in false) (tr_var (i := 2) rfl rfl (by decide) (by decide)) (tr_call F__law_slots (hr.mono (by decide)) rfl (ta_cons (tr_var (i := 1) rfl rfl (by decide) (by decide)) ta_nil (by decide)) (by decide)) (by decide) rfl)) (tr_var (i := 2) rfl rfl (by decide) (by decide)) (by decide) (by decide) (by decide))) ta_nil (by decide))) tr_int (by decide) rfl) (by decide)))
/-! ### _law_hang -/
abbrev s__law_hang : Stmt := top 24
abbrev N__law_hang : List Str := ["one", "other", "kinds"]
theorem sc__law_hang : FnScope N__law_hang ["one", "other"] (defScope s__law_hang) := ⟨rfl, rfl, rfl, by decide +kernel, rfl, by decide +kernel, by decide +kernel⟩
def mb__law_hang : MM := (mSeq (mIf (xTru (xFn m__law_share (xaCons (xVar 0) (xaCons (xVar 1) xaNil)))) (mRet (xC (.bool true)))
  mSkip)
  (mSeq (mSet 2 (xLst (xDisp (xaCons (xOp dIx (xVar 0) (xC (.int 0))) (xaCons (xOp dIx (xVar 1) (xC (.int 0))) xaNil)))))
  (mSeq (mIf (xT (xOp (dInX false) (xVar 2) (xLst (xDisp (xaCons (xLst (xDisp (xaCons (xC (.str "read")) (xaCons (xC (.str "read")) xaNil)))) (xaCons (xLst (xDisp (xaCons (xC (.str "read")) (xaCons (xC (.str "new")) xaNil)))) (xaCons (xLst (xDisp (xaCons (xC (.str "new")) (xaCons (xC (.str "read")) xaNil)))) xaNil))))))) (mRet (xC (.bool true)))
  mSkip)
  (mSeq (mIf (xT (xOp dEq (xVar 2) (xLst (xDisp (xaCons (xC (.str "read")) (xaCons (xC (.str "fix")) xaNil)))))) (mRet (xOp (dIn false) (xOp dIx (xVar 0) (xC (.int 2))) (xOp dIx (xVar 1) (xC (.int 3)))))
  mSkip)
  (mRet (xAndV (xT (xOp dEq (xVar 2) (xLst (xDisp (xaCons (xC (.str "fix")) (xaCons (xC (.str "read")) xaNil)))))) (xOp (dIn false) (xOp dIx (xVar 1) (xC (.int 2))) (xOp dIx (xVar 0) (xC (.int 3))))))))))
def m__law_hang : List D → Option D := fnP 2 3 mb__law_hang
theorem ok__law_hang {f : Addr} {fd : FuncData} (F : FnP K "_law_hang" "_law_hang" s__law_hang f fd) (F__law_share : FnAt P w K mg base 2 "_law_share" ["one", "other"] (spP K m__law_share)) : FnOk P w K mg base CX0 3 f fd ["one", "other"] (spP K m__law_hang) :=
  fn_P F sc__law_hang rfl rfl fun A hr => have hu := u64 hr
  (sss_cons (O1 := []) (ss_if (W := []) (tt_tru (L := []) (tr_call F__law_share (hr.mono (by decide)) rfl (ta_cons (tr_var (i := 0) rfl rfl (by decide) (by decide)) (ta_cons (tr_var (i := 1) rfl rfl (by decide) (by decide)) ta_nil (by decide)) (by decide)) (by decide))) (sss_one (ss_ret (W := []) tr_bl (by decide)))
  sss_nil (by decide))
  (sss_cons (O1 := []) (ss_setFu (W := []) (i := 2) (O' := []) rfl rfl (tf_disp (ta_cons (tr_ix (tr_var (i := 0) rfl rfl (by decide) (by decide)) tr_int (by decide) (by decide)) (ta_cons (tr_ix (tr_var (i := 1) rfl rfl (by decide) (by decide)) tr_int (by decide) (by decide)) ta_nil (by decide)) (by decide)) (by decide)) (by decide) (by decide) (by decide) (by decide))
  (sss_cons (O1 := []) (ss_if (W := []) (tt_cmp (L0 := []) (ho_inX (u65 hr)) (rs_inX false) (tr_var (i := 2) rfl rfl (by decide) (by decide)) (tr_F (by decide) (tf_disp (ta_cons (tr_F (by decide) (tf_disp (ta_cons tr_str (ta_cons tr_str ta_nil (by decide)) (by decide)) (by decide))) (ta_cons (tr_F (by decide) (tf_disp (ta_cons tr_str (ta_cons tr_str ta_nil (by decide)) (by decide)) (by decide))) (ta_cons (tr_F (by decide) (tf_disp (ta_cons tr_str (ta_cons tr_str ta_nil (by decide)) (by decide)) (by decide))) ta_nil (by decide)) (by decide)) (by decide)) (by decide))) (by decide) rfl) (sss_one (ss_ret (W := []) tr_bl (by decide)))
  sss_nil (by decide))
  (sss_cons (O1 := []) (ss_if (W := []) (tt_cmp (L0 := []) (ho_eq hu) rs_eq (tr_var (i := 2) rfl rfl (by decide) (by decide)) (tr_F (by decide) (tf_disp (ta_cons tr_str (ta_cons tr_str ta_nil (by decide)) (by decide)) (by decide))) (by decide) rfl) (sss_one (ss_ret (W := []) (tr_cmp (L0 := []) ho_in (rs_in false) (tr_ix (tr_var (i := 0) rfl rfl (by decide) (by decide)) tr_int (by decide) (by decide)) (tr_ix (tr_var (i := 1) rfl rfl (by decide) (by decide)) tr_int (by decide) (by decide)) (by decide) rfl) (by decide)))
  sss_nil (by decide))
  (sss_one (ss_ret (W := []) (tr_and (L0 := []) (tr_cmp (L0 := []) (ho_eq hu) rs_eq (tr_var (i := 2) rfl rfl (by decide) (by decide)) (tr_F (by decide) (tf_disp (ta_cons tr_str (ta_cons tr_str ta_nil (by decide)) (by decide)) (by decide))) (by decide) rfl) (tr_one (tr_cmp (L0 := []) ho_in (rs_in false) (tr_ix (tr_var (i := 1) rfl rfl (by decide) (by decide)) tr_int (by decide) (by decide)) (tr_ix (tr_var (i := 0) rfl rfl (by decide) (by decide)) tr_int (by decide) (by decide)) (by decide) rfl))) (by decide)))))))
/-! ### _law_copy -/
abbrev s__law_copy : Stmt := top 25
abbrev N__law_copy : List Str := ["core", "rows", "row", "own"]
theorem sc__law_copy : FnScope N__law_copy ["core"] (defScope s__law_copy) := ⟨rfl, rfl, rfl, by decide +kernel, rfl, by decide +kernel, by decide +kernel⟩
def mb__law_copy : MM := (mSeq (mSetF 1 (xDisp xaNil))
  (mSeq (mFor (xSeq (xOp dIx (xVar 0) (xC (.int 1)))) (bName 2) (mForget [2, 3] (mSeq (mSetF 3 (xSeq (xVar 2)))
  (mSeq (mIf (xT (xOp dEq (xOp dIx (xVar 2) (xC (.int 0))) (xC (.str "turn")))) (mSetIx 3 (xLst (xSeq (xOp dIx (xVar 2) (xC (.int 2))))) (xC (.int 2)))
  mSkip)
  (mSeq (mIf (xT (xOp dEq (xOp dIx (xVar 2) (xC (.int 0))) (xC (.str "fix")))) (mSetIx 3 (xLst (xSeq (xOp dIx (xVar 2) (xC (.int 3))))) (xC (.int 3)))
  mSkip)
  (mApp 1 (xTupOf (xVar 3))))))))
  (mRet (xTup (xaCons (xOp dIx (xVar 0) (xC (.int 0))) (xaCons (xVar 1) (xaCons (xLst (xSeq (xOp dIx (xVar 0) (xC (.int 2))))) (xaCons (xLst (xSeq (xOp dIx (xVar 0) (xC (.int 3))))) xaNil))))))))
def m__law_copy : List D → Option D := fnP 1 4 mb__law_copy
theorem ok__law_copy {f : Addr} {fd : FuncData} (F : FnP K "_law_copy" "_law_copy" s__law_copy f fd) (b_list : mg "list" = none) (b_tuple : mg "tuple" = none) : FnOk P w K mg base CX0 1 f fd ["core"] (spP K m__law_copy) :=
  fn_P F sc__law_copy rfl rfl fun A hr => have hu := u64 hr
  (sss_cons (O1 := [1]) (ss_setF (W := []) (i := 1) (O' := [1]) rfl rfl (tf_disp ta_nil (by decide)) (by decide) (by decide) (by decide) (by decide))
  (sss_cons (O1 := [1]) (ss_for (W := []) (vs := [2]) (ti_E (by decide) (tr_ix (tr_var (i := 0) rfl rfl (by decide) (by decide)) tr_int (by decide) (by decide))) (tg_name (i := 2) rfl rfl (by decide) (by decide)) (sss_forget [2, 3] (sss_cons (O1 := [1, 3]) (ss_setF (W := []) (i := 3) (O' := [1, 3]) rfl rfl (tf_list rfl b_list (tq_E (by decide) (tr_var (i := 2) rfl rfl (by decide) (by decide))) (by decide)) (by decide) (by decide) (by decide) (by decide))
  (sss_cons (O1 := [1, 3]) (ss_if (W := []) (tt_cmp (L0 := []) (ho_eq hu) rs_eq (tr_ix (tr_var (i := 2) rfl rfl (by decide) (by decide)) tr_int (by decide) (by decide)) tr_str (by decide) rfl) (sss_one (ss_setIx (W := []) (L0 := []) (i := 3) rfl rfl (by decide) (tr_F (by decide) (tf_list rfl b_list (tq_E (by decide) (tr_ix (tr_var (i := 2) rfl rfl (by decide) (by decide)) tr_int (by decide) (by decide))) (by decide))) tr_int (by decide)))
  sss_nil (by decide))
  (sss_cons (O1 := [1]) (ss_if (W := []) (tt_cmp (L0 := []) (ho_eq hu) rs_eq (tr_ix (tr_var (i := 2) rfl rfl (by decide) (by decide)) tr_int (by decide) (by decide)) tr_str (by decide) rfl) (sss_out (O1 := [1, 3]) (sss_one (ss_setIx (W := []) (L0 := []) (i := 3) rfl rfl (by decide) (tr_F (by decide) (tf_list rfl b_list (tq_E (by decide) (tr_ix (tr_var (i := 2) rfl rfl (by decide) (by decide)) tr_int (by decide) (by decide))) (by decide))) tr_int (by decide))) (by decide) (by decide))
  (sss_out (O1 := [1, 3]) sss_nil (by decide) (by decide)) (by decide))
  (sss_one (ss_app (W := []) (i := 1) rfl rfl (by decide) (tr_tupleOf rfl b_tuple (tr_var (i := 3) rfl rfl (by decide) (by decide)) (by decide)) (by decide)))))) (by decide)) (by decide) (by decide))
  (sss_free (L := []) (sss_one (ss_ret (W := []) (tr_tup (ta_cons (tr_ix (tr_var (i := 0) rfl rfl (by decide) (by decide)) tr_int (by decide) (by decide)) (ta_cons (tr_var (i := 1) rfl rfl (by decide) (by decide)) (ta_cons (tr_F (by decide) (tf_list rfl b_list (tq_E (by decide) (tr_ix (tr_var (i := 0) rfl rfl (by decide) (by decide)) tr_int (by decide) (by decide))) (by decide))) (ta_cons (tr_F (by decide) (tf_list rfl b_list (tq_E (by decide) (tr_ix (tr_var (i := 0) rfl rfl (by decide) (by decide)) tr_int (by decide) (by decide))) (by decide))) ta_nil (by decide)) (by decide)) (by decide)) (by decide)) (by decide)) (by decide))) (by decide) (by decide))))
/-! ### _law_levels -/
abbrev s__law_levels : Stmt := top 26
abbrev N__law_levels : List Str := ["rows", "levels", "k", "j"]
theorem sc__law_levels : FnScope N__law_levels ["rows"] (defScope s__law_levels) := ⟨rfl, rfl, rfl, by decide +kernel, rfl, by decide +kernel, by decide +kernel⟩
def mb__law_levels : MM := (mSeq (mSetF 1 (xDisp xaNil))
  (mSeq (mFor (xRg1 (xFn dLen (xaCons (xVar 0) xaNil))) (bName 2) (mForget [2] (mApp 1 (xFn dMax (xaCons (xLst (xCat (xDisp (xaCons (xC (.int 0)) xaNil)) (xLc (xRg1 (xVar 2)) [3] (bName 3) (xTru (xFn m__law_hang (xaCons (xOp dIx (xVar 0) (xVar 3)) (xaCons (xOp dIx (xVar 0) (xVar 2)) xaNil)))) (xOp dAdd (xIxOwn 1 (xVar 3)) (xC (.int 1)))))) xaNil)))))
  (mRet (xLst (xOwn 1)))))
def m__law_levels : List D → Option (List D) := fnL 1 4 mb__law_levels
theorem ok__law_levels {f : Addr} {fd : FuncData} (F : FnP K "_law_levels" "_law_levels" s__law_levels f fd) (b_range : mg "range" = none) (b_len : mg "len" = none) (b_max : mg "max" = none) (F__law_hang : FnAt P w K mg base 3 "_law_hang" ["one", "other"] (spP K m__law_hang)) : FnOk P w K mg base CX0 4 f fd ["rows"] (spL K m__law_levels) :=
  fn_L F sc__law_levels rfl rfl fun A hr => have hu := u64 hr
  (sss_cons (O1 := [1]) (ss_setF (W := []) (i := 1) (O' := [1]) rfl rfl (tf_disp ta_nil (by decide)) (by decide) (by decide) (by decide) (by decide))
  (sss_cons (O1 := [1]) (ss_for (W := []) (vs := [2]) (ti_rng1 (L0 := []) rfl b_range (tr_len (L0 := []) rfl b_len (ta_cons (tr_var (i := 0) rfl rfl (by decide) (by decide)) ta_nil (by decide)))) (tg_name (i := 2) rfl rfl (by decide) (by decide)) (sss_forget [2] (sss_one (ss_app (W := []) (i := 1) rfl rfl (by decide) (tr_max1 (L0 := []) rfl b_max (ta_cons (tr_F (by decide) (tf_cat (tb_F (by decide) (tf_disp (ta_cons tr_int ta_nil (by decide)) (by decide))) (tb_F (by decide) (tf_lc [("j", 3)] (ti_rng1 (L0 := []) rfl b_range (tr_var (i := 2) rfl rfl (by decide) (by decide))) rfl (tg_name (i := 3) rfl rfl (by decide) (by decide)) (tts_one (tt_tru (L := []) (tr_call F__law_hang (hr.mono (by decide)) rfl (ta_cons (tr_ix (tr_var (i := 0) rfl rfl (by decide) (by decide)) (tr_var (i := 3) rfl rfl (by decide) (by decide)) (by decide) (by decide)) (ta_cons (tr_ix (tr_var (i := 0) rfl rfl (by decide) (by decide)) (tr_var (i := 2) rfl rfl (by decide) (by decide)) (by decide) (by decide)) ta_nil (by decide)) (by decide)) (by decide)))) (tr_opS (L0 := []) ho_add rs_add (tr_ixOwn (L0 := []) (i := 1) rfl rfl (by decide) (by decide) (tr_var (i := 3) rfl rfl (by decide) (by decide))) tr_int (by decide)) (by decide) (by decide) (by decide))) (by decide) (by decide))) ta_nil (by decide))) (by decide))) (by decide)) (by decide) (by decide))
  (sss_one (ss_retO (i := 1) rfl rfl (by decide) (by decide)))))
/-! ### _law_same -/
abbrev s__law_same : Stmt := top 27
abbrev N__law_same : List Str := ["actual", "due", "k"]
theorem sc__law_same : FnScope N__law_same ["actual", "due"] (defScope s__law_same) := ⟨rfl, rfl, rfl, by decide +kernel, rfl, by decide +kernel, by decide +kernel⟩
def mb__law_same (r__law_same : List D → Option D) : MM := (mSeq (mIf (xOr (xTru (xUn (dIsi "list") (xVar 1))) (xTru (xUn (dIsi "tuple") (xVar 1)))) (mSeq (mIf (xOr (xT (xOp dNe (xUn (dIsi "list") (xVar 0)) (xUn (dIsi "list") (xVar 1)))) (xT (xOp dNe (xUn (dIsi "tuple") (xVar 0)) (xUn (dIsi "tuple") (xVar 1))))) (mRet (xC (.bool false)))
  mSkip)
  (mRet (xAndV (xT (xOp dEq (xFn dLen (xaCons (xVar 0) xaNil)) (xFn dLen (xaCons (xVar 1) xaNil)))) (xFn dAll (xaCons (xLst (xLc (xRg1 (xFn dLen (xaCons (xVar 1) xaNil))) [2] (bName 2) xYes (xFn r__law_same (xaCons (xOp dIx (xVar 0) (xVar 2)) (xaCons (xOp dIx (xVar 1) (xVar 2)) xaNil))))) xaNil)))))
  mSkip)
  (mSeq (mIf (xOr (xT (xUn (dIsN false) (xVar 1))) (xTru (xUn (dIsi "bool") (xVar 1)))) (mRet (xIf (xT (xUn (dIsN false) (xVar 1))) (xUn (dIsN false) (xVar 0)) (xAndV (xT (xUn (dIsi "bool") (xVar 0))) (xOp dEq (xVar 0) (xVar 1)))))
  mSkip)
  (mSeq (mIf (xTru (xUn (dIsi "str") (xVar 1))) (mRet (xAndV (xT (xUn (dIsi "str") (xVar 0))) (xOp dEq (xVar 0) (xVar 1))))
  mSkip)
  (mRet (xAndV (xT (xUn (dIsi "int") (xVar 0))) (xAndV (xT (xB (xNot (xT (xUn (dIsi "bool") (xVar 0)))))) (xOp dEq (xVar 0) (xVar 1))))))))
mutual
def mr__law_same : Nat → List D → Option D
  | 0 => fun _ => none
  | n + 1 => fnP 2 3 (mb__law_same (mr__law_same n))
end
def m__law_same : List D → Option D := mr__law_same 40
theorem okr__law_same {f__law_same : Addr} {fd__law_same : FuncData} (P__law_same : FnP K "_law_same" "_law_same" s__law_same f__law_same fd__law_same) (hm__law_same : mg "_law_same" = some (.ref f__law_same)) (hb__law_same : BindN K fd__law_same ["actual", "due"]) (b_isinstance : mg "isinstance" = none) (b_list : mg "list" = none) (b_tuple : mg "tuple" = none) (b_len : mg "len" = none) (b_all : mg "all" = none) (b_range : mg "range" = none) (b_bool : mg "bool" = none) (b_str : mg "str" = none) (b_int : mg "int" = none) (n : Nat) : FnOk P w K mg base CX0 (1 + n) f__law_same fd__law_same ["actual", "due"] (spP K (mr__law_same n)) := by
  induction n with
  | zero => exact fn_zero zP
  | succ n ih =>
    have ih__law_same := ih
    have F__law_same : FnAt P w K mg base (1 + n) "_law_same" ["actual", "due"] (spP K (mr__law_same n)) := fnAt P__law_same ih__law_same hm__law_same hb__law_same
    exact fn_P P__law_same sc__law_same rfl rfl fun A hr => have hu := u64 hr
      (sss_cons (O1 := []) (ss_if (W := []) (tt_W (tw_or (tt_tru (L := []) (tr_isi (L0 := []) (T := "list") rfl b_isinstance rfl b_list (by decide +kernel) (tr_var (i := 1) rfl rfl (by decide) (by decide)))) (tw_or1 (tt_tru (L := []) (tr_isi (L0 := []) (T := "tuple") rfl b_isinstance rfl b_tuple (by decide +kernel) (tr_var (i := 1) rfl rfl (by decide) (by decide))))))) (sss_cons (O1 := []) (ss_if (W := []) (tt_W (tw_or (tt_cmp (L0 := []) (ho_ne hu) rs_ne (tr_isi (L0 := []) (T := "list") rfl b_isinstance rfl b_list (by decide +kernel) (tr_var (i := 0) rfl rfl (by decide) (by decide))) (tr_isi (L0 := []) (T := "list") rfl b_isinstance rfl b_list (by decide +kernel) (tr_var (i := 1) rfl rfl (by decide) (by decide))) (by decide) rfl) (tw_or1 (tt_cmp (L0 := []) (ho_ne hu) rs_ne (tr_isi (L0 := []) (T := "tuple") rfl b_isinstance rfl b_tuple (by decide +kernel) (tr_var (i := 0) rfl rfl (by decide) (by decide))) (tr_isi (L0 := []) (T := "tuple") rfl b_isinstance rfl b_tuple (by decide +kernel) (tr_var (i := 1) rfl rfl (by decide) (by decide))) (by decide) rfl)))) (sss_one (ss_ret (W := []) tr_bl (by decide)))
  sss_nil (by decide))
  (sss_one (ss_ret (W := []) (tr_and (L0 := []) (tr_cmp (L0 := []) (ho_eq hu) rs_eq (tr_len (L0 := []) rfl b_len (ta_cons (tr_var (i := 0) rfl rfl (by decide) (by decide)) ta_nil (by decide))) (tr_len (L0 := []) rfl b_len (ta_cons (tr_var (i := 1) rfl rfl (by decide) (by decide)) ta_nil (by decide))) (by decide) rfl) (tr_one (tr_all (L0 := []) rfl b_all (ta_cons (tr_F (by decide) (tf_lc [("k", 2)] (ti_rng1 (L0 := []) rfl b_range (tr_len (L0 := []) rfl b_len (ta_cons (tr_var (i := 1) rfl rfl (by decide) (by decide)) ta_nil (by decide)))) rfl (tg_name (i := 2) rfl rfl (by decide) (by decide)) tts_nil (tr_call F__law_same (hr.mono (by first | omega | exact Nat.le_refl _)) rfl (ta_cons (tr_ix (tr_var (i := 0) rfl rfl (by decide) (by decide)) (tr_var (i := 2) rfl rfl (by decide) (by decide)) (by decide) (by decide)) (ta_cons (tr_ix (tr_var (i := 1) rfl rfl (by decide) (by decide)) (tr_var (i := 2) rfl rfl (by decide) (by decide)) (by decide) (by decide)) ta_nil (by decide)) (by decide)) (by decide)) (by decide) (by decide) (by decide))) ta_nil (by decide))))) (by decide))))
  sss_nil (by decide))
  (sss_cons (O1 := []) (ss_if (W := []) (tt_W (tw_or (tt_isN (L0 := []) (tr_var (i := 1) rfl rfl (by decide) (by decide))) (tw_or1 (tt_tru (L := []) (tr_isi (L0 := []) (T := "bool") rfl b_isinstance rfl b_bool (by decide +kernel) (tr_var (i := 1) rfl rfl (by decide) (by decide))))))) (sss_one (ss_ret (W := []) (tr_ifExp (tt_isN (L0 := []) (tr_var (i := 1) rfl rfl (by decide) (by decide))) (tr_isN (L0 := []) (tr_var (i := 0) rfl rfl (by decide) (by decide))) (tr_and (L0 := []) (tr_isi (L0 := []) (T := "bool") rfl b_isinstance rfl b_bool (by decide +kernel) (tr_var (i := 0) rfl rfl (by decide) (by decide))) (tr_one (tr_cmp (L0 := []) (ho_eq hu) rs_eq (tr_var (i := 0) rfl rfl (by decide) (by decide)) (tr_var (i := 1) rfl rfl (by decide) (by decide)) (by decide) rfl)))) (by decide)))
  sss_nil (by decide))
  (sss_cons (O1 := []) (ss_if (W := []) (tt_tru (L := []) (tr_isi (L0 := []) (T := "str") rfl b_isinstance rfl b_str (by decide +kernel) (tr_var (i := 1) rfl rfl (by decide) (by decide)))) (sss_one (ss_ret (W := []) (tr_and (L0 := []) (tr_isi (L0 := []) (T := "str") rfl b_isinstance rfl b_str (by decide +kernel) (tr_var (i := 0) rfl rfl (by decide) (by decide))) (tr_one (tr_cmp (L0 := []) (ho_eq hu) rs_eq (tr_var (i := 0) rfl rfl (by decide) (by decide)) (tr_var (i := 1) rfl rfl (by decide) (by decide)) (by decide) rfl))) (by decide)))
  sss_nil (by decide))
  (sss_one (ss_ret (W := []) (tr_and (L0 := []) (tr_isi (L0 := []) (T := "int") rfl b_isinstance rfl b_int (by decide +kernel) (tr_var (i := 0) rfl rfl (by decide) (by decide))) (tr_and (L0 := []) (tr_not (L0 := []) (tr_isi (L0 := []) (T := "bool") rfl b_isinstance rfl b_bool (by decide +kernel) (tr_var (i := 0) rfl rfl (by decide) (by decide)))) (tr_one (tr_cmp (L0 := []) (ho_eq hu) rs_eq (tr_var (i := 0) rfl rfl (by decide) (by decide)) (tr_var (i := 1) rfl rfl (by decide) (by decide)) (by decide) rfl)))) (by decide))))))
/-! ### _law_core -/
abbrev s__law_core : Stmt := top 28
abbrev N__law_core : List Str := ["feed", "ins", "wide", "most", "slots", "rows", "bits", "step", "kind", "free", "slot", "told", "other", "outs", "order", "k", "shown"]
theorem sc__law_core : FnScope N__law_core ["feed", "ins", "wide", "most"] (defScope s__law_core) := ⟨rfl, rfl, rfl, by decide +kernel, rfl, by decide +kernel, by decide +kernel⟩
def mb__law_core : MM := (mSeq (mSet 4 (xLst (xLc (xRg1 (xVar 1)) [15] (bName 15) xYes (xVar 15))))
  (mSeq (mSetF 5 (xDisp xaNil))
  (mSeq (mSet 6 (xC (.int 0)))
  (mSeq (mFor (xRg1 (xCallT 0 m__law_draw (xaCons (xOp dAdd (xVar 3) (xC (.int 1))) xaNil))) (bName 7) (mForget [7, 8, 9, 10, 11, 12, 15] (mSeq (mSet 8 (xCallT 0 m__law_draw (xaCons (xC (.int 10)) xaNil)))
  (mSeq (mSet 9 (xLst (xLc (xRg1 (xC (.int 6))) [15] (bName 15) (xT (xOp (dIn true) (xVar 15) (xVar 4))) (xVar 15))))
  (mIf (xAnd (xOr (xT (xOp dEq (xVar 8) (xC (.int 0)))) (xT (xOp dEq (xFn dLen (xaCons (xVar 4) xaNil)) (xC (.int 0))))) (xT (xOp dLt (xFn dLen (xaCons (xVar 4) xaNil)) (xVar 2)))) (mSeq (mSet 10 (xOp dIx (xVar 9) (xCallT 0 m__law_draw (xaCons (xFn dLen (xaCons (xVar 9) xaNil)) xaNil))))
  (mSeq (mApp 5 (xTup (xaCons (xC (.str "new")) (xaCons (xVar 10) xaNil))))
  (mSet 4 (xLst (xfMap dSorted (xCat (xList (xVar 4)) (xDisp (xaCons (xVar 10) xaNil))))))))
  (mIf (xT (xOp dGt (xFn dLen (xaCons (xVar 4) xaNil)) (xC (.int 0)))) (mSeq (mSet 10 (xOp dIx (xVar 4) (xCallT 0 m__law_draw (xaCons (xFn dLen (xaCons (xVar 4) xaNil)) xaNil))))
  (mIf (xAnd (xT (xOp dEq (xVar 8) (xC (.int 1)))) (xT (xOp dLt (xVar 6) (xC (.int 4))))) (mSeq (mApp 5 (xTup (xaCons (xC (.str "read")) (xaCons (xVar 10) (xaCons (xVar 6) xaNil)))))
  (mSeq (mAug dAddI 6 (xC (.int 1)))
  (mSet 4 (xLst (xLc (xSeq (xVar 4)) [15] (bName 15) (xT (xOp dNe (xVar 15) (xVar 10))) (xVar 15))))))
  (mIf (xAnd (xT (xOp dEq (xVar 8) (xC (.int 2)))) (xT (xOp dGt (xVar 6) (xC (.int 0))))) (mSeq (mSet 11 (xLst (xLc (xRg1 (xVar 6)) [15] (bName 15) (xT (xOp dEq (xCallT 0 m__law_draw (xaCons (xC (.int 2)) xaNil)) (xC (.int 0)))) (xVar 15))))
  (mSeq (mIf (xT (xOp dEq (xFn dLen (xaCons (xVar 11) xaNil)) (xC (.int 0)))) (mSet 11 (xLst (xDisp (xaCons (xCallT 0 m__law_draw (xaCons (xVar 6) xaNil)) xaNil))))
  mSkip)
  (mApp 5 (xTup (xaCons (xC (.str "fix")) (xaCons (xOp dIx (xC (.str "XYZ")) (xCallT 0 m__law_draw (xaCons (xC (.int 3)) xaNil))) (xaCons (xVar 10) (xaCons (xVar 11) xaNil))))))))
  (mIf (xAnd (xT (xOp dGt (xVar 8) (xC (.int 6)))) (xT (xOp dGt (xFn dLen (xaCons (xVar 4) xaNil)) (xC (.int 1))))) (mSeq (mSet 12 (xOp dIx (xLst (xLc (xSeq (xVar 4)) [15] (bName 15) (xT (xOp dNe (xVar 15) (xVar 10))) (xVar 15))) (xCallT 0 m__law_draw (xaCons (xOp dSub (xFn dLen (xaCons (xVar 4) xaNil)) (xC (.int 1))) xaNil))))
  (mApp 5 (xTup (xaCons (xC (.str "turn")) (xaCons (xOp dIx (xLst (xDisp (xaCons (xC (.str "cx")) (xaCons (xC (.str "cz")) (xaCons (xC (.str "sw")) xaNil))))) (xCallT 0 m__law_draw (xaCons (xC (.int 3)) xaNil))) (xaCons (xLst (xDisp (xaCons (xVar 10) (xaCons (xVar 12) xaNil)))) xaNil))))))
  (mApp 5 (xTup (xaCons (xC (.str "turn")) (xaCons (xOp dIx (xLst (xDisp (xaCons (xC (.str "h")) (xaCons (xC (.str "s")) (xaCons (xC (.str "h")) (xaCons (xC (.str "r")) (xaCons (xC (.str "x")) (xaCons (xC (.str "y")) (xaCons (xC (.str "z")) xaNil))))))))) (xCallT 0 m__law_draw (xaCons (xC (.int 7)) xaNil))) (xaCons (xLst (xDisp (xaCons (xVar 10) xaNil))) xaNil)))))))))
  mSkip))))))
  (mSeq (mSetF 13 (xSeq (xVar 4)))
  (mSeq (mSetF 14 (xDisp xaNil))
  (mSeq (mFor (xRg1 (xFn dLen (xaCons (xVar 13) xaNil))) (bName 15) (mForget [15] (mApp 14 (xPopAt 13 (xCallT 0 m__law_draw (xaCons (xFn dLen (xaCons (xVar 13) xaNil)) xaNil))))))
  (mSeq (mSet 16 (xLst (xLc (xRg1 (xVar 6)) [15] (bName 15) (xT (xOp dGt (xCallT 0 m__law_draw (xaCons (xC (.int 3)) xaNil)) (xC (.int 0)))) (xVar 15))))
  (mSeq (mIf (xT (xOp dEq (xCallT 0 m__law_draw (xaCons (xC (.int 3)) xaNil)) (xC (.int 0)))) (mSet 16 (xLst (xfMap (fun ds => some ds.reverse) (xList (xVar 16)))))
  mSkip)
  (mRet (xTup (xaCons (xVar 1) (xaCons (xVar 5) (xaCons (xVar 14) (xaCons (xVar 16) xaNil)))))))))))))))
def m__law_core : List D → List D → Option (D × List D) := fnT 4 17 mb__law_core
theorem ok__law_core {f : Addr} {fd : FuncData} (F : FnP K "_law_core" "_law_core" s__law_core f fd) (b_range : mg "range" = none) (b_len : mg "len" = none) (b_sorted : mg "sorted" = none) (b_list : mg "list" = none) (F__law_draw : FnAt P w K mg base 1 "_law_draw" ["feed", "many"] (spT K m__law_draw)) : FnOk P w K mg base CX0 2 f fd ["feed", "ins", "wide", "most"] (spT K m__law_core) :=
  fn_T F sc__law_core rfl rfl fun A hr => have hu := u64 hr
  (sss_cons (O1 := [0]) (ss_setFu (W := []) (i := 4) (O' := [0]) rfl rfl (tf_lc [("k", 15)] (ti_rng1 (L0 := []) rfl b_range (tr_var (i := 1) rfl rfl (by decide) (by decide))) rfl (tg_name (i := 15) rfl rfl (by decide) (by decide)) tts_nil (tr_var (i := 15) rfl rfl (by decide) (by decide)) (by decide) (by decide) (by decide)) (by decide) (by decide) (by decide) (by decide))
  (sss_cons (O1 := [0, 5]) (ss_setF (W := []) (i := 5) (O' := [0, 5]) rfl rfl (tf_disp ta_nil (by decide)) (by decide) (by decide) (by decide) (by decide))
  (sss_cons (O1 := [0, 5]) (ss_set (W := []) (i := 6) (O' := [0, 5]) rfl rfl tr_int (by decide) (by decide) (by decide) (by decide))
  (sss_cons (O1 := [0, 5]) (ss_for (W := [0]) (vs := [7]) (ti_rng1 (L0 := [0]) rfl b_range (tr_callT (i := 0) F__law_draw (hr.mono (by decide)) rfl rfl rfl (by decide) (ta_wk (ta_cons (tr_opS (L0 := []) ho_add rs_add (tr_var (i := 3) rfl rfl (by decide) (by decide)) tr_int (by decide)) ta_nil (by decide))) (by decide) (by decide))) (tg_name (i := 7) rfl rfl (by decide) (by decide)) (sss_forget [7, 8, 9, 10, 11, 12, 15] (sss_cons (O1 := [0, 5]) (ss_set (W := [0]) (i := 8) (O' := [0, 5]) rfl rfl (tr_callT (i := 0) F__law_draw (hr.mono (by decide)) rfl rfl rfl (by decide) (ta_wk (ta_cons tr_int ta_nil (by decide))) (by decide) (by decide)) (by decide) (by decide) (by decide) (by decide))
  (sss_cons (O1 := [0, 5]) (ss_setLcU (W := []) (O' := [0, 5]) (setLc_t (W := []) (i := 9) [("k", 15)] rfl rfl rfl (ti_rng1 (L0 := []) rfl b_range tr_int) rfl (tg_name (i := 15) rfl rfl (by decide) (by decide)) (tts_one (tt_cmp (L0 := []) ho_nin (rs_in true) (tr_var (i := 15) rfl rfl (by decide) (by decide)) (tr_var (i := 4) rfl rfl (by decide) (by decide)) (by decide) rfl)) (tr_var (i := 15) rfl rfl (by decide) (by decide)) (by decide) (by decide)) (by decide) (by decide) (by decide) (by decide))
  (sss_one (ss_if (W := []) (tt_W (tw_and (tt_W (tw_or (tt_cmp (L0 := []) (ho_eq hu) rs_eq (tr_var (i := 8) rfl rfl (by decide) (by decide)) tr_int (by decide) rfl) (tw_or1 (tt_cmp (L0 := []) (ho_eq hu) rs_eq (tr_len (L0 := []) rfl b_len (ta_cons (tr_var (i := 4) rfl rfl (by decide) (by decide)) ta_nil (by decide))) tr_int (by decide) rfl)))) (tw_and1 (tt_cmp (L0 := []) ho_lt rs_lt (tr_len (L0 := []) rfl b_len (ta_cons (tr_var (i := 4) rfl rfl (by decide) (by decide)) ta_nil (by decide))) (tr_var (i := 2) rfl rfl (by decide) (by decide)) (by decide) rfl)))) (sss_cons (O1 := [0, 5]) (ss_set (W := [0]) (i := 10) (O' := [0, 5]) rfl rfl (tr_ix (tr_wk (tr_var (i := 9) rfl rfl (by decide) (by decide))) (tr_callT (i := 0) F__law_draw (hr.mono (by decide)) rfl rfl rfl (by decide) (ta_wk (ta_cons (tr_len (L0 := []) rfl b_len (ta_cons (tr_var (i := 9) rfl rfl (by decide) (by decide)) ta_nil (by decide))) ta_nil (by decide))) (by decide) (by decide)) (by decide) (by decide)) (by decide) (by decide) (by decide) (by decide))
  (sss_cons (O1 := [0, 5]) (ss_app (W := []) (i := 5) rfl rfl (by decide) (tr_tup (ta_cons tr_str (ta_cons (tr_var (i := 10) rfl rfl (by decide) (by decide)) ta_nil (by decide)) (by decide)) (by decide)) (by decide))
  (sss_one (ss_setFu (W := []) (i := 4) (O' := [0, 5]) rfl rfl (tf_sorted (L0 := []) rfl b_sorted (tb_F (by decide) (tf_cat (tb_E (by decide) (tr_var (i := 4) rfl rfl (by decide) (by decide))) (tb_F (by decide) (tf_disp (ta_cons (tr_var (i := 10) rfl rfl (by decide) (by decide)) ta_nil (by decide)) (by decide))) (by decide) (by decide))) (by decide)) (by decide) (by decide) (by decide) (by decide)))))
  (sss_one (ss_if (W := []) (tt_cmp (L0 := []) ho_gt rs_gt (tr_len (L0 := []) rfl b_len (ta_cons (tr_var (i := 4) rfl rfl (by decide) (by decide)) ta_nil (by decide))) tr_int (by decide) rfl) (sss_cons (O1 := [0, 5]) (ss_set (W := [0]) (i := 10) (O' := [0, 5]) rfl rfl (tr_ix (tr_wk (tr_var (i := 4) rfl rfl (by decide) (by decide))) (tr_callT (i := 0) F__law_draw (hr.mono (by decide)) rfl rfl rfl (by decide) (ta_wk (ta_cons (tr_len (L0 := []) rfl b_len (ta_cons (tr_var (i := 4) rfl rfl (by decide) (by decide)) ta_nil (by decide))) ta_nil (by decide))) (by decide) (by decide)) (by decide) (by decide)) (by decide) (by decide) (by decide) (by decide))
  (sss_one (ss_if (W := []) (tt_W (tw_and (tt_cmp (L0 := []) (ho_eq hu) rs_eq (tr_var (i := 8) rfl rfl (by decide) (by decide)) tr_int (by decide) rfl) (tw_and1 (tt_cmp (L0 := []) ho_lt rs_lt (tr_var (i := 6) rfl rfl (by decide) (by decide)) tr_int (by decide) rfl)))) (sss_cons (O1 := [0, 5]) (ss_app (W := []) (i := 5) rfl rfl (by decide) (tr_tup (ta_cons tr_str (ta_cons (tr_var (i := 10) rfl rfl (by decide) (by decide)) (ta_cons (tr_var (i := 6) rfl rfl (by decide) (by decide)) ta_nil (by decide)) (by decide)) (by decide)) (by decide)) (by decide))
  (sss_cons (O1 := [0, 5]) (ss_aug (W := []) (i := 6) ho_iadd rs_addI rfl rfl (by decide) (by decide) (by decide) tr_int (by decide))
  (sss_one (ss_setFu (W := []) (i := 4) (O' := [0, 5]) rfl rfl (tf_lc [("k", 15)] (ti_E (by decide) (tr_var (i := 4) rfl rfl (by decide) (by decide))) rfl (tg_name (i := 15) rfl rfl (by decide) (by decide)) (tts_one (tt_cmp (L0 := []) (ho_ne hu) rs_ne (tr_var (i := 15) rfl rfl (by decide) (by decide)) (tr_var (i := 10) rfl rfl (by decide) (by decide)) (by decide) rfl)) (tr_var (i := 15) rfl rfl (by decide) (by decide)) (by decide) (by decide) (by decide)) (by decide) (by decide) (by decide) (by decide)))))
  (sss_one (ss_if (W := []) (tt_W (tw_and (tt_cmp (L0 := []) (ho_eq hu) rs_eq (tr_var (i := 8) rfl rfl (by decide) (by decide)) tr_int (by decide) rfl) (tw_and1 (tt_cmp (L0 := []) ho_gt rs_gt (tr_var (i := 6) rfl rfl (by decide) (by decide)) tr_int (by decide) rfl)))) (sss_cons (O1 := [0, 5]) (ss_setLcU (W := [0]) (O' := [0, 5]) (setLc_t (W := [0]) (i := 11) [("k", 15)] rfl rfl rfl (ti_rng1 (L0 := [0]) rfl b_range (tr_wk (tr_var (i := 6) rfl rfl (by decide) (by decide)))) rfl (tg_name (i := 15) rfl rfl (by decide) (by decide)) (tts_one (tt_cmp (L0 := [0]) (ho_eq hu) rs_eq (tr_callT (i := 0) F__law_draw (hr.mono (by decide)) rfl rfl rfl (by decide) (ta_wk (ta_cons tr_int ta_nil (by decide))) (by decide) (by decide)) (tr_wk tr_int) (by decide) rfl)) (tr_wk (tr_var (i := 15) rfl rfl (by decide) (by decide))) (by decide) (by decide)) (by decide) (by decide) (by decide) (by decide))
  (sss_cons (O1 := [0, 5]) (ss_if (W := []) (tt_cmp (L0 := []) (ho_eq hu) rs_eq (tr_len (L0 := []) rfl b_len (ta_cons (tr_var (i := 11) rfl rfl (by decide) (by decide)) ta_nil (by decide))) tr_int (by decide) rfl) (sss_one (ss_setFu (W := [0]) (i := 11) (O' := [0, 5]) rfl rfl (tf_disp (ta_cons (tr_callT (i := 0) F__law_draw (hr.mono (by decide)) rfl rfl rfl (by decide) (ta_wk (ta_cons (tr_var (i := 6) rfl rfl (by decide) (by decide)) ta_nil (by decide))) (by decide) (by decide)) ta_nil (by decide)) (by decide)) (by decide) (by decide) (by decide) (by decide)))
  sss_nil (by decide))
  (sss_one (ss_app (W := [0]) (i := 5) rfl rfl (by decide) (tr_tup (ta_cons (tr_wk tr_str) (ta_cons (tr_ix (tr_wk tr_str) (tr_callT (i := 0) F__law_draw (hr.mono (by decide)) rfl rfl rfl (by decide) (ta_wk (ta_cons tr_int ta_nil (by decide))) (by decide) (by decide)) (by decide) (by decide)) (ta_cons (tr_wk (tr_var (i := 10) rfl rfl (by decide) (by decide))) (ta_cons (tr_wk (tr_var (i := 11) rfl rfl (by decide) (by decide))) ta_nil (by decide)) (by decide)) (by decide)) (by decide)) (by decide)) (by decide)))))
  (sss_one (ss_if (W := []) (tt_W (tw_and (tt_cmp (L0 := []) ho_gt rs_gt (tr_var (i := 8) rfl rfl (by decide) (by decide)) tr_int (by decide) rfl) (tw_and1 (tt_cmp (L0 := []) ho_gt rs_gt (tr_len (L0 := []) rfl b_len (ta_cons (tr_var (i := 4) rfl rfl (by decide) (by decide)) ta_nil (by decide))) tr_int (by decide) rfl)))) (sss_cons (O1 := [0, 5]) (ss_set (W := [0]) (i := 12) (O' := [0, 5]) rfl rfl (tr_ix (tr_wk (tr_F (by decide) (tf_lc [("k", 15)] (ti_E (by decide) (tr_var (i := 4) rfl rfl (by decide) (by decide))) rfl (tg_name (i := 15) rfl rfl (by decide) (by decide)) (tts_one (tt_cmp (L0 := []) (ho_ne hu) rs_ne (tr_var (i := 15) rfl rfl (by decide) (by decide)) (tr_var (i := 10) rfl rfl (by decide) (by decide)) (by decide) rfl)) (tr_var (i := 15) rfl rfl (by decide) (by decide)) (by decide) (by decide) (by decide)))) (tr_callT (i := 0) F__law_draw (hr.mono (by decide)) rfl rfl rfl (by decide) (ta_wk (ta_cons (tr_opS (L0 := []) ho_sub rs_sub (tr_len (L0 := []) rfl b_len (ta_cons (tr_var (i := 4) rfl rfl (by decide) (by decide)) ta_nil (by decide))) tr_int (by decide)) ta_nil (by decide))) (by decide) (by decide)) (by decide) (by decide)) (by decide) (by decide) (by decide) (by decide))
  (sss_one (ss_app (W := [0]) (i := 5) rfl rfl (by decide) (tr_tup (ta_cons (tr_wk tr_str) (ta_cons (tr_ix (tr_wk (tr_F (by decide) (tf_disp (ta_cons tr_str (ta_cons tr_str (ta_cons tr_str ta_nil (by decide)) (by decide)) (by decide)) (by decide)))) (tr_callT (i := 0) F__law_draw (hr.mono (by decide)) rfl rfl rfl (by decide) (ta_wk (ta_cons tr_int ta_nil (by decide))) (by decide) (by decide)) (by decide) (by decide)) (ta_cons (tr_wk (tr_F (by decide) (tf_disp (ta_cons (tr_var (i := 10) rfl rfl (by decide) (by decide)) (ta_cons (tr_var (i := 12) rfl rfl (by decide) (by decide)) ta_nil (by decide)) (by decide)) (by decide)))) ta_nil (by decide)) (by decide)) (by decide)) (by decide)) (by decide))))
  (sss_one (ss_app (W := [0]) (i := 5) rfl rfl (by decide) (tr_tup (ta_cons (tr_wk tr_str) (ta_cons (tr_ix (tr_wk (tr_F (by decide) (tf_disp (ta_cons tr_str (ta_cons tr_str (ta_cons tr_str (ta_cons tr_str (ta_cons tr_str (ta_cons tr_str (ta_cons tr_str ta_nil (by decide)) (by decide)) (by decide)) (by decide)) (by decide)) (by decide)) (by decide)) (by decide)))) (tr_callT (i := 0) F__law_draw (hr.mono (by decide)) rfl rfl rfl (by decide) (ta_wk (ta_cons tr_int ta_nil (by decide))) (by decide) (by decide)) (by decide) (by decide)) (ta_cons (tr_wk (tr_F (by decide) (tf_disp (ta_cons (tr_var (i := 10) rfl rfl (by decide) (by decide)) ta_nil (by decide)) (by decide)))) ta_nil (by decide)) (by decide)) (by decide)) (by decide)) (by decide))) (by decide))) (by decide))) (by decide))))
  sss_nil (by decide))) (by decide))))) (by decide)) (by decide) (by decide))
  (sss_free (L := [0]) (sss_cons (O1 := [0, 13]) (ss_setF (W := []) (i := 13) (O' := [0, 13]) rfl rfl (tf_list rfl b_list (tq_E (by decide) (tr_var (i := 4) rfl rfl (by decide) (by decide))) (by decide)) (by decide) (by decide) (by decide) (by decide))
  (sss_cons (O1 := [0, 13, 14]) (ss_setF (W := []) (i := 14) (O' := [0, 13, 14]) rfl rfl (tf_disp ta_nil (by decide)) (by decide) (by decide) (by decide) (by decide))
  (sss_cons (O1 := [0, 13, 14]) (ss_for (W := []) (vs := [15]) (ti_rng1 (L0 := []) rfl b_range (tr_len (L0 := []) rfl b_len (ta_cons (tr_var (i := 13) rfl rfl (by decide) (by decide)) ta_nil (by decide)))) (tg_name (i := 15) rfl rfl (by decide) (by decide)) (sss_forget [15] (sss_one (ss_app (W := [0, 13]) (i := 14) rfl rfl (by decide) (tr_popAt (L0 := [0, 13]) (i := 13) rfl rfl (by decide) (by decide) (tr_callT (i := 0) F__law_draw (hr.mono (by decide)) rfl rfl rfl (by decide) (ta_wk (ta_cons (tr_len (L0 := []) rfl b_len (ta_cons (tr_var (i := 13) rfl rfl (by decide) (by decide)) ta_nil (by decide))) ta_nil (by decide))) (by decide) (by decide)) (by decide) (by decide)) (by decide))) (by decide)) (by decide) (by decide))
  (sss_free (L := [0]) (sss_cons (O1 := [0]) (ss_setLcU (W := [0]) (O' := [0]) (setLc_t (W := [0]) (i := 16) [("k", 15)] rfl rfl rfl (ti_rng1 (L0 := [0]) rfl b_range (tr_wk (tr_var (i := 6) rfl rfl (by decide) (by decide)))) rfl (tg_name (i := 15) rfl rfl (by decide) (by decide)) (tts_one (tt_cmp (L0 := [0]) ho_gt rs_gt (tr_callT (i := 0) F__law_draw (hr.mono (by decide)) rfl rfl rfl (by decide) (ta_wk (ta_cons tr_int ta_nil (by decide))) (by decide) (by decide)) (tr_wk tr_int) (by decide) rfl)) (tr_wk (tr_var (i := 15) rfl rfl (by decide) (by decide))) (by decide) (by decide)) (by decide) (by decide) (by decide) (by decide))
  (sss_cons (O1 := [0]) (ss_if (W := [0]) (tt_cmp (L0 := [0]) (ho_eq hu) rs_eq (tr_callT (i := 0) F__law_draw (hr.mono (by decide)) rfl rfl rfl (by decide) (ta_wk (ta_cons tr_int ta_nil (by decide))) (by decide) (by decide)) (tr_wk tr_int) (by decide) rfl) (sss_one (ss_setFu (W := []) (i := 16) (O' := [0]) rfl rfl (tf_rev (tb_E (by decide) (tr_var (i := 16) rfl rfl (by decide) (by decide))) (by decide)) (by decide) (by decide) (by decide) (by decide)))
  sss_nil (by decide))
  (sss_one (ss_ret (W := []) (tr_tup (ta_cons (tr_var (i := 1) rfl rfl (by decide) (by decide)) (ta_cons (tr_var (i := 5) rfl rfl (by decide) (by decide)) (ta_cons (tr_var (i := 14) rfl rfl (by decide) (by decide)) (ta_cons (tr_var (i := 16) rfl rfl (by decide) (by decide)) ta_nil (by decide)) (by decide)) (by decide)) (by decide)) (by decide)) (by decide))))) (by decide) (by decide))))) (by decide) (by decide))))))
/-! ### _law_chain -/
abbrev s__law_chain : Stmt := top 29
abbrev N__law_chain : List Str := ["rows", "chains", "step", "k", "best", "chain", "found"]
theorem sc__law_chain : FnScope N__law_chain ["rows"] (defScope s__law_chain) := ⟨rfl, rfl, rfl, by decide +kernel, rfl, by decide +kernel, by decide +kernel⟩
def mb__law_chain : MM := (mSeq (mSetF 1 (xDisp xaNil))
  (mSeq (mFor (xRg1 (xFn dLen (xaCons (xVar 0) xaNil))) (bName 2) (mForget [2, 3, 4, 5] (mSeq (mSet 3 (xOp dSub (xOp dSub (xFn dLen (xaCons (xVar 0) xaNil)) (xC (.int 1))) (xVar 2)))
  (mSeq (mSet 4 (xLst (xDisp xaNil)))
  (mSeq (mForO 1 (bName 5) (mForget [5] (mIf (xAnd (xT (xOp dGe (xFn dLen (xaCons (xVar 5) xaNil)) (xFn dLen (xaCons (xVar 4) xaNil)))) (xTru (xFn m__law_hang (xaCons (xOp dIx (xVar 0) (xVar 3)) (xaCons (xOp dIx (xVar 0) (xOp dIx (xVar 5) (xC (.int 0)))) xaNil))))) (mSet 4 (xVar 5))
  mSkip)))
  (mApp 1 (xLst (xCat (xDisp (xaCons (xVar 3) xaNil)) (xList (xVar 4))))))))))
  (mSeq (mSet 6 (xLst (xDisp xaNil)))
  (mSeq (mFor (xSeq (xVar 1)) (bName 5) (mForget [5] (mIf (xT (xOp dGe (xFn dLen (xaCons (xVar 5) xaNil)) (xFn dLen (xaCons (xVar 6) xaNil)))) (mSet 6 (xVar 5))
  mSkip)))
  (mRet (xVar 6))))))
def m__law_chain : List D → Option D := fnP 1 7 mb__law_chain
theorem ok__law_chain {f : Addr} {fd : FuncData} (F : FnP K "_law_chain" "_law_chain" s__law_chain f fd) (b_range : mg "range" = none) (b_len : mg "len" = none) (F__law_hang : FnAt P w K mg base 3 "_law_hang" ["one", "other"] (spP K m__law_hang)) : FnOk P w K mg base CX0 4 f fd ["rows"] (spP K m__law_chain) :=
  fn_P F sc__law_chain rfl rfl fun A hr => have hu := u64 hr
  (sss_cons (O1 := [1]) (ss_setF (W := []) (i := 1) (O' := [1]) rfl rfl (tf_disp ta_nil (by decide)) (by decide) (by decide) (by decide) (by decide))
  (sss_cons (O1 := [1]) (ss_for (W := []) (vs := [2]) (ti_rng1 (L0 := []) rfl b_range (tr_len (L0 := []) rfl b_len (ta_cons (tr_var (i := 0) rfl rfl (by decide) (by decide)) ta_nil (by decide)))) (tg_name (i := 2) rfl rfl (by decide) (by decide)) (sss_forget [2, 3, 4, 5] (sss_cons (O1 := [1]) (ss_set (W := []) (i := 3) (O' := [1]) rfl rfl (tr_opS (L0 := []) ho_sub rs_sub (tr_opS (L0 := []) ho_sub rs_sub (tr_len (L0 := []) rfl b_len (ta_cons (tr_var (i := 0) rfl rfl (by decide) (by decide)) ta_nil (by decide))) tr_int (by decide)) (tr_var (i := 2) rfl rfl (by decide) (by decide)) (by decide)) (by decide) (by decide) (by decide) (by decide))
  (sss_cons (O1 := [1]) (ss_setFu (W := []) (i := 4) (O' := [1]) rfl rfl (tf_disp ta_nil (by decide)) (by decide) (by decide) (by decide) (by decide))
  (sss_cons (O1 := [1]) (ss_forO (i0 := 1) (vs := [5]) rfl rfl (by decide) (tg_name (i := 5) rfl rfl (by decide) (by decide)) (sss_forget [5] (sss_one (ss_if (W := []) (tt_W (tw_and (tt_cmp (L0 := []) ho_ge rs_ge (tr_len (L0 := []) rfl b_len (ta_cons (tr_var (i := 5) rfl rfl (by decide) (by decide)) ta_nil (by decide))) (tr_len (L0 := []) rfl b_len (ta_cons (tr_var (i := 4) rfl rfl (by decide) (by decide)) ta_nil (by decide))) (by decide) rfl) (tw_and1 (tt_tru (L := []) (tr_call F__law_hang (hr.mono (by decide)) rfl (ta_cons (tr_ix (tr_var (i := 0) rfl rfl (by decide) (by decide)) (tr_var (i := 3) rfl rfl (by decide) (by decide)) (by decide) (by decide)) (ta_cons (tr_ix (tr_var (i := 0) rfl rfl (by decide) (by decide)) (tr_ix (tr_var (i := 5) rfl rfl (by decide) (by decide)) tr_int (by decide) (by decide)) (by decide) (by decide)) ta_nil (by decide)) (by decide)) (by decide)))))) (sss_one (ss_set (W := []) (i := 4) (O' := [1]) rfl rfl (tr_var (i := 5) rfl rfl (by decide) (by decide)) (by decide) (by decide) (by decide) (by decide)))
  sss_nil (by decide))) (by decide)) (by decide))
  (sss_one (ss_app (W := []) (i := 1) rfl rfl (by decide) (tr_F (by decide) (tf_cat (tb_F (by decide) (tf_disp (ta_cons (tr_var (i := 3) rfl rfl (by decide) (by decide)) ta_nil (by decide)) (by decide))) (tb_E (by decide) (tr_var (i := 4) rfl rfl (by decide) (by decide))) (by decide) (by decide))) (by decide)))))) (by decide)) (by decide) (by decide))
  (sss_free (L := []) (sss_cons (O1 := []) (ss_setFu (W := []) (i := 6) (O' := []) rfl rfl (tf_disp ta_nil (by decide)) (by decide) (by decide) (by decide) (by decide))
  (sss_cons (O1 := []) (ss_for (W := []) (vs := [5]) (ti_E (by decide) (tr_var (i := 1) rfl rfl (by decide) (by decide))) (tg_name (i := 5) rfl rfl (by decide) (by decide)) (sss_forget [5] (sss_one (ss_if (W := []) (tt_cmp (L0 := []) ho_ge rs_ge (tr_len (L0 := []) rfl b_len (ta_cons (tr_var (i := 5) rfl rfl (by decide) (by decide)) ta_nil (by decide))) (tr_len (L0 := []) rfl b_len (ta_cons (tr_var (i := 6) rfl rfl (by decide) (by decide)) ta_nil (by decide))) (by decide) rfl) (sss_one (ss_set (W := []) (i := 6) (O' := []) rfl rfl (tr_var (i := 5) rfl rfl (by decide) (by decide)) (by decide) (by decide) (by decide) (by decide)))
  sss_nil (by decide))) (by decide)) (by decide) (by decide))
  (sss_one (ss_ret (W := []) (tr_var (i := 6) rfl rfl (by decide) (by decide)) (by decide))))) (by decide) (by decide))))
/-! ### _law_right -/
abbrev s__law_right : Stmt := top 30
abbrev N__law_right : List Str := ["core", "handed", "levels", "due", "level", "chain", "turn", "told", "depth", "k"]
theorem sc__law_right : FnScope N__law_right ["core"] (defScope s__law_right) := ⟨rfl, rfl, rfl, by decide +kernel, rfl, by decide +kernel, by decide +kernel⟩
def mb__law_right : MM := (mSeq (mSet 1 (xFn m__law_copy (xaCons (xVar 0) xaNil)))
  (mSeq (mSet 2 (xLst (xfMap m__law_levels (xaCons (xOp dIx (xVar 0) (xC (.int 1))) xaNil))))
  (mSeq (mSetF 3 (xDisp xaNil))
  (mSeq (mFor (xRg1 (xOp dAdd (xFn dMax (xaCons (xLst (xCat (xList (xVar 2)) (xDisp (xaCons (xUn dNeg (xC (.int 1))) xaNil)))) xaNil)) (xC (.int 1)))) (bName 4) (mForget [4] (mApp 3 (xLst (xLc (xRg1 (xFn dLen (xaCons (xVar 2) xaNil))) [9] (bName 9) (xT (xOp dEq (xOp dIx (xVar 2) (xVar 9)) (xVar 4))) (xVar 9))))))
  (mSeq (mSet 5 (xFn m__law_chain (xaCons (xOp dIx (xVar 0) (xC (.int 1))) xaNil)))
  (mSeq (mFor (xRg1 (xC (.int 2))) (bName 6) (mForget [6, 7, 8] (mSeq (mSetF 7 (xfMap m_steps_of (xaCons (xVar 1) xaNil)))
  (mSpoil 8 m_depth_told (xaCons (xVar 1) xaNil) (pGd 8 (xOr (xNot (xTru (xFn m__law_same (xaCons (xVar 7) (xaCons (xVar 3) xaNil))))) (xOr (xNot (xTru (xFn m__law_same (xaCons (xVar 8) (xaCons (xTup (xaCons (xFn dLen (xaCons (xVar 3) xaNil)) (xaCons (xVar 5) xaNil))) xaNil))))) (xT (xOp dNe (xVar 1) (xVar 0))))) (xC (.bool false)) (pGd 8 (xOr (xT (xOp dNotB (xFn m_shows_steps (xaCons (xVar 1) (xaCons (xVar 7) xaNil))) (xC (.bool true)))) (xT (xOp dNotB (xFn m_shows_chain (xaCons (xVar 1) (xaCons (xOp dIx (xVar 8) (xC (.int 1))) xaNil))) (xC (.bool true))))) (xC (.bool false)) (pApp 7 (xLst (xDisp xaNil)) (pEnd 1 (xC (.int 0))))))))))
  (mRet (xOp dEq (xFn dLen (xaCons (xVar 5) xaNil)) (xFn dLen (xaCons (xVar 3) xaNil))))))))))
def m__law_right : List D → Option D := fnP 1 10 mb__law_right
theorem ok__law_right {f : Addr} {fd : FuncData} (F : FnP K "_law_right" "_law_right" s__law_right f fd) (b_range : mg "range" = none) (b_max : mg "max" = none) (b_len : mg "len" = none) (F__law_copy : FnAt P w K mg base 1 "_law_copy" ["core"] (spP K m__law_copy)) (F__law_levels : FnAt P w K mg base 4 "_law_levels" ["rows"] (spL K m__law_levels)) (F__law_chain : FnAt P w K mg base 4 "_law_chain" ["rows"] (spP K m__law_chain)) (F_steps_of : FnAt P w K mg base 5 "steps_of" ["core"] (spL K m_steps_of)) (F_depth_told : FnAt P w K mg base 5 "depth_told" ["core"] (spQ K 1 m_depth_told)) (F_shows_steps : FnAt P w K mg base 4 "shows_steps" ["core", "steps"] (spP K m_shows_steps)) (F_shows_chain : FnAt P w K mg base 4 "shows_chain" ["core", "chain"] (spP K m_shows_chain)) (F__law_same : FnAt P w K mg base 41 "_law_same" ["actual", "due"] (spP K m__law_same)) : FnOk P w K mg base CX0 42 f fd ["core"] (spP K m__law_right) :=
  fn_P F sc__law_right rfl rfl fun A hr => have hu := u64 hr
  (sss_cons (O1 := []) (ss_set (W := []) (i := 1) (O' := []) rfl rfl (tr_call F__law_copy (hr.mono (by decide)) rfl (ta_cons (tr_var (i := 0) rfl rfl (by decide) (by decide)) ta_nil (by decide)) (by decide)) (by decide) (by decide) (by decide) (by decide))
  (sss_cons (O1 := []) (ss_setFu (W := []) (i := 2) (O' := []) rfl rfl (tf_call F__law_levels (hr.mono (by decide)) rfl (ta_cons (tr_ix (tr_var (i := 0) rfl rfl (by decide) (by decide)) tr_int (by decide) (by decide)) ta_nil (by decide)) (by decide) (by decide)) (by decide) (by decide) (by decide) (by decide))
  (sss_cons (O1 := [3]) (ss_setF (W := []) (i := 3) (O' := [3]) rfl rfl (tf_disp ta_nil (by decide)) (by decide) (by decide) (by decide) (by decide))
  (sss_cons (O1 := [3]) (ss_for (W := []) (vs := [4]) (ti_rng1 (L0 := []) rfl b_range (tr_opS (L0 := []) ho_add rs_add (tr_max1 (L0 := []) rfl b_max (ta_cons (tr_F (by decide) (tf_cat (tb_E (by decide) (tr_var (i := 2) rfl rfl (by decide) (by decide))) (tb_F (by decide) (tf_disp (ta_cons (tr_neg (L0 := []) tr_int) ta_nil (by decide)) (by decide))) (by decide) (by decide))) ta_nil (by decide))) tr_int (by decide))) (tg_name (i := 4) rfl rfl (by decide) (by decide)) (sss_forget [4] (sss_one (ss_app (W := []) (i := 3) rfl rfl (by decide) (tr_F (by decide) (tf_lc [("k", 9)] (ti_rng1 (L0 := []) rfl b_range (tr_len (L0 := []) rfl b_len (ta_cons (tr_var (i := 2) rfl rfl (by decide) (by decide)) ta_nil (by decide)))) rfl (tg_name (i := 9) rfl rfl (by decide) (by decide)) (tts_one (tt_cmp (L0 := []) (ho_eq hu) rs_eq (tr_ix (tr_var (i := 2) rfl rfl (by decide) (by decide)) (tr_var (i := 9) rfl rfl (by decide) (by decide)) (by decide) (by decide)) (tr_var (i := 4) rfl rfl (by decide) (by decide)) (by decide) rfl)) (tr_var (i := 9) rfl rfl (by decide) (by decide)) (by decide) (by decide) (by decide))) (by decide))) (by decide)) (by decide) (by decide))
  (sss_free (L := []) (sss_cons (O1 := []) (ss_set (W := []) (i := 5) (O' := []) rfl rfl (tr_call F__law_chain (hr.mono (by decide)) rfl (ta_cons (tr_ix (tr_var (i := 0) rfl rfl (by decide) (by decide)) tr_int (by decide) (by decide)) ta_nil (by decide)) (by decide)) (by decide) (by decide) (by decide) (by decide))
  (sss_cons (O1 := []) (ss_for (W := []) (vs := [6]) (ti_rng1 (L0 := []) rfl b_range tr_int) (tg_name (i := 6) rfl rfl (by decide) (by decide)) (sss_forget [6, 7, 8] (sss_cons (O1 := [7]) (ss_setF (W := []) (i := 7) (O' := [7]) rfl rfl (tf_call F_steps_of (hr.mono (by decide)) rfl (ta_cons (tr_var (i := 1) rfl rfl (by decide) (by decide)) ta_nil (by decide)) (by decide) (by decide)) (by decide) (by decide) (by decide) (by decide))
  (sss_out (O1 := [7]) (sss_spoil (n := 1) (i := 8) F_depth_told (hr.mono (by decide)) rfl (ta_cons (tr_var (i := 1) rfl rfl (by decide) (by decide)) ta_nil (by decide)) rfl rfl (by decide) (by decide) (tp_gd (tt_W (tw_or (tt_not (tt_tru (L := []) (tr_call F__law_same (hr.mono (by decide)) rfl (ta_cons (tr_var (i := 7) rfl rfl (by decide) (by decide)) (ta_cons (tr_var (i := 3) rfl rfl (by decide) (by decide)) ta_nil (by decide)) (by decide)) (by decide)))) (tw_or (tt_not (tt_tru (L := []) (tr_call F__law_same (hr.mono (by decide)) rfl (ta_cons (tr_var (i := 8) rfl rfl (by decide) (by decide)) (ta_cons (tr_tup (ta_cons (tr_len (L0 := []) rfl b_len (ta_cons (tr_var (i := 3) rfl rfl (by decide) (by decide)) ta_nil (by decide))) (ta_cons (tr_var (i := 5) rfl rfl (by decide) (by decide)) ta_nil (by decide)) (by decide)) (by decide)) ta_nil (by decide)) (by decide)) (by decide)))) (tw_or1 (tt_cmp (L0 := []) (ho_ne hu) rs_ne (tr_var (i := 1) rfl rfl (by decide) (by decide)) (tr_var (i := 0) rfl rfl (by decide) (by decide)) (by decide) rfl))))) tr_bl (tp_gd (tt_W (tw_or (tt_cmp (L0 := []) ho_notB rs_notB (tr_call F_shows_steps (hr.mono (by decide)) rfl (ta_cons (tr_var (i := 1) rfl rfl (by decide) (by decide)) (ta_cons (tr_var (i := 7) rfl rfl (by decide) (by decide)) ta_nil (by decide)) (by decide)) (by decide)) tr_bl (by decide) rfl) (tw_or1 (tt_cmp (L0 := []) ho_notB rs_notB (tr_call F_shows_chain (hr.mono (by decide)) rfl (ta_cons (tr_var (i := 1) rfl rfl (by decide) (by decide)) (ta_cons (tr_ix (tr_var (i := 8) rfl rfl (by decide) (by decide)) tr_int (by decide) (by decide)) ta_nil (by decide)) (by decide)) (by decide)) tr_bl (by decide) rfl)))) tr_bl (tp_app (W := []) (j := 7) rfl rfl (by decide) (tr_F (by decide) (tf_disp ta_nil (by decide))) (by decide) (tp_end rfl rfl tr_int))))) (by decide) (by decide))) (by decide)) (by decide) (by decide))
  (sss_one (ss_ret (W := []) (tr_cmp (L0 := []) (ho_eq hu) rs_eq (tr_len (L0 := []) rfl b_len (ta_cons (tr_var (i := 5) rfl rfl (by decide) (by decide)) ta_nil (by decide))) (tr_len (L0 := []) rfl b_len (ta_cons (tr_var (i := 3) rfl rfl (by decide) (by decide)) ta_nil (by decide))) (by decide) rfl) (by decide))))) (by decide) (by decide))))))
/-! ### law -/
abbrev s_law : Stmt := top 31
abbrev N_law : List Str := ["script", "feed", "turn", "most", "rows"]
theorem sc_law : FnScope N_law ["script"] (defScope s_law) := ⟨rfl, rfl, rfl, by decide +kernel, rfl, by decide +kernel, by decide +kernel⟩
def mb_law : MM := (mSeq (mSetF 1 (xfMap m__law_feed (xaCons (xVar 0) xaNil)))
  (mSeq (mFor (xRg1 (xC (.int 3))) (bName 2) (mForget [2, 3] (mSeq (mSet 3 (xOp dIx (xLst (xDisp (xaCons (xC (.int 14)) (xaCons (xC (.int 40)) xaNil)))) (xFn dInt (xaCons (xOp dEq (xCallT 1 m__law_draw (xaCons (xC (.int 8)) xaNil)) (xC (.int 0))) xaNil))))
  (mIf (xNot (xTru (xFn m__law_right (xaCons (xCallT 1 m__law_core (xaCons (xCallT 1 m__law_draw (xaCons (xC (.int 3)) xaNil)) (xaCons (xC (.int 4)) (xaCons (xVar 3) xaNil)))) xaNil)))) (mRet (xC (.bool false)))
  mSkip))))
  (mSeq (mSet 4 (xLst (xDisp (xaCons (xTup (xaCons (xC (.str "turn")) (xaCons (xC (.str "h")) (xaCons (xLst (xDisp (xaCons (xC (.int 0)) xaNil))) xaNil)))) (xaCons (xTup (xaCons (xC (.str "turn")) (xaCons (xC (.str "h")) (xaCons (xLst (xDisp (xaCons (xC (.int 1)) xaNil))) xaNil)))) (xaCons (xTup (xaCons (xC (.str "read")) (xaCons (xC (.int 0)) (xaCons (xC (.int 0)) xaNil)))) (xaCons (xTup (xaCons (xC (.str "new")) (xaCons (xC (.int 2)) xaNil))) (xaCons (xTup (xaCons (xC (.str "fix")) (xaCons (xC (.str "X")) (xaCons (xC (.int 1)) (xaCons (xLst (xDisp (xaCons (xC (.int 0)) xaNil))) xaNil))))) xaNil))))))))
  (mSeq (mIf (xNot (xTru (xFn m__law_same (xaCons (xLst (xfMap m_steps_of (xaCons (xTup (xaCons (xC (.int 2)) (xaCons (xVar 4) (xaCons (xLst (xDisp (xaCons (xC (.int 1)) (xaCons (xC (.int 2)) xaNil)))) (xaCons (xLst (xDisp xaNil)) xaNil))))) xaNil))) (xaCons (xLst (xDisp (xaCons (xLst (xDisp (xaCons (xC (.int 0)) (xaCons (xC (.int 1)) xaNil)))) (xaCons (xLst (xDisp (xaCons (xC (.int 2)) xaNil))) (xaCons (xLst (xDisp (xaCons (xC (.int 3)) (xaCons (xC (.int 4)) xaNil)))) xaNil))))) xaNil))))) (mRet (xC (.bool false)))
  mSkip)
  (mRet (xFn m__law_same (xaCons (xLst (xDisp (xaCons (xFn m_depth_told (xaCons (xTup (xaCons (xC (.int 2)) (xaCons (xVar 4) (xaCons (xLst (xDisp (xaCons (xC (.int 1)) (xaCons (xC (.int 2)) xaNil)))) (xaCons (xLst (xDisp xaNil)) xaNil))))) xaNil)) (xaCons (xFn m_depth_told (xaCons (xTup (xaCons (xC (.int 0)) (xaCons (xLst (xDisp xaNil)) (xaCons (xLst (xDisp xaNil)) (xaCons (xLst (xDisp xaNil)) xaNil))))) xaNil)) xaNil)))) (xaCons (xLst (xDisp (xaCons (xTup (xaCons (xC (.int 3)) (xaCons (xLst (xDisp (xaCons (xC (.int 0)) (xaCons (xC (.int 2)) (xaCons (xC (.int 3)) xaNil))))) xaNil))) (xaCons (xTup (xaCons (xC (.int 0)) (xaCons (xLst (xDisp xaNil)) xaNil))) xaNil)))) xaNil))))))))
def m_law : List D → Option D := fnP 1 5 mb_law
theorem ok_law {f : Addr} {fd : FuncData} (F : FnP K "law" "law" s_law f fd) (b_range : mg "range" = none) (b_int : mg "int" = none) (F__law_feed : FnAt P w K mg base 1 "_law_feed" ["script"] (spL K m__law_feed)) (F__law_draw : FnAt P w K mg base 1 "_law_draw" ["feed", "many"] (spT K m__law_draw)) (F__law_right : FnAt P w K mg base 42 "_law_right" ["core"] (spP K m__law_right)) (F__law_core : FnAt P w K mg base 2 "_law_core" ["feed", "ins", "wide", "most"] (spT K m__law_core)) (F__law_same : FnAt P w K mg base 41 "_law_same" ["actual", "due"] (spP K m__law_same)) (F_steps_of : FnAt P w K mg base 5 "steps_of" ["core"] (spL K m_steps_of)) (F_depth_told : FnAt P w K mg base 5 "depth_told" ["core"] (spQ K 1 m_depth_told)) : FnOk P w K mg base CX0 43 f fd ["script"] (spP K m_law) :=
  fn_P F sc_law rfl rfl fun A hr => have hu := u64 hr
  (sss_cons (O1 := [1]) (ss_setF (W := []) (i := 1) (O' := [1]) rfl rfl (tf_call F__law_feed (hr.mono (by decide)) rfl (ta_cons (tr_var (i := 0) rfl rfl (by decide) (by decide)) ta_nil (by decide)) (by decide) (by decide)) (by decide) (by decide) (by decide) (by decide))
  (sss_cons (O1 := [1]) (ss_for (W := []) (vs := [2]) (ti_rng1 (L0 := []) rfl b_range tr_int) (tg_name (i := 2) rfl rfl (by decide) (by decide)) (sss_forget [2, 3] (sss_cons (O1 := [1]) (ss_set (W := [1]) (i := 3) (O' := [1]) rfl rfl (tr_ix (tr_wk (tr_F (by decide) (tf_disp (ta_cons tr_int (ta_cons tr_int ta_nil (by decide)) (by decide)) (by decide)))) (tr_intC (L0 := [1]) rfl b_int (ta_cons (tr_cmp (L0 := [1]) (ho_eq hu) rs_eq (tr_callT (i := 1) F__law_draw (hr.mono (by decide)) rfl rfl rfl (by decide) (ta_wk (ta_cons tr_int ta_nil (by decide))) (by decide) (by decide)) (tr_wk tr_int) (by decide) rfl) ta_nil (by decide))) (by decide) (by decide)) (by decide) (by decide) (by decide) (by decide))
  (sss_one (ss_if (W := [1]) (tt_not (tt_tru (L := [1]) (tr_call F__law_right (hr.mono (by decide)) rfl (ta_cons (tr_callT (i := 1) F__law_core (hr.mono (by decide)) rfl rfl rfl (by decide) (ta_cons (tr_callT (i := 1) F__law_draw (hr.mono (by decide)) rfl rfl rfl (by decide) (ta_wk (ta_cons tr_int ta_nil (by decide))) (by decide) (by decide)) (ta_cons (tr_wk tr_int) (ta_cons (tr_wk (tr_var (i := 3) rfl rfl (by decide) (by decide))) ta_nil (by decide)) (by decide)) (by decide)) (by decide) (by decide)) ta_nil (by decide)) (by decide)))) (sss_free (L := []) (sss_one (ss_ret (W := []) tr_bl (by decide))) (by decide) (by decide))
  sss_nil (by decide)))) (by decide)) (by decide) (by decide))
  (sss_free (L := []) (sss_cons (O1 := []) (ss_setFu (W := []) (i := 4) (O' := []) rfl rfl (tf_disp (ta_cons (tr_tup (ta_cons tr_str (ta_cons tr_str (ta_cons (tr_F (by decide) (tf_disp (ta_cons tr_int ta_nil (by decide)) (by decide))) ta_nil (by decide)) (by decide)) (by decide)) (by decide)) (ta_cons (tr_tup (ta_cons tr_str (ta_cons tr_str (ta_cons (tr_F (by decide) (tf_disp (ta_cons tr_int ta_nil (by decide)) (by decide))) ta_nil (by decide)) (by decide)) (by decide)) (by decide)) (ta_cons (tr_tup (ta_cons tr_str (ta_cons tr_int (ta_cons tr_int ta_nil (by decide)) (by decide)) (by decide)) (by decide)) (ta_cons (tr_tup (ta_cons tr_str (ta_cons tr_int ta_nil (by decide)) (by decide)) (by decide)) (ta_cons (tr_tup (ta_cons tr_str (ta_cons tr_str (ta_cons tr_int (ta_cons (tr_F (by decide) (tf_disp (ta_cons tr_int ta_nil (by decide)) (by decide))) ta_nil (by decide)) (by decide)) (by decide)) (by decide)) (by decide)) ta_nil (by decide)) (by decide)) (by decide)) (by decide)) (by decide)) (by decide)) (by decide) (by decide) (by decide) (by decide))
  (sss_cons (O1 := []) (ss_if (W := []) (tt_not (tt_tru (L := []) (tr_call F__law_same (hr.mono (by decide)) rfl (ta_cons (tr_F (by decide) (tf_call F_steps_of (hr.mono (by decide)) rfl (ta_cons (tr_tup (ta_cons tr_int (ta_cons (tr_var (i := 4) rfl rfl (by decide) (by decide)) (ta_cons (tr_F (by decide) (tf_disp (ta_cons tr_int (ta_cons tr_int ta_nil (by decide)) (by decide)) (by decide))) (ta_cons (tr_F (by decide) (tf_disp ta_nil (by decide))) ta_nil (by decide)) (by decide)) (by decide)) (by decide)) (by decide)) ta_nil (by decide)) (by decide) (by decide))) (ta_cons (tr_F (by decide) (tf_disp (ta_cons (tr_F (by decide) (tf_disp (ta_cons tr_int (ta_cons tr_int ta_nil (by decide)) (by decide)) (by decide))) (ta_cons (tr_F (by decide) (tf_disp (ta_cons tr_int ta_nil (by decide)) (by decide))) (ta_cons (tr_F (by decide) (tf_disp (ta_cons tr_int (ta_cons tr_int ta_nil (by decide)) (by decide)) (by decide))) ta_nil (by decide)) (by decide)) (by decide)) (by decide))) ta_nil (by decide)) (by decide)) (by decide)))) (sss_one (ss_ret (W := []) tr_bl (by decide)))
  sss_nil (by decide))
  (sss_one (ss_ret (W := []) (tr_call F__law_same (hr.mono (by decide)) rfl (ta_cons (tr_F (by decide) (tf_disp (ta_cons (tr_call (fnAtQ F_depth_told) (hr.mono (by decide)) rfl (ta_cons (tr_tup (ta_cons tr_int (ta_cons (tr_var (i := 4) rfl rfl (by decide) (by decide)) (ta_cons (tr_F (by decide) (tf_disp (ta_cons tr_int (ta_cons tr_int ta_nil (by decide)) (by decide)) (by decide))) (ta_cons (tr_F (by decide) (tf_disp ta_nil (by decide))) ta_nil (by decide)) (by decide)) (by decide)) (by decide)) (by decide)) ta_nil (by decide)) (by decide)) (ta_cons (tr_call (fnAtQ F_depth_told) (hr.mono (by decide)) rfl (ta_cons (tr_tup (ta_cons tr_int (ta_cons (tr_F (by decide) (tf_disp ta_nil (by decide))) (ta_cons (tr_F (by decide) (tf_disp ta_nil (by decide))) (ta_cons (tr_F (by decide) (tf_disp ta_nil (by decide))) ta_nil (by decide)) (by decide)) (by decide)) (by decide)) (by decide)) ta_nil (by decide)) (by decide)) ta_nil (by decide)) (by decide)) (by decide))) (ta_cons (tr_F (by decide) (tf_disp (ta_cons (tr_tup (ta_cons tr_int (ta_cons (tr_F (by decide) (tf_disp (ta_cons tr_int (ta_cons tr_int (ta_cons tr_int ta_nil (by decide)) (by decide)) (by decide)) (by decide))) ta_nil (by decide)) (by decide)) (by decide)) (ta_cons (tr_tup (ta_cons tr_int (ta_cons (tr_F (by decide) (tf_disp ta_nil (by decide))) ta_nil (by decide)) (by decide)) (by decide)) ta_nil (by decide)) (by decide)) (by decide))) ta_nil (by decide)) (by decide)) (by decide)) (by decide))))) (by decide) (by decide))))
end
end
end Tk70
end Z


namespace Z
namespace Tk70
def mx (xs : List Nat) : Nat := xs.foldr max 0
theorem mx_ge {xs : List Nat} {x : Nat} (h : x ∈ xs) : x ≤ mx xs := by
  induction xs with
  | nil => cases h
  | cons a r ih =>
    unfold mx
    rw [List.foldr_cons]
    rcases List.mem_cons.mp h with rfl | h
    · exact Nat.le_max_left _ _
    · exact Nat.le_trans (ih h) (Nat.le_max_right _ _)
theorem mx_in : ∀ xs : List Nat, xs ≠ [] → mx xs ∈ xs
  | [], h => absurd rfl h
  | [a], _ => by simp [mx]
  | a :: b :: r, _ => by
    have ih := mx_in (b :: r) (by simp)
    have e : mx (a :: b :: r) = max a (mx (b :: r)) := rfl
    rw [e]
    rcases Nat.le_total a (mx (b :: r)) with h | h
    · rw [Nat.max_eq_right h]; exact List.mem_cons_of_mem _ ih
    · rw [Nat.max_eq_left h]; exact List.mem_cons_self
theorem mx_of {xs : List Nat} {m : Nat} (h1 : ∀ x ∈ xs, x ≤ m) (h2 : m = 0 ∨ m ∈ xs) : mx xs = m := by
  apply Nat.le_antisymm
  · cases xs with
    | nil => exact Nat.zero_le _
    | cons a r => exact h1 _ (mx_in (a :: r) (by simp))
  · rcases h2 with h | h
    · omega
    · exact mx_ge h
section
variable {α : Type} (h : α → α → Bool)
/-! ## chains from behind -/
def best (p : α) : List (List Nat) → List α → List Nat
  | c :: cs, r :: rs => if (best p cs rs).length ≤ c.length ∧ h p r = true then c else best p cs rs
  | _, _ => []
def chs : Nat → List α → List (List Nat)
  | _, [] => []
  | o, r :: rs => (o :: best h r (chs (o + 1) rs) rs) :: chs (o + 1) rs
def topc : List (List Nat) → List Nat
  | [] => []
  | c :: cs => if (topc cs).length ≤ c.length then c else topc cs
def okl : Option α → α → Bool
  | none, _ => true
  | some p, r => h p r
def gr (dep : Nat) : Nat → List (List Nat) → List α → Option α → List Nat → List Nat
  | o, c :: cs, r :: rs, l, acc => if c.length + acc.length = dep ∧ okl h l r = true then gr dep (o + 1) cs rs (some r) (acc ++ [o]) else gr dep (o + 1) cs rs l acc
  | _, _, _, _, acc => acc
theorem gr_some (dep : Nat) : ∀ (rs : List α) (o : Nat) (p : α) (acc : List Nat), (best h p (chs h o rs) rs).length + acc.length = dep → gr h dep o (chs h o rs) rs (some p) acc = acc ++ best h p (chs h o rs) rs
  | [], o, p, acc, _ => by simp [chs, gr, best]
  | r :: rs, o, p, acc, e => by
    rw [chs] at e ⊢
    rw [best] at e ⊢
    rw [gr]
    by_cases T : (best h p (chs h (o + 1) rs) rs).length ≤ (o :: best h r (chs h (o + 1) rs) rs).length ∧ h p r = true
    · rw [if_pos T] at e ⊢
      rw [if_pos ⟨e, T.2⟩, gr_some dep rs (o + 1) r (acc ++ [o]) (by rw [List.length_append]; simp only [List.length_cons, List.length_nil] at e ⊢; omega)]
      simp
    · rw [if_neg T] at e ⊢
      rw [if_neg (fun z => T ⟨by omega, z.2⟩)]
      exact gr_some dep rs (o + 1) p acc e
theorem gr_none (dep : Nat) : ∀ (rs : List α) (o : Nat), (topc (chs h o rs)).length = dep → gr h dep o (chs h o rs) rs none [] = topc (chs h o rs)
  | [], o, _ => by simp [chs, gr, topc]
  | r :: rs, o, e => by
    rw [chs] at e ⊢
    rw [topc] at e ⊢
    rw [gr]
    by_cases T : (topc (chs h (o + 1) rs)).length ≤ (o :: best h r (chs h (o + 1) rs) rs).length
    · rw [if_pos T] at e ⊢
      rw [if_pos ⟨by simpa using e, rfl⟩, gr_some h dep rs (o + 1) r ([] ++ [o]) (by simpa using e)]
      simp
    · rw [if_neg T] at e ⊢
      rw [if_neg (fun z => T (by have := z.1; simp only [List.length_nil] at this; omega))]
      exact gr_none dep rs (o + 1) e
theorem top_len : ∀ cs : List (List Nat), (topc cs).length = mx (cs.map List.length)
  | [] => rfl
  | c :: cs => by
    have ih := top_len cs
    have e : mx ((c :: cs).map List.length) = max c.length (mx (cs.map List.length)) := rfl
    rw [topc, e, ← ih]
    split
    · rename_i q; rw [Nat.max_eq_left q]
    · rename_i q; rw [Nat.max_eq_right (by omega)]
theorem best_len (p : α) : ∀ (cs : List (List Nat)) (rs : List α), (best h p cs rs).length = mx (((cs.zip rs).filter fun z => h p z.2).map fun z => z.1.length)
  | [], rs => by simp [best, mx]
  | c :: cs, [] => by simp [best, mx]
  | c :: cs, r :: rs => by
    have ih := best_len p cs rs
    rw [best, List.zip_cons_cons, List.filter_cons]
    cases q : h p r with
    | true =>
      have e : ∀ xs : List Nat, mx (c.length :: xs) = max c.length (mx xs) := fun _ => rfl
      simp only [q, if_true, List.map_cons, e, and_true]
      rw [← ih]
      split
      · rename_i q; rw [Nat.max_eq_left q]
      · rename_i q; rw [Nat.max_eq_right (by omega)]
    | false =>
      simp only [q, Bool.false_eq_true, and_false, if_false]
      exact ih
theorem chs_len : ∀ (rs : List α) (o : Nat), (chs h o rs).length = rs.length
  | [], _ => rfl
  | r :: rs, o => by rw [chs, List.length_cons, List.length_cons, chs_len rs]
theorem best_mem (p : α) : ∀ (cs : List (List Nat)) (rs : List α), best h p cs rs = [] ∨ ∃ (k : Nat) (r : α), cs[k]? = some (best h p cs rs) ∧ rs[k]? = some r ∧ h p r = true
  | [], rs => by left; simp [best]
  | c :: cs, [] => by left; simp [best]
  | c :: cs, r :: rs => by
    rw [best]
    split
    · rename_i q; exact .inr ⟨0, r, rfl, rfl, q.2⟩
    · rcases best_mem p cs rs with e | ⟨k, r', e1, e2, e3⟩
      · exact .inl e
      · exact .inr ⟨k + 1, r', by simpa using e1, by simpa using e2, e3⟩
theorem best_ge (p : α) : ∀ (cs : List (List Nat)) (rs : List α) (k : Nat) (c : List Nat) (r : α), cs[k]? = some c → rs[k]? = some r → h p r = true → c.length ≤ (best h p cs rs).length
  | [], rs, k, c, r, e, _, _ => by simp at e
  | _ :: _, [], k, c, r, _, e, _ => by simp at e
  | c0 :: cs, r0 :: rs, 0, c, r, e, e2, e3 => by
    simp at e e2; subst e e2
    rw [best]
    split
    · exact Nat.le_refl _
    · rename_i q
      have : ¬ (best h p cs rs).length ≤ c0.length := fun z => q ⟨z, e3⟩
      omega
  | c0 :: cs, r0 :: rs, k + 1, c, r, e, e2, e3 => by
    have ih := best_ge p cs rs k c r (by simpa using e) (by simpa using e2) e3
    rw [best]
    split
    · rename_i q; omega
    · exact ih
/-- the k-th chain -/
theorem chs_get : ∀ (rs : List α) (o k : Nat) (r : α), rs[k]? = some r → (chs h o rs)[k]? = some ((o + k) :: best h r (chs h (o + k + 1) (rs.drop (k + 1))) (rs.drop (k + 1)))
  | [], o, k, r, e => by simp at e
  | r0 :: rs, o, 0, r, e => by
    simp at e; subst e
    rw [chs]; rfl
  | r0 :: rs, o, k + 1, r, e => by
    have ih := chs_get rs (o + 1) k r (by simpa using e)
    rw [chs, List.getElem?_cons_succ, ih]
    have e1 : o + 1 + k = o + (k + 1) := by omega
    rw [e1]; rfl
theorem chs_drop : ∀ (rs : List α) (o k : Nat), (chs h o rs).drop k = chs h (o + k) (rs.drop k)
  | rs, o, 0 => by simp
  | [], o, k + 1 => by simp [chs]
  | r :: rs, o, k + 1 => by
    rw [chs, List.drop_succ_cons, List.drop_succ_cons, chs_drop rs (o + 1) k]
    congr 1; omega
/-! a chain: rising, within, each hangs together with the next -/
structure Chn (full : List α) (c : List Nat) : Prop where
  lt : ∀ x ∈ c, x < full.length
  up : ∀ (k a b : Nat), c[k]? = some a → c[k + 1]? = some b → a < b
  hg : ∀ (k a b : Nat), c[k]? = some a → c[k + 1]? = some b → ∀ x y, full[a]? = some x → full[b]? = some y → h x y = true
theorem chn_nil (full : List α) : Chn h full [] := ⟨(fun _ z => nomatch z), (fun k a b e => by simp at e), (fun k a b e => by simp at e)⟩
theorem chn_cons {full : List α} {o a : Nat} {c : List Nat} (hc : Chn h full (a :: c)) (ho : o < a) {x y : α} (hx : full[o]? = some x) (hy : full[a]? = some y) (hh : h x y = true) : Chn h full (o :: a :: c) := by
  refine ⟨fun z hz => ?_, fun k u v e1 e2 => ?_, fun k u v e1 e2 x' y' g1 g2 => ?_⟩
  · rcases List.mem_cons.mp hz with rfl | hz
    · exact (List.getElem?_eq_some_iff.mp hx).1
    · exact hc.lt z hz
  · cases k with
    | zero => simp at e1 e2; omega
    | succ k => exact hc.up k u v (by simpa using e1) (by simpa using e2)
  · cases k with
    | zero =>
      simp at e1 e2
      subst e1 e2
      rw [hx] at g1; rw [hy] at g2
      cases g1; cases g2; exact hh
    | succ k => exact hc.hg k u v (by simpa using e1) (by simpa using e2) x' y' g1 g2
theorem chs_chn (full : List α) : ∀ (rs : List α) (o : Nat), full.drop o = rs → ∀ c ∈ chs h o rs, Chn h full c
  | [], o, _, c, hc => by simp [chs] at hc
  | r :: rs, o, e, c, hc => by
    have er : full[o]? = some r := by
      have : (full.drop o)[0]? = some r := by rw [e]; rfl
      simpa using this
    have e' : full.drop (o + 1) = rs := by
      have : (full.drop o).drop 1 = rs := by rw [e]; rfl
      simpa using this
    have ih := chs_chn full rs (o + 1) e'
    rw [chs] at hc
    rcases List.mem_cons.mp hc with rfl | hc
    · rcases best_mem h r (chs h (o + 1) rs) rs with q | ⟨k, r', q1, q2, q3⟩
      · rw [q]
        refine ⟨fun z hz => ?_, fun k a b e1 e2 => by simp at e2, fun k a b e1 e2 => by simp at e2⟩
        rw [List.mem_singleton.mp hz]
        exact (List.getElem?_eq_some_iff.mp er).1
      · have hm := ih _ (List.mem_of_getElem? q1)
        have hg := chs_get h rs (o + 1) k r' q2
        rw [q1] at hg
        have hg := Option.some.inj hg
        rw [hg] at hm ⊢
        refine chn_cons h hm (by omega) er ?_ q3
        rw [← e'] at q2
        simpa [Nat.add_assoc, Nat.add_comm, Nat.add_left_comm] using q2
    · exact ih c hc
theorem top_mem : ∀ cs : List (List Nat), topc cs = [] ∨ topc cs ∈ cs
  | [] => .inl rfl
  | c :: cs => by
    rw [topc]
    split
    · exact .inr List.mem_cons_self
    · exact (top_mem cs).imp id (List.mem_cons_of_mem _)
theorem top_chn (full : List α) : Chn h full (topc (chs h 0 full)) := by
  rcases top_mem (chs h 0 full) with e | e
  · rw [e]; exact chn_nil h full
  · exact chs_chn h full full 0 rfl _ e
/-! ## levels -/
def nx (d : List α) (L : List Nat) (x : α) : Nat := mx (((List.range d.length).filter fun k => match d[k]? with | some r => h r x | none => false).map fun k => L.getD k 0 + 1)
def lvP (rs : List α) : List α × List Nat := rs.foldl (fun p x => (p.1 ++ [x], p.2 ++ [nx h p.1 p.2 x])) ([], [])
def lv (rs : List α) : List Nat := (lvP h rs).2
theorem lvP_snoc (d : List α) (x : α) : lvP h (d ++ [x]) = ((lvP h d).1 ++ [x], (lvP h d).2 ++ [nx h (lvP h d).1 (lvP h d).2 x]) := by
  unfold lvP; rw [List.foldl_append]; rfl
theorem snoc_ind {α : Type} {P : List α → Prop} (h0 : P []) (hs : ∀ d x, P d → P (d ++ [x])) (xs : List α) : P xs := by
  have : ∀ n (xs : List α), xs.length = n → P xs := fun n => by
    induction n with
    | zero => intro xs e; rw [List.length_eq_zero_iff.mp e]; exact h0
    | succ n ih =>
      intro xs e
      have hne : xs ≠ [] := by intro z; rw [z] at e; simp at e
      rw [← List.dropLast_concat_getLast hne]
      exact hs _ _ (ih _ (by rw [List.length_dropLast, e]; rfl))
  exact this _ xs rfl
theorem lvP_fst (d : List α) : (lvP h d).1 = d := by
  induction d using snoc_ind with
  | h0 => rfl
  | hs d x ih => rw [lvP_snoc, ih]
theorem lv_snoc (d : List α) (x : α) : lv h (d ++ [x]) = lv h d ++ [nx h d (lv h d) x] := by
  unfold lv; rw [lvP_snoc, lvP_fst]
theorem lv_len (d : List α) : (lv h d).length = d.length := by
  induction d using snoc_ind with
  | h0 => rfl
  | hs d x ih => rw [lv_snoc, List.length_append, List.length_append, ih]; rfl
theorem lv_app (d : List α) : ∀ e : List α, ∃ t, lv h (d ++ e) = lv h d ++ t := fun e => by
  induction e using snoc_ind with
  | h0 => exact ⟨[], by simp⟩
  | hs e x ih =>
    obtain ⟨t, ht⟩ := ih
    rw [← List.append_assoc, lv_snoc, ht]
    exact ⟨_, List.append_assoc _ _ _⟩
/-- level of the k-th row -/
theorem lv_get {rs : List α} {k : Nat} {x : α} (e : rs[k]? = some x) : (lv h rs)[k]? = some (nx h (rs.take k) (lv h rs) x) := by
  have hk := (List.getElem?_eq_some_iff.mp e).1
  have sp : rs = (rs.take k ++ [x]) ++ rs.drop (k + 1) := by
    have := List.take_append_drop k rs
    rw [List.drop_eq_getElem_cons hk, (List.getElem?_eq_some_iff.mp e).2] at this
    rw [List.append_assoc]; exact this.symm
  have hl : (rs.take k).length = k := by rw [List.length_take]; omega
  obtain ⟨t, ht⟩ := lv_app h (rs.take k ++ [x]) (rs.drop (k + 1))
  rw [← sp, lv_snoc] at ht
  have e1 : (lv h rs)[k]? = some (nx h (rs.take k) (lv h (rs.take k)) x) := by
    rw [ht, List.append_assoc, List.getElem?_append_right (by rw [lv_len, hl]; exact Nat.le_refl _), lv_len, hl, Nat.sub_self]
    rfl
  rw [e1]
  congr 1
  unfold nx
  congr 1
  apply List.map_congr_left
  intro j hj
  have hj := List.mem_range.mp (List.mem_filter.mp hj).1
  rw [ht, List.append_assoc, List.getD_eq_getElem?_getD, List.getD_eq_getElem?_getD, List.getElem?_append_left (by rw [lv_len]; exact hj)]
theorem lv_ge {rs : List α} {j k : Nat} {x y : α} (hj : rs[j]? = some x) (hk : rs[k]? = some y) (hjk : j < k) (hh : h x y = true) : (lv h rs).getD j 0 < (lv h rs).getD k 0 := by
  have e := lv_get h hk
  have hkl := (List.getElem?_eq_some_iff.mp hk).1
  rw [List.getD_eq_getElem?_getD (i := k), e]
  show _ < nx h (rs.take k) (lv h rs) y
  unfold nx
  refine mx_ge (List.mem_map.mpr ⟨j, List.mem_filter.mpr ⟨List.mem_range.mpr (by rw [List.length_take]; omega), ?_⟩, rfl⟩)
  rw [List.getElem?_take_of_lt hjk, hj]
  exact hh
theorem lv_by {rs : List α} {k : Nat} {y : α} (hk : rs[k]? = some y) : (lv h rs).getD k 0 = 0 ∨ ∃ j x, j < k ∧ rs[j]? = some x ∧ h x y = true ∧ (lv h rs).getD k 0 = (lv h rs).getD j 0 + 1 := by
  have e := lv_get h hk
  have e2 : (lv h rs).getD k 0 = nx h (rs.take k) (lv h rs) y := by rw [List.getD_eq_getElem?_getD, e]; rfl
  rw [e2]
  unfold nx
  cases q : ((List.range (rs.take k).length).filter fun k' => match (rs.take k)[k']? with | some r => h r y | none => false) with
  | nil => left; rfl
  | cons a r =>
    right
    have hin := mx_in (((List.range (rs.take k).length).filter fun k' => match (rs.take k)[k']? with | some r => h r y | none => false).map fun j => (lv h rs).getD j 0 + 1) (by rw [q]; simp)
    rw [← q]
    obtain ⟨j, hj, ej⟩ := List.mem_map.mp hin
    obtain ⟨h1, h2⟩ := List.mem_filter.mp hj
    have hjk : j < k := by
      have := List.mem_range.mp h1
      rw [List.length_take] at this; omega
    rw [List.getElem?_take_of_lt hjk] at h2
    cases hx : rs[j]? with
    | none => rw [hx] at h2; cases h2
    | some x =>
      rw [hx] at h2
      exact ⟨j, x, hjk, hx, h2, ej.symm⟩
/-! heights -/
def ht (rs : List α) (k : Nat) : Nat := ((chs h 0 rs).getD k []).length
theorem ht_get {rs : List α} {k : Nat} {r : α} (e : rs[k]? = some r) : ht h rs k = (best h r (chs h (k + 1) (rs.drop (k + 1))) (rs.drop (k + 1))).length + 1 := by
  unfold ht
  rw [List.getD_eq_getElem?_getD, chs_get h rs 0 k r e]
  simp
theorem ht_ge {rs : List α} {j k : Nat} {x y : α} (hj : rs[j]? = some x) (hk : rs[k]? = some y) (hjk : j < k) (hh : h x y = true) : ht h rs k + 1 ≤ ht h rs j := by
  rw [ht_get h hj]
  have e1 : (rs.drop (j + 1))[k - (j + 1)]? = some y := by
    rw [List.getElem?_drop, show j + 1 + (k - (j + 1)) = k by omega]; exact hk
  have e2 := chs_get h (rs.drop (j + 1)) (j + 1) (k - (j + 1)) y e1
  have := best_ge h x _ _ _ _ _ e2 e1 hh
  have e3 : ht h rs k = ((j + 1 + (k - (j + 1))) :: best h y (chs h (j + 1 + (k - (j + 1)) + 1) ((rs.drop (j + 1)).drop (k - (j + 1) + 1))) ((rs.drop (j + 1)).drop (k - (j + 1) + 1))).length := by
    rw [ht_get h hk, List.drop_drop, show j + 1 + (k - (j + 1)) = k by omega, show j + 1 + (k - (j + 1) + 1) = k + 1 by omega]
    rfl
  omega
theorem ht_by {rs : List α} {k : Nat} {x : α} (hk : rs[k]? = some x) : ht h rs k = 1 ∨ ∃ j y, k < j ∧ rs[j]? = some y ∧ h x y = true ∧ ht h rs k = ht h rs j + 1 := by
  rw [ht_get h hk]
  rcases best_mem h x (chs h (k + 1) (rs.drop (k + 1))) (rs.drop (k + 1)) with e | ⟨j, y, e1, e2, e3⟩
  · left; rw [e]; rfl
  · right
    have hy : rs[k + 1 + j]? = some y := by rw [List.getElem?_drop] at e2; exact e2
    refine ⟨k + 1 + j, y, by omega, hy, e3, ?_⟩
    have e4 := chs_get h (rs.drop (k + 1)) (k + 1) j y e2
    rw [e1] at e4
    rw [Option.some.inj e4, ht_get h hy, List.drop_drop, show k + 1 + (j + 1) = k + 1 + j + 1 by omega]
    rfl
theorem up_dn {rs : List α} : ∀ (k : Nat) (x : α), rs[k]? = some x → ∃ j y, rs[j]? = some y ∧ (lv h rs).getD k 0 + ht h rs k ≤ ht h rs j := fun k => by
  induction k using Nat.strongRecOn with
  | ind k ih =>
    intro x hx
    rcases lv_by h hx with e | ⟨i, z, hik, hz, hh, e⟩
    · exact ⟨k, x, hx, by omega⟩
    · obtain ⟨j, y, hy, q⟩ := ih i hik z hz
      have := ht_ge h hz hx hik hh
      exact ⟨j, y, hy, by omega⟩
theorem dn_up {rs : List α} : ∀ (m k : Nat) (x : α), rs.length - k = m → rs[k]? = some x → ∃ j y, rs[j]? = some y ∧ (lv h rs).getD k 0 + ht h rs k ≤ (lv h rs).getD j 0 + 1 := fun m => by
  induction m using Nat.strongRecOn with
  | ind m ih =>
    intro k x em hx
    rcases ht_by h hx with e | ⟨i, z, hik, hz, hh, e⟩
    · exact ⟨k, x, hx, by omega⟩
    · have hl := (List.getElem?_eq_some_iff.mp hx).1
      have hil := (List.getElem?_eq_some_iff.mp hz).1
      obtain ⟨j, y, hy, q⟩ := ih (rs.length - i) (by omega) i z rfl hz
      have := lv_ge h hx hz hik hh
      exact ⟨j, y, hy, by omega⟩
theorem ht_bd {rs : List α} : ∀ (m k : Nat) (x : α), rs.length - k = m → rs[k]? = some x → ht h rs k ≤ m := fun m => by
  induction m using Nat.strongRecOn with
  | ind m ih =>
    intro k x em hx
    have hl := (List.getElem?_eq_some_iff.mp hx).1
    rcases ht_by h hx with e | ⟨i, z, hik, hz, hh, e⟩
    · omega
    · have hil := (List.getElem?_eq_some_iff.mp hz).1
      have := ih (rs.length - i) (by omega) i z rfl hz
      omega
/-- the number of levels -/
def nl (rs : List α) : Nat := match rs with
  | [] => 0
  | _ => mx (lv h rs) + 1
theorem ht_map (rs : List α) : (chs h 0 rs).map List.length = (List.range rs.length).map (ht h rs) := by
  apply List.ext_getElem?
  intro i
  rw [List.getElem?_map, List.getElem?_map]
  by_cases q : i < rs.length
  · rw [List.getElem?_range q]
    unfold ht
    rw [Option.map_some, List.getD_eq_getElem?_getD]
    rw [List.getElem?_eq_getElem (by rw [chs_len]; exact q)]
    rfl
  · rw [List.getElem?_eq_none (by rw [chs_len]; omega), List.getElem?_eq_none (by rw [List.length_range]; omega)]
    rfl
theorem lv_map (rs : List α) : lv h rs = (List.range rs.length).map fun k => (lv h rs).getD k 0 := by
  apply List.ext_getElem?
  intro i
  rw [List.getElem?_map]
  by_cases q : i < rs.length
  · rw [List.getElem?_range q, Option.map_some, List.getD_eq_getElem?_getD, List.getElem?_eq_getElem (by rw [lv_len]; exact q)]
    rfl
  · rw [List.getElem?_eq_none (by rw [lv_len]; omega), List.getElem?_eq_none (by rw [List.length_range]; omega)]
    rfl
theorem depth_eq (rs : List α) : (topc (chs h 0 rs)).length = nl h rs := by
  cases rs with
  | nil => rfl
  | cons r rs =>
    rw [top_len, ht_map]
    show _ = mx (lv h (r :: rs)) + 1
    rw [lv_map]
    have h0 : (r :: rs)[0]? = some r := rfl
    have hne : (List.range (r :: rs).length) ≠ [] := by simp
    apply Nat.le_antisymm
    · obtain ⟨k, hk, ek⟩ := List.mem_map.mp (mx_in _ (by simp : (List.range (r :: rs).length).map (ht h (r :: rs)) ≠ []))
      have hk := List.mem_range.mp hk
      obtain ⟨j, y, hy, q⟩ := dn_up h _ k _ rfl (List.getElem?_eq_getElem hk)
      have hj := (List.getElem?_eq_some_iff.mp hy).1
      have := mx_ge (List.mem_map.mpr ⟨j, List.mem_range.mpr hj, rfl⟩ : (lv h (r :: rs)).getD j 0 ∈ (List.range (r :: rs).length).map fun k => (lv h (r :: rs)).getD k 0)
      omega
    · obtain ⟨k, hk, ek⟩ := List.mem_map.mp (mx_in _ (by simp : (List.range (r :: rs).length).map (fun k => (lv h (r :: rs)).getD k 0) ≠ []))
      have hk := List.mem_range.mp hk
      obtain ⟨j, y, hy, q⟩ := up_dn h k _ (List.getElem?_eq_getElem hk)
      have hj := (List.getElem?_eq_some_iff.mp hy).1
      have hp : 1 ≤ ht h (r :: rs) k := by rw [ht_get h (List.getElem?_eq_getElem hk)]; omega
      have := mx_ge (List.mem_map.mpr ⟨j, List.mem_range.mpr hj, rfl⟩ : ht h (r :: rs) j ∈ (List.range (r :: rs).length).map (ht h (r :: rs)))
      omega
/-! steps -/
def stp (L : List Nat) (m : Nat) : List (List Nat) := (List.range m).map fun v => (List.range L.length).filter fun k => decide (L.getD k 0 = v)
theorem stp_perm (L : List Nat) (m : Nat) (hm : ∀ k, k < L.length → L.getD k 0 < m) : (List.range L.length).Perm (stp L m).flatten := by
  have e : (stp L m).flatten = (List.range m).flatMap fun v => (List.range L.length).filter fun k => decide (L.getD k 0 = v) := rfl
  rw [e]
  refine (List.perm_ext_iff_of_nodup List.nodup_range ?_).mpr fun k => ?_
  · unfold List.Nodup
    rw [List.pairwise_flatMap]
    refine ⟨fun v _ => List.nodup_range.filter _, List.nodup_range.imp fun {a b} hab x hx y hy e => hab ?_⟩
    have h1 := (List.mem_filter.mp hx).2
    have h2 := (List.mem_filter.mp hy).2
    simp only [decide_eq_true_eq] at h1 h2
    rw [← h1, ← h2, e]
  · rw [List.mem_flatMap]
    constructor
    · intro hk
      exact ⟨L.getD k 0, List.mem_range.mpr (hm k (List.mem_range.mp hk)), List.mem_filter.mpr ⟨hk, by simp⟩⟩
    · rintro ⟨v, _, hk⟩
      exact (List.mem_filter.mp hk).1
end
end Tk70
end Z


namespace Z
open PySem PySem.Spec PyProof.Rows L2
namespace Tk70
/-! ## draws -/
inductive FeedOk : List D → Prop
  | mk (ns : List Int) (pos big st : Int) (h1 : 0 ≤ pos) (h2 : 0 ≤ big) (h3 : 0 ≤ st) (h4 : st < 2147483647) : FeedOk [.list (ns.map .int), .int pos, .int big, .int st]
theorem atI_map {ns : List Int} {i : Int} (h0 : 0 ≤ i) (h : i < ns.length) : ∃ v, atI (ns.map PyData.int) i = some (.int v) := by
  have hk : i.toNat < ns.length := by omega
  have e : i = ((i.toNat : Nat) : Int) := by omega
  exact ⟨ns[i.toNat], by
    have q : atI (ns.map PyData.int) ((i.toNat : Nat) : Int) = some (.int ns[i.toNat]) := atI_nat (by rw [List.getElem?_map, List.getElem?_eq_getElem hk] <;> rfl)
    rwa [← e] at q⟩
/-- the tail of a draw: no number is at hand -/
theorem mod_ok (a : Int) : 0 ≤ a % 2147483647 ∧ a % 2147483647 < 2147483647 := by omega
theorem draw_spec {fs : List D} (h : FeedOk fs) {n : Int} (h0 : 0 < n) (h1 : n < 1073741824) : ∃ r fs', m__law_draw fs [.int n] = some (.int r, fs') ∧ 0 ≤ r ∧ r < n ∧ FeedOk fs' := by
  obtain ⟨ns, pos, big, st, h2, h3, h4, h5⟩ := h
  unfold m__law_draw fnT mb__law_draw startM
  have c : ∀ a : Int, -18446744073709551616 < a % 2147483647 ∧ a % 2147483647 < 18446744073709551616 := fun a => by have := mod_ok a; omega
  by_cases hb : big = 0
  · by_cases hp : pos < ns.length
    · obtain ⟨v, hv⟩ := atI_map h2 hp
      have hw : ∃ w : Int, (if v < 0 then -v else v) = w ∧ 0 ≤ w := ⟨_, rfl, by split <;> omega⟩
      obtain ⟨w, ew, hw⟩ := hw
      by_cases hc : w ≥ 1000000000000000000
      · have hw' : 0 < w := by omega
        simp [hb, hp, hv, ew, hc, h0, h1, hw']
        exact ⟨_, _, rfl, Int.emod_nonneg _ (by omega), Int.emod_lt_of_pos _ h0, .mk ns _ _ _ (by omega) (Int.ediv_nonneg hw (by omega)) h4 h5⟩
      · simp [hb, hp, hv, ew, hc, c, h0]
        exact ⟨_, _, rfl, Int.emod_nonneg _ (by omega), Int.emod_lt_of_pos _ h0, .mk ns _ _ _ (by omega) (Int.le_refl _) (mod_ok _).1 (mod_ok _).2⟩
    · simp [hb, hp, c, h0]
      exact ⟨_, _, rfl, Int.emod_nonneg _ (by omega), Int.emod_lt_of_pos _ h0, .mk ns _ _ _ h2 (Int.le_refl _) (mod_ok _).1 (mod_ok _).2⟩
  · have hb' : 0 < big := by omega
    simp [hb, hb', h0, h1]
    exact ⟨_, _, rfl, Int.emod_nonneg _ (by omega), Int.emod_lt_of_pos _ h0, .mk ns _ _ _ h2 (Int.ediv_nonneg h3 (by omega)) h4 h5⟩
theorem feed_spec (ns : List Int) : ∃ fs, m__law_feed [.list (ns.map .int)] = some fs ∧ FeedOk fs := by
  refine ⟨_, ?_, .mk ns 0 0 1 (by omega) (by omega) (by omega) (by omega)⟩
  simp [m__law_feed, fnL, mb__law_feed, startM, outL]

/-! ## rows -/
inductive Rk where
  | new (s : Int)
  | read (s b : Int)
  | fix (c : String) (s : Int) (told : List Int)
  | t1 (n : String) (s : Int)
  | t2 (n : String) (a b : Int)
  deriving Inhabited
def enc : Rk → D
  | .new s => .tuple [.str "new", .int s]
  | .read s b => .tuple [.str "read", .int s, .int b]
  | .fix c s told => .tuple [.str "fix", .str c, .int s, iL told]
  | .t1 n s => .tuple [.str "turn", .str n, iL [s]]
  | .t2 n a b => .tuple [.str "turn", .str n, iL [a, b]]
def stepU (U : List Int) : Rk → List Int
  | .new s => iSort (U ++ [s])
  | .read s _ => U.filter (· ≠ s)
  | _ => U
def nb : Rk → Int
  | .read _ _ => 1
  | _ => 0
def ok (U : List Int) (b : Int) : Rk → Prop
  | .new s => s ∉ U ∧ (0 ≤ s ∧ s < 6) ∧ U.length < 5
  | .read s _ => s ∈ U
  | .fix c s told => s ∈ U ∧ c ∈ ["X", "Y", "Z"] ∧ (∀ t ∈ told, 0 ≤ t ∧ t < b) ∧ told.length ≤ 1000
  | .t1 n s => s ∈ U ∧ n ∈ ["h", "s", "r", "x", "y", "z"]
  | .t2 n a b => a ∈ U ∧ b ∈ U ∧ a ≠ b ∧ n ∈ ["cx", "cz", "sw"]
/-! ## slots in use -/
structure Sl (U : List Int) : Prop where
  lt : U.Pairwise (· < ·)
  bd : ∀ x ∈ U, 0 ≤ x ∧ x < 6
theorem Sl.len {U : List Int} (h : Sl U) : U.length ≤ 6 := by
  have := lt_len h.lt h.bd (by omega)
  omega
theorem Sl.rg {n : Int} (h : n ≤ 6) : Sl (rgI 0 n) := ⟨rgI_lt 0 n, fun x hx => by have := rgI_mem.mp hx; omega⟩
theorem Sl.step {U : List Int} (h : Sl U) {b : Int} {r : Rk} (hr : ok U b r) : Sl (stepU U r) := by
  cases r with
  | new s =>
    obtain ⟨h1, ⟨h2, h3⟩, -⟩ := hr
    refine ⟨iSort_lt ?_, fun x hx => ?_⟩
    · rw [List.nodup_append]
      refine ⟨nodup_of_lt h.lt, by simp, fun a ha b hb => ?_⟩
      rw [List.mem_singleton] at hb
      intro e
      exact h1 (by rw [← hb, ← e]; exact ha)
    · have hx' := iSort_mem.mp hx
      rcases List.mem_append.mp hx' with hx' | hx'
      · exact h.bd x hx'
      · rw [List.mem_singleton.mp hx']; exact ⟨h2, h3⟩
  | read s c => exact ⟨h.lt.filter _, fun x hx => h.bd x (List.mem_filter.mp hx).1⟩
  | fix c s t => exact h
  | t1 n s => exact h
  | t2 n a b => exact h
theorem stepU_len (U : List Int) (r : Rk) : (stepU U r).length ≤ U.length + 1 := by
  cases r with
  | new s => show (iSort (U ++ [s])).length ≤ _; rw [iSort_len, List.length_append]; exact Nat.le_refl _
  | read s b => exact Nat.le_trans (List.length_filter_le _ _) (Nat.le_succ _)
  | _ => exact Nat.le_succ _
theorem fold_len : ∀ (rs : List Rk) (U : List Int), (rs.foldl stepU U).length ≤ U.length + rs.length
  | [], U => Nat.le_refl _
  | r :: rs, U => by
    have h1 := fold_len rs (stepU U r)
    have h2 := stepU_len U r
    rw [List.foldl_cons, List.length_cons]
    omega
/-- a core as the law hands it on -/
abbrev coreD (ins : Int) (rs : List Rk) (o1 o2 : D) : D := .tuple [.int ins, .list (rs.map enc), o1, o2]
end Tk70
end Z


namespace Z
open PySem PySem.Spec PyProof.Rows L2
namespace Tk70
/-! ## the drawn core -/
def UU (ins : Int) (rs : List Rk) : List Int := rs.foldl stepU (rgI 0 ins)
theorem UU_snoc (ins : Int) (rs : List Rk) (r : Rk) : UU ins (rs ++ [r]) = stepU (UU ins rs) r := by
  unfold UU
  rw [List.foldl_append]; rfl
inductive Wf (ins : Int) : List Rk → Int → Prop
  | nil : Wf ins [] 0
  | snoc {rs : List Rk} {r : Rk} {b : Int} : Wf ins rs b → ok (UU ins rs) b r → Wf ins (rs ++ [r]) (b + nb r)
theorem Wf.sl {ins : Int} {rs : List Rk} {b : Int} (hi : ins ≤ 6) (h : Wf ins rs b) : Sl (UU ins rs) := by
  induction h with
  | nil => exact .rg hi
  | snoc h hr ih =>
    rw [UU_snoc]
    exact ih.step hr
def stC (wide most : Int) (ins : Int) (fs : List D) (rs : List Rk) (bits : Int) : MS := [some (.list fs), some (.int ins), some (.int wide), some (.int most), some (iL (UU ins rs)), some (.list (rs.map enc)), some (.int bits), none, none, none, none, none, none, none, none, none, none]
theorem lcL_len {vs : List Nat} {b : D → MS → Option MS} {t : MT} {e : ME} : ∀ {ds : List D} {s : MS} {ys : List D} {s' : MS}, lcL vs b t e ds s = some (ys, s') → ys.length ≤ ds.length
  | [], s, ys, s', h => by
    simp only [lcL, Option.some.injEq, Prod.mk.injEq] at h
    rw [← h.1]; exact Nat.le_refl _
  | d :: ds, s, ys, s', h => by
    rw [lcL] at h
    cases h1 : b d s with
    | none => rw [h1] at h; cases h
    | some s1 =>
      rw [h1, Option.bind_some] at h
      cases h2 : t s1 with
      | none => rw [h2] at h; cases h
      | some q =>
        rw [h2, Option.bind_some] at h
        split at h
        · cases h3 : e q.2 with
          | none => rw [h3] at h; cases h
          | some y =>
            rw [h3, Option.bind_some] at h
            cases h4 : lcL vs b t e ds (wipeM y.2 vs) with
            | none => rw [h4] at h; cases h
            | some z =>
              rw [h4] at h
              simp only [Option.map_some, Option.some.injEq, Prod.mk.injEq] at h
              obtain ⟨h, -⟩ := h
              have ih := lcL_len (ys := z.1) (s' := z.2) h4
              rw [← h, List.length_cons, List.length_cons]
              omega
        · exact Nat.le_succ_of_le (lcL_len h)
theorem kLc_len {vs : List Nat} {b : D → MS → Option MS} {t : MT} {e : ME} {ds : List D} {s : MS} {ys : List D} {s' : MS} (h : kLc vs b t e ds s = some (ys, s')) : ys.length ≤ ds.length := by
  unfold kLc at h
  split at h
  · cases h1 : lcL vs b t e ds (wipeM s vs) with
    | none => rw [h1] at h; cases h
    | some q =>
      rw [h1] at h
      simp only [Option.map_some, Option.some.injEq, Prod.mk.injEq] at h
      rw [← h.1]
      exact lcL_len (s' := q.2) h1
  · cases h
theorem pick {xs : List Int} {r : Int} (h0 : 0 ≤ r) (h : r < xs.length) : ∃ v ∈ xs, atI (xs.map PyData.int) r = some (.int v) := by
  have h' : r < (xs.map PyData.int).length := by rw [List.length_map]; exact h
  refine ⟨xs[r.toNat]'(by omega), List.getElem_mem _, ?_⟩
  rw [atI_pos h0 h', List.getElem_map]
theorem free_some {U : List Int} (h : Sl U) (hl : U.length < 6) : 0 < ((rgI 0 6).filter fun k => k ∉ U).length := by
  rw [List.length_pos_iff]
  intro e
  have e2 : U = rgI 0 6 := lt_ext h.lt (rgI_lt 0 6) fun x => ⟨fun hx => rgI_mem.mpr (h.bd x hx), fun hx => by
    have := List.filter_eq_nil_iff.mp e x hx
    simpa using this⟩
  rw [e2, rgI_len] at hl
  omega
/-- numbers told by draws -/
theorem told_draws {op : D → D → Option D} {n : Int} {bits : Int} {q : Int → Bool} (hop : ∀ a : Int, op (.int a) (.int 0) = some (.bool (q a))) (hn : 0 < n) (hn2 : n < 1073741824) (hb2 : bits ≤ 1000)
    (a1 a2 a3 a4 a5 a6 a7 a8 a9 b1 b2 b3 b4 b5 b6 : Option D) {fs : List D} (F : FeedOk fs) :
    ∃ (ts : List Int) (gs : List D), kLc [15] (bName 15) (xT (xOp op (xCallT 0 m__law_draw (xaCons (xC (.int n)) xaNil)) (xC (.int 0)))) (xVar 15) ((rgI 0 bits).map PyData.int) [some (.list fs), a1, a2, a3, a4, a5, a6, a7, a8, a9, b1, b2, b3, b4, b5, none, b6] = some (ts.map PyData.int, [some (.list gs), a1, a2, a3, a4, a5, a6, a7, a8, a9, b1, b2, b3, b4, b5, none, b6]) ∧ FeedOk gs ∧ (∀ t ∈ ts, 0 ≤ t ∧ t < bits) ∧ ts.length ≤ 1000 := by
  obtain ⟨ys, s', h1, gs, ts, h2, h3, h4, h5⟩ := kLc_ind (vs := [15]) (b := bName 15) (t := xT (xOp op (xCallT 0 m__law_draw (xaCons (xC (.int n)) xaNil)) (xC (.int 0)))) (e := xVar 15) PyData.int (fun acc s => ∃ (gs : List D) (ts : List Int), FeedOk gs ∧ acc = ts.map PyData.int ∧ (∀ t ∈ ts, 0 ≤ t ∧ t < bits) ∧ s = [some (.list gs), a1, a2, a3, a4, a5, a6, a7, a8, a9, b1, b2, b3, b4, b5, none, b6])
    (s := [some (.list fs), a1, a2, a3, a4, a5, a6, a7, a8, a9, b1, b2, b3, b4, b5, none, b6]) (xs := rgI 0 bits) (by rw [rgI_len]; omega) ⟨fs, [], F, rfl, by simp, rfl⟩ (fun x hx acc s ⟨gs, ts, F, e1, e2, e3⟩ => by
      subst e3
      obtain ⟨r, f1, d1, r0, r1, F1⟩ := draw_spec F hn hn2
      refine ⟨_, rfl, q r, [some (.list f1), a1, a2, a3, a4, a5, a6, a7, a8, a9, b1, b2, b3, b4, b5, some (.int x), b6], by simp [d1, hop], fun _ => ⟨f1, ts, F1, e1, e2, rfl⟩, fun _ => ⟨.int x, _, rfl, f1, ts ++ [x], F1, by rw [e1, List.map_append]; rfl, fun t ht => ?_, rfl⟩⟩
      rcases List.mem_append.mp ht with ht | ht
      · exact e2 t ht
      · rw [List.mem_singleton.mp ht]; exact rgI_mem.mp hx)
  have hlen := kLc_len h1
  rw [h3, List.length_map, List.length_map, rgI_len] at hlen
  refine ⟨ts, gs, ?_, h2, h4, by omega⟩
  rw [h1, h3, h5]
  rfl
def bodyC : MM := (mForget [7, 8, 9, 10, 11, 12, 15] (mSeq (mSet 8 (xCallT 0 m__law_draw (xaCons (xC (.int 10)) xaNil)))
  (mSeq (mSet 9 (xLst (xLc (xRg1 (xC (.int 6))) [15] (bName 15) (xT (xOp (dIn true) (xVar 15) (xVar 4))) (xVar 15))))
  (mIf (xAnd (xOr (xT (xOp dEq (xVar 8) (xC (.int 0)))) (xT (xOp dEq (xFn dLen (xaCons (xVar 4) xaNil)) (xC (.int 0))))) (xT (xOp dLt (xFn dLen (xaCons (xVar 4) xaNil)) (xVar 2)))) (mSeq (mSet 10 (xOp dIx (xVar 9) (xCallT 0 m__law_draw (xaCons (xFn dLen (xaCons (xVar 9) xaNil)) xaNil))))
  (mSeq (mApp 5 (xTup (xaCons (xC (.str "new")) (xaCons (xVar 10) xaNil))))
  (mSet 4 (xLst (xfMap dSorted (xCat (xList (xVar 4)) (xDisp (xaCons (xVar 10) xaNil))))))))
  (mIf (xT (xOp dGt (xFn dLen (xaCons (xVar 4) xaNil)) (xC (.int 0)))) (mSeq (mSet 10 (xOp dIx (xVar 4) (xCallT 0 m__law_draw (xaCons (xFn dLen (xaCons (xVar 4) xaNil)) xaNil))))
  (mIf (xAnd (xT (xOp dEq (xVar 8) (xC (.int 1)))) (xT (xOp dLt (xVar 6) (xC (.int 4))))) (mSeq (mApp 5 (xTup (xaCons (xC (.str "read")) (xaCons (xVar 10) (xaCons (xVar 6) xaNil)))))
  (mSeq (mAug dAddI 6 (xC (.int 1)))
  (mSet 4 (xLst (xLc (xSeq (xVar 4)) [15] (bName 15) (xT (xOp dNe (xVar 15) (xVar 10))) (xVar 15))))))
  (mIf (xAnd (xT (xOp dEq (xVar 8) (xC (.int 2)))) (xT (xOp dGt (xVar 6) (xC (.int 0))))) (mSeq (mSet 11 (xLst (xLc (xRg1 (xVar 6)) [15] (bName 15) (xT (xOp dEq (xCallT 0 m__law_draw (xaCons (xC (.int 2)) xaNil)) (xC (.int 0)))) (xVar 15))))
  (mSeq (mIf (xT (xOp dEq (xFn dLen (xaCons (xVar 11) xaNil)) (xC (.int 0)))) (mSet 11 (xLst (xDisp (xaCons (xCallT 0 m__law_draw (xaCons (xVar 6) xaNil)) xaNil))))
  mSkip)
  (mApp 5 (xTup (xaCons (xC (.str "fix")) (xaCons (xOp dIx (xC (.str "XYZ")) (xCallT 0 m__law_draw (xaCons (xC (.int 3)) xaNil))) (xaCons (xVar 10) (xaCons (xVar 11) xaNil))))))))
  (mIf (xAnd (xT (xOp dGt (xVar 8) (xC (.int 6)))) (xT (xOp dGt (xFn dLen (xaCons (xVar 4) xaNil)) (xC (.int 1))))) (mSeq (mSet 12 (xOp dIx (xLst (xLc (xSeq (xVar 4)) [15] (bName 15) (xT (xOp dNe (xVar 15) (xVar 10))) (xVar 15))) (xCallT 0 m__law_draw (xaCons (xOp dSub (xFn dLen (xaCons (xVar 4) xaNil)) (xC (.int 1))) xaNil))))
  (mApp 5 (xTup (xaCons (xC (.str "turn")) (xaCons (xOp dIx (xLst (xDisp (xaCons (xC (.str "cx")) (xaCons (xC (.str "cz")) (xaCons (xC (.str "sw")) xaNil))))) (xCallT 0 m__law_draw (xaCons (xC (.int 3)) xaNil))) (xaCons (xLst (xDisp (xaCons (xVar 10) (xaCons (xVar 12) xaNil)))) xaNil))))))
  (mApp 5 (xTup (xaCons (xC (.str "turn")) (xaCons (xOp dIx (xLst (xDisp (xaCons (xC (.str "h")) (xaCons (xC (.str "s")) (xaCons (xC (.str "h")) (xaCons (xC (.str "r")) (xaCons (xC (.str "x")) (xaCons (xC (.str "y")) (xaCons (xC (.str "z")) xaNil))))))))) (xCallT 0 m__law_draw (xaCons (xC (.int 7)) xaNil))) (xaCons (xLst (xDisp (xaCons (xVar 10) xaNil))) xaNil)))))))))
  mSkip)))))
/-- what a turn of the loop leaves -/
def Next (wide most : Int) (ins : Int) (rs : List Rk) (o : Option Out) : Prop := ∃ fs' rs' bits', FeedOk fs' ∧ Wf ins rs' bits' ∧ rs'.length ≤ rs.length + 1 ∧ (0 ≤ bits' ∧ bits' ≤ 4) ∧ o = some (.nx (stC wide most ins fs' rs' bits'))
theorem step_ok {ins : Int} {fs : List D} {rs : List Rk} {bits : Int} {wide most : Int} (hw3 : 3 ≤ wide ∧ wide ≤ 5) (hi0 : 0 ≤ ins) (hi : ins ≤ 4) (F : FeedOk fs) (hw : Wf ins rs bits) (hr : rs.length ≤ 1000) (hb : 0 ≤ bits ∧ bits ≤ 4) (st : D) : Next wide most ins rs (bodyC ((stC wide most ins fs rs bits).set 7 (some st))) := by
  have hS := hw.sl (by omega)
  have hrl : rs.length ≤ 1000000 := by omega
  obtain ⟨kind, f1, d1, k0, k1, F1⟩ := draw_spec F (n := 10) (by omega) (by omega)
  have eU : ∀ r, UU ins (rs ++ [r]) = stepU (UU ins rs) r := UU_snoc ins rs
  have hw0 : 0 < wide := by omega
  have hW : ∀ r, ok (UU ins rs) bits r → Wf ins (rs ++ [r]) (bits + nb r) := fun r h => .snoc hw h
  unfold stC
  generalize UU ins rs = U at hS eU hW ⊢
  have hl := hS.len
  have K := kLc_pure (vs := [15]) (b := bName 15) (t := xT (xOp (dIn true) (xVar 15) (xVar 4))) (e := xVar 15) PyData.int (fun y => y ∉ U) PyData.int (s := [some (.list f1), some (.int ins), some (.int wide), some (.int most), some (iL U), some (.list (rs.map enc)), some (.int bits), some st, some (.int kind), none, none, none, none, none, none, none, none]) (xs := rgI 0 6) (by rw [rgI_len]; omega) fun y hy => by
    refine ⟨_, rfl, ?_⟩
    simp
  have hfree : ∀ v ∈ (rgI 0 6).filter (fun y => decide (y ∉ U)), (U.length : Int) < wide → ok U bits (.new v) := fun v hv hl => by
    have := List.mem_filter.mp hv
    exact ⟨by simpa using this.2, rgI_mem.mp this.1, by omega⟩
  have hfn := free_some hS
  have hf6 := List.length_filter_le (fun y => decide (y ∉ U)) (rgI 0 6)
  rw [rgI_len] at hf6
  generalize (rgI 0 6).filter (fun y => decide (y ∉ U)) = fr at K hfn hfree hf6
  simp at K
  -- a new one
  have new : (U.length : Int) < wide → (kind = 0 ∨ (¬ kind = 0 ∧ U = [])) → Next wide most ins rs (bodyC [some (.list fs), some (.int ins), some (.int wide), some (.int most), some (iL U), some (.list (rs.map enc)), some (.int bits), some st, none, none, none, none, none, none, none, none, none]) := fun hl4 hc => by
    have h6 : 0 < fr.length := hfn (by omega)
    obtain ⟨r, f2, d2, r0, r1, F2⟩ := draw_spec F1 (n := fr.length) (by omega) (by omega)
    obtain ⟨v, hv, ev⟩ := pick r0 r1
    refine ⟨f2, rs ++ [.new v], bits, F2, by have := hW _ (hfree v hv hl4); simpa [nb] using this, by simp, hb, ?_⟩
    unfold stC
    rw [eU]
    rcases hc with hc | ⟨hk, hc⟩
    · subst hc
      simp [bodyC, d1, dRg_map, xLc_ap, K, d2, ev, enc, hrl, hl4, stepU, show U.length + 1 ≤ 1000000 by omega]
    · subst hc
      simp [bodyC, d1, dRg_map, xLc_ap, K, d2, ev, enc, hrl, stepU, hk, hw0]
  by_cases hA : kind = 0 ∧ (U.length : Int) < wide
  · exact new hA.2 (.inl hA.1)
  by_cases hN : ¬ kind = 0 ∧ U = []
  · exact new (by rw [hN.2]; exact hw0) (.inr hN)
  have hne : ¬ U = [] := fun e => by
    by_cases k0 : kind = 0
    · exact hA ⟨k0, by rw [e]; exact hw0⟩
    · exact hN ⟨k0, e⟩
  have hpos : 0 < U.length := List.length_pos_iff.mpr hne
  obtain ⟨r, f2, d2, r0, r1, F2⟩ := draw_spec F1 (n := U.length) (by omega) (by omega)
  obtain ⟨v, hv, ev⟩ := pick r0 r1
  by_cases h1 : kind = 1 ∧ bits < 4
  · obtain ⟨h1, h2⟩ := h1
    refine ⟨f2, rs ++ [.read v bits], bits + 1, F2, hW (.read v bits) hv, by simp, by omega, ?_⟩
    subst h1
    have K2 := fun a b => kLc_pure (vs := [15]) (b := bName 15) (t := xT (xOp dNe (xVar 15) (xVar 10))) (e := xVar 15) PyData.int (fun x => x ≠ v) PyData.int (s := [some (.list f2), some (.int ins), some (.int wide), some (.int most), some (iL U), some a, some b, some st, some (.int 1), some (.list (fr.map .int)), some (.int v), none, none, none, none, none, none]) (xs := U) (by omega) fun y hy => by
      refine ⟨_, rfl, ?_⟩
      simp
    simp at K2
    unfold stC
    rw [eU]
    simp [bodyC, d1, dRg_map, xLc_ap, K, d2, ev, enc, hrl, hne, hpos, stepU, h2, K2]
  by_cases h2 : kind = 2 ∧ 0 < bits
  · obtain ⟨h2, h3⟩ := h2
    subst h2
    obtain ⟨ts, f3, T1, F3, T2⟩ := told_draws (op := dEq) (n := 2) (bits := bits) (q := fun a => decide (a = 0)) (fun a => dEq_ii a 0) (by omega) (by omega) (by omega) (some (.int ins)) (some (.int wide)) (some (.int most)) (some (iL U)) (some (.list (rs.map enc))) (some (.int bits)) (some st) (some (.int 2)) (some (.list (fr.map .int))) (some (.int v)) none none none none none F2
    -- the bits that are told, at least one
    have L : ∃ (ls : List Int) (f4 : List D), FeedOk f4 ∧ ((∀ t ∈ ls, 0 ≤ t ∧ t < bits) ∧ ls.length ≤ 1000) ∧ ∀ g : List D, mIf (xT (xOp dEq (xFn dLen (xaCons (xVar 11) xaNil)) (xC (.int 0)))) (mSet 11 (xLst (xDisp (xaCons (xCallT 0 m__law_draw (xaCons (xVar 6) xaNil)) xaNil)))) mSkip [some (.list f3), some (.int ins), some (.int wide), some (.int most), some (iL U), some (.list (rs.map enc)), some (.int bits), some st, some (.int 2), some (.list (fr.map .int)), some (.int v), some (iL ts), none, none, none, none, none] = some (.nx [some (.list f4), some (.int ins), some (.int wide), some (.int most), some (iL U), some (.list (rs.map enc)), some (.int bits), some st, some (.int 2), some (.list (fr.map .int)), some (.int v), some (iL ls), none, none, none, none, none]) := by
      by_cases e : ts = []
      · subst e
        obtain ⟨q, f4, d4, q0, q1, F4⟩ := draw_spec F3 (n := bits) (by omega) (by omega)
        exact ⟨[q], f4, F4, ⟨fun t ht => by rw [List.mem_singleton.mp ht]; exact ⟨q0, q1⟩, by simp⟩, fun _ => by simp [d4]⟩
      · exact ⟨ts, f3, F3, T2, fun _ => by simp [e]⟩
    obtain ⟨ls, f4, F4, hls, L⟩ := L
    have L := L []
    simp at L
    obtain ⟨c, f5, d5, c0, c1, F5⟩ := draw_spec F4 (n := 3) (by omega) (by omega)
    have C : ∃ s : String, s ∈ ["X", "Y", "Z"] ∧ dIx (.str "XYZ") (.int c) = some (.str s) := by
      have : c = 0 ∨ c = 1 ∨ c = 2 := by omega
      rcases this with rfl | rfl | rfl
      · exact ⟨"X", by simp, rfl⟩
      · exact ⟨"Y", by simp, rfl⟩
      · exact ⟨"Z", by simp, rfl⟩
    obtain ⟨s, hs, C⟩ := C
    refine ⟨f5, rs ++ [.fix s v ls], bits, F5, by have := hW (.fix s v ls) ⟨hv, hs, hls⟩; simpa [nb] using this, by simp, hb, ?_⟩
    unfold stC
    rw [eU]
    simp [bodyC, d1, dRg_map, xLc_ap, K, d2, ev, enc, hrl, hne, hpos, stepU, h3, T1, L, d5, C, show bits ≤ 1000000 ∧ -1000000 ≤ bits by omega]
  by_cases h3 : 6 < kind ∧ 1 < U.length
  · obtain ⟨h3, h4⟩ := h3
    have hk : ¬ kind = 0 ∧ ¬ kind = 1 ∧ ¬ kind = 2 := by omega
    have K3 := fun (a b : Option D) => kLc_pure (vs := [15]) (b := bName 15) (t := xT (xOp dNe (xVar 15) (xVar 10))) (e := xVar 15) PyData.int (fun x => x ≠ v) PyData.int (s := [some (.list f2), some (.int ins), some (.int wide), some (.int most), some (iL U), some (.list (rs.map enc)), some (.int bits), some st, some (.int kind), some (.list (fr.map .int)), some (.int v), a, b, none, none, none, none]) (xs := U) (by omega) fun y hy => by
      refine ⟨_, rfl, ?_⟩
      simp
    have ho : 0 < (U.filter fun x => decide (x ≠ v)).length ∧ (U.length : Int) - 1 = (U.filter fun x => decide (x ≠ v)).length := by
      have e1 : (U.filter fun x => decide (x ≠ v)).length + 1 = U.length := by
        have nd := nodup_of_lt hS.lt
        have := List.length_erase_of_mem hv
        rw [nd.erase_eq_filter] at this
        have e2 : (U.filter fun x => decide (x ≠ v)) = U.filter (· != v) := by
          apply List.filter_congr
          intro x _
          by_cases e : x = v <;> simp [e]
        rw [e2, this]
        omega
      omega
    have hm : ∀ x ∈ (U.filter fun x => decide (x ≠ v)), x ∈ U ∧ x ≠ v := fun x hx => by
      have := List.mem_filter.mp hx
      exact ⟨this.1, by simpa using this.2⟩
    generalize (U.filter fun x => decide (x ≠ v)) = ot at K3 ho hm
    simp at K3
    obtain ⟨q, f3, d3, q0, q1, F3⟩ := draw_spec F2 (n := (U.length : Int) - 1) (by omega) (by omega)
    obtain ⟨w, hw', ew⟩ := pick q0 (by omega : q < ot.length)
    obtain ⟨c, f4, d4, c0, c1, F4⟩ := draw_spec F3 (n := 3) (by omega) (by omega)
    have C : ∃ s : String, s ∈ ["cx", "cz", "sw"] ∧ atI [PyData.str "cx", PyData.str "cz", PyData.str "sw"] c = some (.str s) := by
      have : c = 0 ∨ c = 1 ∨ c = 2 := by omega
      rcases this with rfl | rfl | rfl
      · exact ⟨"cx", by simp, rfl⟩
      · exact ⟨"cz", by simp, rfl⟩
      · exact ⟨"sw", by simp, rfl⟩
    obtain ⟨s, hs, C⟩ := C
    refine ⟨f4, rs ++ [.t2 s v w], bits, F4, by have := hW (.t2 s v w) ⟨hv, (hm w hw').1, fun e => (hm w hw').2 e.symm, hs⟩; simpa [nb] using this, by simp, hb, ?_⟩
    unfold stC
    rw [eU]
    simp [bodyC, d1, dRg_map, xLc_ap, K, d2, ev, enc, hrl, hne, hpos, stepU, h3, show (1 : Int) < U.length by omega, hk, K3, d3, ew, d4, C]
  have T : ∃ (c : Int) (f3 : List D) (s : String), m__law_draw f2 [.int 7] = some (.int c, f3) ∧ FeedOk f3 ∧ s ∈ ["h", "s", "r", "x", "y", "z"] ∧ atI [PyData.str "h", PyData.str "s", PyData.str "h", PyData.str "r", PyData.str "x", PyData.str "y", PyData.str "z"] c = some (.str s) := by
    obtain ⟨c, f3, d3, c0, c1, F3⟩ := draw_spec F2 (n := 7) (by omega) (by omega)
    refine ⟨c, f3, ?_⟩
    have : c = 0 ∨ c = 1 ∨ c = 2 ∨ c = 3 ∨ c = 4 ∨ c = 5 ∨ c = 6 := by omega
    rcases this with rfl | rfl | rfl | rfl | rfl | rfl | rfl
    · exact ⟨"h", d3, F3, by simp, rfl⟩
    · exact ⟨"s", d3, F3, by simp, rfl⟩
    · exact ⟨"h", d3, F3, by simp, rfl⟩
    · exact ⟨"r", d3, F3, by simp, rfl⟩
    · exact ⟨"x", d3, F3, by simp, rfl⟩
    · exact ⟨"y", d3, F3, by simp, rfl⟩
    · exact ⟨"z", d3, F3, by simp, rfl⟩
  obtain ⟨c, f3, s, d3, F3, hs, C⟩ := T
  refine ⟨f3, rs ++ [.t1 s v], bits, F3, by have := hW (.t1 s v) ⟨hv, hs⟩; simpa [nb] using this, by simp, hb, ?_⟩
  unfold stC
  rw [eU]
  have s1 : xAnd (xT (xOp dEq (xVar 8) (xC (.int 1)))) (xT (xOp dLt (xVar 6) (xC (.int 4)))) [some (.list f2), some (.int ins), some (.int wide), some (.int most), some (iL U), some (.list (rs.map enc)), some (.int bits), some st, some (.int kind), some (.list (fr.map .int)), some (.int v), none, none, none, none, none, none] = some (false, [some (.list f2), some (.int ins), some (.int wide), some (.int most), some (iL U), some (.list (rs.map enc)), some (.int bits), some st, some (.int kind), some (.list (fr.map .int)), some (.int v), none, none, none, none, none, none]) := by
    by_cases e : kind = 1
    · have e2 : ¬ bits < 4 := fun z => h1 ⟨e, z⟩
      subst e
      simp [e2]
    · simp [e]
  have s2 : xAnd (xT (xOp dEq (xVar 8) (xC (.int 2)))) (xT (xOp dGt (xVar 6) (xC (.int 0)))) [some (.list f2), some (.int ins), some (.int wide), some (.int most), some (iL U), some (.list (rs.map enc)), some (.int bits), some st, some (.int kind), some (.list (fr.map .int)), some (.int v), none, none, none, none, none, none] = some (false, [some (.list f2), some (.int ins), some (.int wide), some (.int most), some (iL U), some (.list (rs.map enc)), some (.int bits), some st, some (.int kind), some (.list (fr.map .int)), some (.int v), none, none, none, none, none, none]) := by
    by_cases e : kind = 2
    · have e2 : ¬ 0 < bits := fun z => h2 ⟨e, z⟩
      subst e
      simp [e2]
    · simp [e]
  have s3 : xAnd (xT (xOp dGt (xVar 8) (xC (.int 6)))) (xT (xOp dGt (xFn dLen (xaCons (xVar 4) xaNil)) (xC (.int 1)))) [some (.list f2), some (.int ins), some (.int wide), some (.int most), some (iL U), some (.list (rs.map enc)), some (.int bits), some st, some (.int kind), some (.list (fr.map .int)), some (.int v), none, none, none, none, none, none] = some (false, [some (.list f2), some (.int ins), some (.int wide), some (.int most), some (iL U), some (.list (rs.map enc)), some (.int bits), some st, some (.int kind), some (.list (fr.map .int)), some (.int v), none, none, none, none, none, none]) := by
    by_cases e : 6 < kind
    · have e2 : (U.length : Int) ≤ 1 := by
        have : ¬ 1 < U.length := fun z => h3 ⟨e, z⟩
        omega
      simp [e, e2]
    · simp [e]
  by_cases hk : kind = 0
  · have h4 : ¬ (U.length : Int) < wide := fun z => hA ⟨hk, z⟩
    subst hk
    simp at s1 s2 s3
    simp [bodyC, d1, dRg_map, xLc_ap, K, d2, ev, enc, hrl, hne, hpos, stepU, h4, s1, s2, s3, d3, C]
  · simp at s1 s2 s3
    simp [bodyC, d1, dRg_map, xLc_ap, K, d2, ev, enc, hrl, hne, hpos, stepU, hk, s1, s2, s3, d3, C]
theorem map_pop (f : Int → D) : ∀ (xs : List Int) (n : Nat), (xs.map f).eraseIdx n = (xs.eraseIdx n).map f
  | [], n => rfl
  | x :: r, 0 => rfl
  | x :: r, n + 1 => congrArg (f x :: ·) (map_pop f r n)
theorem pop_perm : ∀ (xs : List Int) {n : Nat} (h : n < xs.length), (xs[n] :: xs.eraseIdx n).Perm xs
  | x :: r, 0, h => .refl _
  | x :: r, n + 1, h => by
    have h' : n < r.length := by simpa using h
    have ih := pop_perm r (n := n) h'
    show (r[n] :: x :: r.eraseIdx n).Perm (x :: r)
    exact (List.Perm.swap _ _ _).trans (.cons x ih)
theorem UU_nil (ins : Int) : UU ins [] = rgI 0 ins := rfl
def mb_core2 : MM := (mSeq (mSet 4 (xLst (xLc (xRg1 (xVar 1)) [15] (bName 15) xYes (xVar 15))))
  (mSeq (mSetF 5 (xDisp xaNil))
  (mSeq (mSet 6 (xC (.int 0)))
  (mSeq (mFor (xRg1 (xCallT 0 m__law_draw (xaCons (xOp dAdd (xVar 3) (xC (.int 1))) xaNil))) (bName 7) bodyC)
  (mSeq (mSetF 13 (xSeq (xVar 4)))
  (mSeq (mSetF 14 (xDisp xaNil))
  (mSeq (mFor (xRg1 (xFn dLen (xaCons (xVar 13) xaNil))) (bName 15) (mForget [15] (mApp 14 (xPopAt 13 (xCallT 0 m__law_draw (xaCons (xFn dLen (xaCons (xVar 13) xaNil)) xaNil))))))
  (mSeq (mSet 16 (xLst (xLc (xRg1 (xVar 6)) [15] (bName 15) (xT (xOp dGt (xCallT 0 m__law_draw (xaCons (xC (.int 3)) xaNil)) (xC (.int 0)))) (xVar 15))))
  (mSeq (mIf (xT (xOp dEq (xCallT 0 m__law_draw (xaCons (xC (.int 3)) xaNil)) (xC (.int 0)))) (mSet 16 (xLst (xfMap (fun ds => some ds.reverse) (xList (xVar 16)))))
  mSkip)
  (mRet (xTup (xaCons (xVar 1) (xaCons (xVar 5) (xaCons (xVar 14) (xaCons (xVar 16) xaNil)))))))))))))))
theorem core_eq : mb__law_core = mb_core2 := rfl
theorem order_ok {wide most ins : Int} (bits : D) (U : List Int) (rows : List D) (hU : U.length ≤ 1000) {fs : List D} (F : FeedOk fs) :
    ∃ (gs : List D) (o2 o : List Int), FeedOk gs ∧ o.Perm U ∧ forL (bName 15) (mForget [15] (mApp 14 (xPopAt 13 (xCallT 0 m__law_draw (xaCons (xFn dLen (xaCons (xVar 13) xaNil)) xaNil))))) ((rgI 0 U.length).map PyData.int) [some (.list fs), some (.int ins), some (.int wide), some (.int most), some (iL U), some (.list rows), some bits, none, none, none, none, none, none, some (iL U), some (.list []), none, none] = some (.nx [some (.list gs), some (.int ins), some (.int wide), some (.int most), some (iL U), some (.list rows), some bits, none, none, none, none, none, none, some (iL o2), some (iL o), none, none]) := by
  obtain ⟨s', h1, gs, o2, o, F', hl, hl2, hpm, e⟩ := for_ind (b := bName 15) (m := mForget [15] (mApp 14 (xPopAt 13 (xCallT 0 m__law_draw (xaCons (xFn dLen (xaCons (xVar 13) xaNil)) xaNil))))) PyData.int (fun done s => ∃ (gs : List D) (o2 o : List Int), FeedOk gs ∧ o2.length + done.length = U.length ∧ o.length = done.length ∧ (o ++ o2).Perm U ∧ s = [some (.list gs), some (.int ins), some (.int wide), some (.int most), some (iL U), some (.list rows), some bits, none, none, none, none, none, none, some (iL o2), some (iL o), none, none]) (rgI 0 U.length) []
    [some (.list fs), some (.int ins), some (.int wide), some (.int most), some (iL U), some (.list rows), some bits, none, none, none, none, none, none, some (iL U), some (.list []), none, none] ⟨fs, U, [], F, rfl, rfl, .refl _, rfl⟩ fun d x r s ed ⟨gs, o2, o, F, hl, hl2, hpm, e⟩ => by
      subst e
      have l1 := congrArg List.length ed
      rw [List.nil_append, rgI_len, List.length_append, List.length_cons] at l1
      have hpos : 0 < o2.length := by omega
      obtain ⟨q, f2, d2, q0, q1, F2⟩ := draw_spec F (n := o2.length) (by omega) (by omega)
      have hq : q.toNat < o2.length := by omega
      refine ⟨_, [some (.list f2), some (.int ins), some (.int wide), some (.int most), some (iL U), some (.list rows), some bits, none, none, none, none, none, none, some (iL (o2.eraseIdx q.toNat)), some (iL (o ++ [o2[q.toNat]])), none, none], rfl, .inl ?_, f2, o2.eraseIdx q.toNat, o ++ [o2[q.toNat]], F2, ?_, ?_, (by rw [List.append_assoc]; exact (List.Perm.append_left o (pop_perm o2 hq)).trans hpm), rfl⟩
      · simp [d2, q0, q1, map_pop, show o2.length ≤ 1000000 by omega, show o.length ≤ 1000000 by omega, List.getElem?_eq_getElem hq]
      · rw [List.length_eraseIdx, if_pos hq, List.length_append, List.length_singleton]; omega
      · rw [List.length_append, List.length_append, hl2]; rfl
  rw [List.nil_append, rgI_len] at hl
  have e0 : o2 = [] := List.length_eq_zero_iff.mp (by omega)
  exact ⟨gs, o2, o, F', by rw [e0, List.append_nil] at hpm; exact hpm, by rw [h1, e]⟩
theorem core_spec {wide most ins : Int} (hw3 : 3 ≤ wide ∧ wide ≤ 5) (hmo : 0 ≤ most ∧ most ≤ 40) (hi0 : 0 ≤ ins) (hi : ins ≤ 4) {fs : List D} (F : FeedOk fs) : ∃ (rs : List Rk) (b : Int) (o sh : List Int) (gs : List D), m__law_core fs [.int ins, .int wide, .int most] = some (coreD ins rs (iL o) (iL sh), gs) ∧ FeedOk gs ∧ Wf ins rs b ∧ rs.length ≤ most ∧ o.Perm (UU ins rs) := by
  have K1 := kLc_map (vs := [15]) (b := bName 15) (t := xYes) (e := xVar 15) PyData.int PyData.int (s := [some (.list fs), some (.int ins), some (.int wide), some (.int most), none, none, none, none, none, none, none, none, none, none, none, none, none]) (xs := rgI 0 ins) (by rw [rgI_len]; omega) fun k hk => ⟨_, rfl, rfl, rfl, rfl⟩
  simp at K1
  obtain ⟨n, f1, d1, n0, n1, F1⟩ := draw_spec F (n := most + 1) (by omega) (by omega)
  obtain ⟨s', L, f2, rs, bits, F2, hw, hr, hb, es⟩ := for_ind (b := bName 7) (m := bodyC) PyData.int (fun done s => ∃ (gs : List D) (rs : List Rk) (bits : Int), FeedOk gs ∧ Wf ins rs bits ∧ rs.length ≤ done.length ∧ (0 ≤ bits ∧ bits ≤ 4) ∧ s = stC wide most ins gs rs bits) (rgI 0 n) [] (stC wide most ins f1 [] 0) ⟨f1, [], 0, F1, .nil, Nat.le_refl _, by omega, rfl⟩ fun d x r s ed ⟨gs, rs, bits, F, hw, hr, hb, e⟩ => by
    subst e
    have l1 := congrArg List.length ed
    rw [List.nil_append, rgI_len, List.length_append, List.length_cons] at l1
    obtain ⟨f', r', b', F', w', l', b2, e'⟩ := step_ok (most := most) hw3 hi0 hi F hw (by omega) hb (.int x)
    exact ⟨_, _, rfl, .inl e', f', r', b', F', w', by rw [List.length_append]; exact Nat.le_trans l' (by rw [List.length_singleton]; omega), b2, rfl⟩
  subst es
  rw [List.nil_append, rgI_len] at hr
  have hS := hw.sl (by omega)
  have hl := hS.len
  obtain ⟨f3, o2, o, F3, hpm, L2⟩ := order_ok (wide := wide) (most := most) (ins := ins) (.int bits) (UU ins rs) (rs.map enc) (by omega) F2
  obtain ⟨sh, f4, T1, F4, _⟩ := told_draws (op := dGt) (n := 3) (bits := bits) (q := fun a => decide (a > 0)) (fun a => rfl) (by omega) (by omega) (by omega) (some (.int ins)) (some (.int wide)) (some (.int most)) (some (iL (UU ins rs))) (some (.list (rs.map enc))) (some (.int bits)) none none none none none none (some (iL o2)) (some (iL o)) none F3
  obtain ⟨q, f5, d5, q0, q1, F5⟩ := draw_spec F4 (n := 3) (by omega) (by omega)
  have fin : ∃ sh2 : List Int, m__law_core fs [.int ins, .int wide, .int most] = some (coreD ins rs (iL o) (iL sh2), f5) := by
    unfold stC at L
    simp [UU_nil] at L L2
    have g1 : n ≤ 1000000 ∧ -1000000 ≤ n := by omega
    have g2 : ins ≤ 1000000 ∧ -1000000 ≤ ins := by omega
    have g3 : bits ≤ 1000000 ∧ -1000000 ≤ bits := by omega
    have g4 : ((UU ins rs).length : Int) ≤ 1000000 := by omega
    by_cases hq : q = 0
    · refine ⟨sh.reverse, ?_⟩
      subst hq
      simp [m__law_core, fnT, core_eq, mb_core2, startM, xLc_ap, mFor_ap, kFor_ap, dRg_map, K1, d1, L, L2, T1, d5, outT, g1, g2, g3, g4]
    · refine ⟨sh, ?_⟩
      simp [m__law_core, fnT, core_eq, mb_core2, startM, xLc_ap, mFor_ap, kFor_ap, dRg_map, K1, d1, L, L2, T1, d5, outT, hq, g1, g2, g3, g4]
  obtain ⟨sh2, fin⟩ := fin
  exact ⟨rs, bits, o, sh2, f5, fin, F5, hw, by omega, hpm⟩
end Tk70
end Z


namespace Z
open PySem PySem.Spec PyProof.Rows L2
namespace Tk70
theorem dAny_b {α : Type} (xs : List α) (f : α → Bool) : dAny [.list (xs.map fun x => PyData.bool (f x))] = some (.bool (xs.any f)) := by
  have e : xs.map (fun x => PyData.bool (f x)) = (xs.map f).map PyData.bool := by rw [List.map_map]; rfl
  show (asBls _).map _ = _
  rw [e, asBls_map, Option.map_some, List.any_map]; rfl
theorem dAll_b {α : Type} (xs : List α) (f : α → Bool) : dAll [.list (xs.map fun x => PyData.bool (f x))] = some (.bool (xs.all f)) := by
  have e : xs.map (fun x => PyData.bool (f x)) = (xs.map f).map PyData.bool := by rw [List.map_map]; rfl
  show (asBls _).map _ = _
  rw [e, asBls_map, Option.map_some, List.all_map]; rfl
/-! ## rows that hang together -/
def sl : Rk → List Int
  | .new s => [s]
  | .read s _ => [s]
  | .fix _ s _ => [s]
  | .t1 _ s => [s]
  | .t2 _ a b => [a, b]
theorem sl_len (r : Rk) : (sl r).length ≤ 2 := by cases r <;> simp [sl]
def kd : Rk → String
  | .new _ => "new"
  | .read _ _ => "read"
  | .fix _ _ _ => "fix"
  | .t1 _ _ => "turn"
  | .t2 _ _ _ => "turn"
@[simp] theorem nd_enc (r : Rk) : nd (some (enc r)) = some (enc r) := by cases r <;> rfl
@[simp] theorem enc_0 (r : Rk) : dIx (enc r) (.int 0) = some (.str (kd r)) := by cases r <;> rfl
theorem slots_of_spec (r : Rk) : m_slots_of [enc r] = some (iL (sl r)) := by
  cases r <;> simp [m_slots_of, fnP, mb_slots_of, startM, enc, sl, outP]
theorem slots_law_spec (r : Rk) : m__law_slots [enc r] = some (iL (sl r)) := by
  cases r <;> simp [m__law_slots, fnP, mb__law_slots, startM, enc, sl, outP]
def shr (a b : Rk) : Bool := (sl a).any fun x => decide (x ∈ sl b)
theorem do_share_spec (a b : Rk) : m_do_share [enc a, enc b] = some (.bool (shr a b)) := by
  have K := kLc_map (vs := [2]) (b := (bName 2)) (t := xYes) (e := (xOp (dIn false) (xVar 2) (xFn m_slots_of (xaCons (xVar 1) xaNil)))) PyData.int (fun x => PyData.bool (decide (x ∈ sl b))) (s := [some (enc a), some (enc b), none]) (xs := sl a) (by have := sl_len a; omega) fun x hx => by
    refine ⟨_, rfl, rfl, ?_, rfl⟩
    simp [slots_of_spec]
  simp at K
  simp [m_do_share, fnP, mb_do_share, startM, xLc_ap, slots_of_spec, K, dAny_b, shr, outP]
theorem share_law_spec (a b : Rk) : m__law_share [enc a, enc b] = some (.bool (shr a b)) := by
  have K := kLc_pure (vs := [2]) (b := (bName 2)) (t := (xT (xOp (dIn false) (xVar 2) (xFn m__law_slots (xaCons (xVar 1) xaNil))))) (e := (xVar 2)) PyData.int (fun x => decide (x ∈ sl b)) PyData.int (s := [some (enc a), some (enc b), none]) (xs := sl a) (by have := sl_len a; omega) fun x hx => by
    refine ⟨_, rfl, ?_⟩
    simp [slots_law_spec]
  simp at K
  simp [m__law_share, fnP, mb__law_share, startM, xLc_ap, slots_law_spec, K, outP, shr]
  rw [Bool.eq_iff_iff]
  simp [List.length_pos_iff_exists_mem]
def hg (a b : Rk) : Bool := shr a b || match a, b with
  | .read _ _, .read _ _ => true
  | .read _ _, .new _ => true
  | .new _, .read _ _ => true
  | .read _ x, .fix _ _ t => decide (x ∈ t)
  | .fix _ _ t, .read _ x => decide (x ∈ t)
  | _, _ => false
def rdf (a b : Rk) : Bool := match a, b with
  | .read _ x, .fix _ _ t => decide (x ∈ t)
  | _, _ => false
theorem reads_for_spec (a b : Rk) : m_reads_for [enc a, enc b] = some (.bool (rdf a b)) := by
  cases a <;> cases b <;> simp [m_reads_for, fnP, mb_reads_for, startM, enc, rdf, outP]
theorem shp1 (a b : String) : SeqAt.shaped (.tuple [.str (Str.ofString a), .str (Str.ofString b)]) = true := by
  simp [SeqAt.shaped, PyData.canLay0, PyData.canLayAll0, PyData.depth, PyData.depthAll, strOk_os]
theorem shp2 (a b : String) : SeqAt.shaped (.list [.str (Str.ofString a), .str (Str.ofString b)]) = true := by
  simp [SeqAt.shaped, PyData.canLay0, PyData.canLayAll0, PyData.depth, PyData.depthAll, strOk_os]
theorem beq_os (a b : String) : (Str.ofString a == Str.ofString b) = decide (a = b) := by
  rw [Bool.eq_iff_iff]; simp [ofString_inj]
theorem beq_os2 (a b : String) : (Str.ofString a == Str.ofString b) = decide (b = a) := by
  rw [beq_os]; simp [eq_comm]
theorem in_t (a b : String) : dInX false (.tuple [.str (Str.ofString a), .str (Str.ofString b)]) (.tuple [.tuple [.str (Str.ofString "read"), .str (Str.ofString "read")], .tuple [.str (Str.ofString "read"), .str (Str.ofString "new")], .tuple [.str (Str.ofString "new"), .str (Str.ofString "read")]]) = some (.bool (decide ((a = "read" ∧ b = "read") ∨ (a = "read" ∧ b = "new") ∨ (a = "new" ∧ b = "read")))) := by
  unfold dInX
  rw [seqOf_t, Option.bind_some, if_pos ⟨shp1 a b, by simp [SeqAt.shaped, PyData.canLay0, PyData.canLayAll0, PyData.depth, PyData.depthAll, strOk_os]⟩]
  simp [inD, PyData.eqv, PyData.eqvAll, beq_os2]
theorem in_l (a b : String) : dInX false (.list [.str (Str.ofString a), .str (Str.ofString b)]) (.list [.list [.str (Str.ofString "read"), .str (Str.ofString "read")], .list [.str (Str.ofString "read"), .str (Str.ofString "new")], .list [.str (Str.ofString "new"), .str (Str.ofString "read")]]) = some (.bool (decide ((a = "read" ∧ b = "read") ∨ (a = "read" ∧ b = "new") ∨ (a = "new" ∧ b = "read")))) := by
  unfold dInX
  rw [seqOf_l, Option.bind_some, if_pos ⟨shp2 a b, by simp [SeqAt.shaped, PyData.canLay0, PyData.canLayAll0, PyData.depth, PyData.depthAll, strOk_os]⟩]
  simp [inD, PyData.eqv, PyData.eqvAll, beq_os2]
theorem eq_l (a b c d : String) : dEq (.list [.str (Str.ofString a), .str (Str.ofString b)]) (.list [.str (Str.ofString c), .str (Str.ofString d)]) = some (.bool (decide (a = c ∧ b = d))) := by
  unfold dEq
  rw [if_pos ⟨shp2 a b, shp2 c d⟩]
  simp [PyData.eqv, PyData.eqvAll, beq_os]
theorem hang_spec (a b : Rk) : m_hang_together [enc a, enc b] = some (.bool (hg a b)) := by
  have i := in_t (kd a) (kd b)
  have d := do_share_spec a b
  have r1 := reads_for_spec a b
  have r2 := reads_for_spec b a
  have e : (decide (kd a = "read" ∧ kd b = "read" ∨ kd a = "read" ∧ kd b = "new" ∨ kd a = "new" ∧ kd b = "read") || (shr a b || (rdf a b || rdf b a))) = hg a b := by
    cases a <;> cases b <;> simp [kd, hg, rdf, Bool.or_comm]
  generalize shr a b = s1 at *
  generalize rdf a b = s2 at *
  generalize rdf b a = s3 at *
  generalize decide (kd a = "read" ∧ kd b = "read" ∨ kd a = "read" ∧ kd b = "new" ∨ kd a = "new" ∧ kd b = "read") = s0 at *
  rw [← e]
  cases s0 <;> cases s1 <;> cases s2 <;> cases s3 <;> simp [m_hang_together, fnP, mb_hang_together, startM, d, r1, r2, i, outP]
theorem hang_law_spec (a b : Rk) : m__law_hang [enc a, enc b] = some (.bool (hg a b)) := by
  have i := in_l (kd a) (kd b)
  have d := share_law_spec a b
  have q1 := eq_l (kd a) (kd b) "read" "fix"
  have q2 := eq_l (kd a) (kd b) "fix" "read"
  cases e : shr a b with
  | true =>
    rw [e] at d
    have : hg a b = true := by unfold hg; rw [e]; rfl
    rw [this]
    simp [m__law_hang, fnP, mb__law_hang, startM, d, outP]
  | false =>
    rw [e] at d
    cases a <;> cases b <;> simp [kd] at i q1 q2 <;> simp [m__law_hang, fnP, mb__law_hang, startM, d, outP, kd, i, q1, q2, hg, e] <;> simp [enc, outP]
end Tk70
end Z


namespace Z
open PySem PySem.Spec PyProof.Rows L2
namespace Tk70
/-! ## same -/
def okS : Nat → D → Prop
  | 0, _ => False
  | n + 1, .list xs => xs.length ≤ 1000000 ∧ ∀ x ∈ xs, okS n x
  | n + 1, .tuple xs => xs.length ≤ 1000000 ∧ ∀ x ∈ xs, okS n x
  | _ + 1, .str z => PyData.strOk z = true
  | _ + 1, .dict _ => False
  | _ + 1, _ => True
theorem kb1 : kitB "int" "int" = some true := by decide +kernel
theorem kb2 : kitB "int" "bool" = some false := by decide +kernel
theorem kb3 : kitB "list" "list" = some true := by decide +kernel
theorem kb4 : kitB "tuple" "tuple" = some true := by decide +kernel
theorem kb5 : kitB "int" "list" = some false := by decide +kernel
theorem kb6 : kitB "int" "tuple" = some false := by decide +kernel
theorem kb7 : kitB "int" "str" = some false := by decide +kernel
theorem kb8 : kitB "list" "tuple" = some false := by decide +kernel
theorem kb9 : kitB "tuple" "list" = some false := by decide +kernel
theorem kb10 : kitB "str" "list" = some false := by decide +kernel
theorem kb11 : kitB "str" "tuple" = some false := by decide +kernel
theorem kb12 : kitB "str" "bool" = some false := by decide +kernel
theorem kb13 : kitB "str" "str" = some true := by decide +kernel
theorem kb14 : kitB "bool" "list" = some false := by decide +kernel
theorem kb15 : kitB "bool" "tuple" = some false := by decide +kernel
theorem kb16 : kitB "bool" "bool" = some true := by decide +kernel
theorem kb17 : kitB "NoneType" "list" = some false := by decide +kernel
theorem kb18 : kitB "NoneType" "tuple" = some false := by decide +kernel
theorem dEq_bb (p q : Bool) : dEq (.bool p) (.bool q) = some (.bool (decide (p = q))) := by
  unfold dEq
  rw [if_pos (by simp [SeqAt.shaped, PyData.canLay0, PyData.depth])]
  cases p <;> cases q <;> simp [PyData.eqv]
theorem dNe_bb (p q : Bool) : dNe (.bool p) (.bool q) = some (.bool (!decide (p = q))) := by
  unfold dNe
  rw [if_pos (by simp [SeqAt.shaped, PyData.canLay0, PyData.depth])]
  cases p <;> cases q <;> simp [PyData.eqv]
theorem all_t {α : Type} (xs : List α) : dAll [.list (xs.map fun _ => PyData.bool true)] = some (.bool true) := by
  rw [dAll_b]; simp
theorem same_refl : ∀ (n : Nat) (d : D), okS n d → mr__law_same n [d, d] = some (.bool true)
  | 0, d, h => h.elim
  | n + 1, d, h => by
    have ih := same_refl n
    have Ks : ∀ (e : D) (xs : List D), seqOf e = some xs → (∀ k, dIx e (.int k) = atI xs k) → isDct e = false → xs.length ≤ 1000000 → (∀ x ∈ xs, okS n x) → kLc [2] (bName 2) xYes (xFn (mr__law_same n) (xaCons (xOp dIx (xVar 0) (xVar 2)) (xaCons (xOp dIx (xVar 1) (xVar 2)) xaNil))) ((rgI 0 xs.length).map PyData.int) [some e, some e, none] = some ((rgI 0 xs.length).map fun _ => PyData.bool true, [some e, some e, none]) := fun e xs he hx hd hl ho => by
      have hn : nd (some e) = some e := by unfold nd; simp [hd]
      have := kLc_map (vs := [2]) (b := (bName 2)) (t := xYes) (e := xFn (mr__law_same n) (xaCons (xOp dIx (xVar 0) (xVar 2)) (xaCons (xOp dIx (xVar 1) (xVar 2)) xaNil))) PyData.int (fun _ => PyData.bool true) (s := [some e, some e, none]) (xs := rgI 0 xs.length) (by rw [rgI_len]; omega) fun k hk => by
        have hk := rgI_mem.mp hk
        have a := atI_pos hk.1 hk.2
        refine ⟨_, rfl, rfl, ?_, rfl⟩
        simp [hn, hx, a, ih _ (ho _ (List.getElem_mem _))]
      exact this
    cases d with
    | list xs =>
      have K := Ks (.list xs) xs rfl (fun _ => rfl) rfl h.1 h.2
      have hl : (xs.length : Int) ≤ 1000000 := by have := h.1; omega
      simp [mr__law_same, fnP, mb__law_same, startM, kb3, kb4, kb8, kb9, tyD, dNe_bb, dEq_bb, dRg_map, xLc_ap, K, all_t, outP, hl]
    | tuple xs =>
      have K := Ks (.tuple xs) xs rfl (fun _ => rfl) rfl h.1 h.2
      have hl : (xs.length : Int) ≤ 1000000 := by have := h.1; omega
      simp [mr__law_same, fnP, mb__law_same, startM, kb3, kb4, kb8, kb9, tyD, dNe_bb, dEq_bb, dRg_map, xLc_ap, K, all_t, outP, hl]
    | int i => simp [mr__law_same, fnP, mb__law_same, startM, kb1, kb2, kb5, kb6, kb7, tyD, dIsN, outP]
    | str z => simp [mr__law_same, fnP, mb__law_same, startM, kb10, kb11, kb12, kb13, tyD, dIsN, outP, dEq_ss h h]
    | bool p => simp [mr__law_same, fnP, mb__law_same, startM, kb14, kb15, kb16, tyD, dIsN, outP, dEq_bb]
    | none => simp [mr__law_same, fnP, mb__law_same, startM, kb17, kb18, tyD, dIsN, outP]
    | dict _ => exact h.elim
/-! ## copies -/
theorem encL (r : Rk) : ∃ xs, enc r = .tuple xs ∧ xs.length ≤ 4 := by cases r <;> exact ⟨_, rfl, by simp⟩
theorem copy_it (c : D) (d : List Rk) (r : Rk) (hd : d.length ≤ 1000000) : (mForget [2, 3] (mSeq (mSetF 3 (xSeq (xVar 2))) (mSeq (mIf (xT (xOp dEq (xOp dIx (xVar 2) (xC (.int 0))) (xC (.str "turn")))) (mSetIx 3 (xLst (xSeq (xOp dIx (xVar 2) (xC (.int 2))))) (xC (.int 2))) mSkip) (mSeq (mIf (xT (xOp dEq (xOp dIx (xVar 2) (xC (.int 0))) (xC (.str "fix")))) (mSetIx 3 (xLst (xSeq (xOp dIx (xVar 2) (xC (.int 3))))) (xC (.int 3))) mSkip) (mApp 1 (xTupOf (xVar 3))))))) [some c, some (.list (d.map enc)), some (enc r), none] = some (.nx [some c, some (.list ((d ++ [r]).map enc)), none, none]) := by
  cases r <;> simp [enc, hd]
theorem copy_spec (ins : Int) (rs : List Rk) (o sh : List Int) (hr : rs.length ≤ 1000) : m__law_copy [coreD ins rs (iL o) (iL sh)] = some (coreD ins rs (iL o) (iL sh)) := by
  have L := for_st (b := (bName 2)) (m := (mForget [2, 3] (mSeq (mSetF 3 (xSeq (xVar 2))) (mSeq (mIf (xT (xOp dEq (xOp dIx (xVar 2) (xC (.int 0))) (xC (.str "turn")))) (mSetIx 3 (xLst (xSeq (xOp dIx (xVar 2) (xC (.int 2))))) (xC (.int 2))) mSkip) (mSeq (mIf (xT (xOp dEq (xOp dIx (xVar 2) (xC (.int 0))) (xC (.str "fix")))) (mSetIx 3 (xLst (xSeq (xOp dIx (xVar 2) (xC (.int 3))))) (xC (.int 3))) mSkip) (mApp 1 (xTupOf (xVar 3)))))))) enc (fun d => [some (coreD ins rs (iL o) (iL sh)), some (.list (d.map enc)), none, none]) rs fun d x r e => by
    have := congrArg List.length e
    rw [List.length_append] at this
    exact ⟨_, rfl, copy_it _ d x (by omega)⟩
  simp at L
  simp [m__law_copy, fnP, mb__law_copy, startM, mFor_ap, kFor_ap, L, outP]
theorem depth_enc (r : Rk) : (enc r).depth ≤ 2 := by
  cases r <;> simp [enc, PyData.depth, PyData.depthAll, depth_ints]
theorem canLay_enc (r : Rk) (h : ∃ a b, ok a b r) : (enc r).canLay0 = true := by
  cases r <;> simp [enc, PyData.canLay0, PyData.canLayAll0, strOk_os, canLay_ints]
theorem shaped_core (ins : Int) (rs : List Rk) (o sh : List Int) : SeqAt.shaped (coreD ins rs (iL o) (iL sh)) = true := by
  have h1 := canLay_map enc rs fun x _ => by cases x <;> simp [enc, PyData.canLay0, PyData.canLayAll0, strOk_os, canLay_ints]
  have h2 := depth_map enc 2 rs fun x _ => depth_enc x
  simp [SeqAt.shaped, PyData.canLay0, PyData.canLayAll0, PyData.depth, PyData.depthAll, h1, canLay_ints, depth_ints]
  omega
end Tk70
end Z


namespace Z
open PySem PySem.Spec PyProof.Rows L2
namespace Tk70
abbrev nI (k : Nat) : D := .int (k : Int)
abbrev nL (xs : List Nat) : D := .list (xs.map nI)
theorem range_split {N : Nat} {d r : List Nat} {x : Nat} (e : List.range N = d ++ x :: r) : d = List.range x ∧ x < N := by
  have l : x = d.length := by
    have : (List.range N)[d.length]? = some x := by rw [e]; simp
    have h : d.length < N := by
      have := congrArg List.length e
      simp at this
      omega
    rw [List.getElem?_range h] at this
    exact (Option.some.inj this).symm
  have h : x < N := by
    have := congrArg List.length e
    simp at this
    omega
  refine ⟨?_, h⟩
  have e1 : (List.range N).take x = List.range x := by rw [List.take_range, Nat.min_eq_left (by omega)]
  rw [e, l, List.take_left'] at e1
  · rw [← l] at e1; exact e1
  · rfl
theorem dRg_n (n : Nat) : dRg 0 (n : Int) = (List.range n).map nI := by
  rw [dRg_map]
  unfold rgI
  rw [List.map_map, show ((n : Int) - 0).toNat = n by omega]
  apply List.map_congr_left
  intro k _
  simp
theorem maxL_n (a : Nat) (r : List Nat) : maxL (a : Int) (r.map fun (n : Nat) => (n : Int)) = (mx (a :: r) : Nat) := by
  obtain ⟨h1, h2⟩ := maxL_mem (r.map fun (n : Nat) => (n : Int)) (a : Int)
  have e : (a : Int) :: r.map (fun (n : Nat) => (n : Int)) = (a :: r).map fun (n : Nat) => (n : Int) := rfl
  rw [e] at h1 h2
  obtain ⟨m, hm, em⟩ := List.mem_map.mp h1
  rw [← em]
  have : mx (a :: r) = m := mx_of (fun x hx => by
    have := h2 x (List.mem_map.mpr ⟨x, hx, rfl⟩)
    rw [← em] at this; omega) (.inr hm)
  rw [this]
theorem nI_map (xs : List Nat) : xs.map nI = (xs.map fun (n : Nat) => (n : Int)).map PyData.int := by rw [List.map_map]; rfl
theorem dMaxD_n (ns : List Nat) : dMaxD (.list (ns.map nI)) (.int 0) = some (nI (mx ns)) := by
  rw [nI_map, dMaxD_ints]
  cases ns with
  | nil => rfl
  | cons a r => show some (PyData.int (maxL _ _)) = _; rw [maxL_n]
theorem dMax_n (ns : List Nat) : dMax [.list (.int 0 :: ns.map nI)] = some (nI (mx ns)) := by
  have e : PyData.int 0 :: ns.map nI = ((0 :: ns).map fun (n : Nat) => (n : Int)).map PyData.int := by rw [List.map_map]; rfl
  rw [e]
  show (match asInts _ with | some (a :: r) => some (PyData.int (maxL a r)) | _ => none) = _
  rw [asInts_map]
  show some (PyData.int (maxL ((0 : Nat) : Int) (ns.map fun (n : Nat) => (n : Int)))) = _
  rw [maxL_n]
  have : mx (0 :: ns) = mx ns := Nat.zero_max _
  rw [this]
/-! ## levels -/
theorem atI_enc {rs : List Rk} {k : Nat} {r : Rk} (e : rs[k]? = some r) : atI (rs.map enc) (k : Int) = some (enc r) := by
  rw [atI_natq, List.getElem?_map, e]; rfl
theorem atI_nL {L : List Nat} {k : Nat} (h : k < L.length) : atI (L.map nI) (k : Int) = some (nI (L.getD k 0)) := by
  rw [atI_natq, List.getElem?_map, List.getD_eq_getElem?_getD, List.getElem?_eq_getElem h]; rfl
theorem take_s {rs : List Rk} {x : Nat} {r : Rk} (e : rs[x]? = some r) : rs.take (x + 1) = rs.take x ++ [r] := by
  rw [List.take_succ, e]; rfl
def pB (rs : List Rk) (x : Nat) (r : Rk) (k : Nat) : Bool := match (rs.take x)[k]? with
  | some r' => hg r' r
  | none => false
theorem pB_at {rs : List Rk} {x k : Nat} {r r' : Rk} (h : k < x) (e : rs[k]? = some r') : pB rs x r k = hg r' r := by
  unfold pB; rw [List.getElem?_take_of_lt h, e]
theorem nx_eq {rs : List Rk} {x : Nat} (hx : x ≤ rs.length) (r : Rk) (L : List Nat) : nx hg (rs.take x) L r = mx (((List.range x).filter (pB rs x r)).map fun k => L.getD k 0 + 1) := by
  unfold nx
  rw [List.length_take, Nat.min_eq_left hx]
  have : (fun k => match (rs.take x)[k]? with | some r' => hg r' r | none => false) = pB rs x r := by
    funext k; unfold pB; cases (rs.take x)[k]? <;> rfl
  rw [← this]
  congr 2
  congr 1
  funext k
  cases (rs.take x)[k]? <;> rfl
theorem levels_it (c : D) {rs : List Rk} {x : Nat} (hx : x < rs.length) (hr : rs.length ≤ 1000) : ∃ s1, (bTup 2 (bCons (bName 3) (bCons (bName 4) bNil))) (.tuple [nI x, enc rs[x]]) [some c, some (nL (lv hg (rs.take x))), some (.list (rs.map enc)), none, none, none] = some s1 ∧ (mForget [3, 4] (mApp 1 (xMaxD (xLst (xLc (xRg1 (xVar 3)) [5] (bName 5) (xTru (xFn m_hang_together (xaCons (xOp dIx (xVar 2) (xVar 5)) (xaCons (xVar 4) xaNil)))) (xOp dAdd (xIxOwn 1 (xVar 5)) (xC (.int 1))))) (xC (.int 0))))) s1 = some (.nx [some c, some (nL (lv hg (rs.take (x + 1)))), some (.list (rs.map enc)), none, none, none]) := by
  have ex := List.getElem?_eq_getElem hx
  have hl : (lv hg (rs.take x)).length = x := by rw [lv_len, List.length_take]; omega
  have K := kLc_pure (vs := [5]) (b := (bName 5)) (t := (xTru (xFn m_hang_together (xaCons (xOp dIx (xVar 2) (xVar 5)) (xaCons (xVar 4) xaNil))))) (e := (xOp dAdd (xIxOwn 1 (xVar 5)) (xC (.int 1)))) nI (pB rs x rs[x]) (fun k => nI ((lv hg (rs.take x)).getD k 0 + 1)) (s := [some c, some (nL (lv hg (rs.take x))), some (.list (rs.map enc)), some (nI x), some (enc rs[x]), none]) (xs := List.range x) (by rw [List.length_range]; omega) fun k hk => by
    have hk := List.mem_range.mp hk
    have ek := List.getElem?_eq_getElem (show k < rs.length by omega)
    have a1 := atI_enc ek
    have a2 := atI_nL (L := lv hg (rs.take x)) (k := k) (by omega)
    refine ⟨_, rfl, ?_⟩
    simp [a1, a2, hang_spec, pB_at hk ek]
  have e2 : ((List.range x).filter (pB rs x rs[x])).map (fun k => nI ((lv hg (rs.take x)).getD k 0 + 1)) = (((List.range x).filter (pB rs x rs[x])).map fun k => (lv hg (rs.take x)).getD k 0 + 1).map nI := by rw [List.map_map]; rfl
  rw [e2] at K
  have M := dMaxD_n (((List.range x).filter (pB rs x rs[x])).map fun k => (lv hg (rs.take x)).getD k 0 + 1)
  rw [← nx_eq (by omega) rs[x] (lv hg (rs.take x))] at M
  have e3 := lv_snoc hg (rs.take x) rs[x]
  rw [← take_s ex] at e3
  refine ⟨_, rfl, ?_⟩
  rw [e3]
  generalize ((List.range x).filter (pB rs x rs[x])).map (fun k => (lv hg (rs.take x)).getD k 0 + 1) = ys at K M
  generalize lv hg (rs.take x) = L at *
  have g : (x : Int) ≤ 1000000 := by omega
  simp at K
  simp [dRg_n, xLc_ap, K, M, hl, g, show x ≤ 1000000 by omega]
theorem levels_spec (ins : Int) (rs : List Rk) (o1 o2 : D) (hr : rs.length ≤ 1000) : m_levels_of [coreD ins rs o1 o2] = some ((lv hg rs).map nI) := by
  have L := for_st (b := (bTup 2 (bCons (bName 3) (bCons (bName 4) bNil)))) (m := (mForget [3, 4] (mApp 1 (xMaxD (xLst (xLc (xRg1 (xVar 3)) [5] (bName 5) (xTru (xFn m_hang_together (xaCons (xOp dIx (xVar 2) (xVar 5)) (xaCons (xVar 4) xaNil)))) (xOp dAdd (xIxOwn 1 (xVar 5)) (xC (.int 1))))) (xC (.int 0)))))) (fun x : Nat => PyData.tuple [nI x, enc (rs.getD x default)]) (fun d => [some (coreD ins rs o1 o2), some (nL (lv hg (rs.take d.length))), some (.list (rs.map enc)), none, none, none]) (List.range rs.length) fun d x r e => by
    obtain ⟨rfl, hx⟩ := range_split e
    obtain ⟨s1, h1, h2⟩ := levels_it (coreD ins rs o1 o2) hx hr
    refine ⟨s1, ?_, ?_⟩
    · rw [List.length_range, List.getD_eq_getElem?_getD, List.getElem?_eq_getElem hx]; exact h1
    · rw [List.length_append, List.length_range]; exact h2
  have en : (rs.map enc).mapIdx (fun i d => PyData.tuple [.int (i : Nat), d]) = (List.range rs.length).map fun x : Nat => PyData.tuple [nI x, enc (rs.getD x default)] := by
    apply List.ext_getElem?
    intro i
    rw [List.getElem?_mapIdx, List.getElem?_map, List.getElem?_map]
    by_cases q : i < rs.length
    · rw [List.getElem?_range q, List.getElem?_eq_getElem q]
      simp [List.getElem?_eq_getElem q]
    · rw [List.getElem?_eq_none (by omega), List.getElem?_eq_none (by rw [List.length_range]; omega)]; rfl
  rw [← en, List.length_nil, List.length_range, List.take_length, List.take_zero] at L
  have l0 : lv hg ([] : List Rk) = [] := rfl
  rw [l0] at L
  simp only [nL, List.map_nil] at L
  simp [m_levels_of, fnL, mb_levels_of, startM, mFor_ap, kFor_ap, itemsLS, L, outL]
theorem levels_law_it {rs : List Rk} {x : Nat} (hx : x < rs.length) (hr : rs.length ≤ 1000) : ∃ s1, (bName 2) (nI x) [some (.list (rs.map enc)), some (nL (lv hg (rs.take x))), none, none] = some s1 ∧ (mForget [2] (mApp 1 (xFn dMax (xaCons (xLst (xCat (xDisp (xaCons (xC (.int 0)) xaNil)) (xLc (xRg1 (xVar 2)) [3] (bName 3) (xTru (xFn m__law_hang (xaCons (xOp dIx (xVar 0) (xVar 3)) (xaCons (xOp dIx (xVar 0) (xVar 2)) xaNil)))) (xOp dAdd (xIxOwn 1 (xVar 3)) (xC (.int 1)))))) xaNil)))) s1 = some (.nx [some (.list (rs.map enc)), some (nL (lv hg (rs.take (x + 1)))), none, none]) := by
  have ex := List.getElem?_eq_getElem hx
  have hl : (lv hg (rs.take x)).length = x := by rw [lv_len, List.length_take]; omega
  have ax := atI_enc ex
  have K := kLc_pure (vs := [3]) (b := (bName 3)) (t := (xTru (xFn m__law_hang (xaCons (xOp dIx (xVar 0) (xVar 3)) (xaCons (xOp dIx (xVar 0) (xVar 2)) xaNil))))) (e := (xOp dAdd (xIxOwn 1 (xVar 3)) (xC (.int 1)))) nI (pB rs x rs[x]) (fun k => nI ((lv hg (rs.take x)).getD k 0 + 1)) (s := [some (.list (rs.map enc)), some (nL (lv hg (rs.take x))), some (nI x), none]) (xs := List.range x) (by rw [List.length_range]; omega) fun k hk => by
    have hk := List.mem_range.mp hk
    have ek := List.getElem?_eq_getElem (show k < rs.length by omega)
    have a1 := atI_enc ek
    have a2 := atI_nL (L := lv hg (rs.take x)) (k := k) (by omega)
    refine ⟨_, rfl, ?_⟩
    simp [a1, a2, ax, hang_law_spec, pB_at hk ek]
  have e2 : ((List.range x).filter (pB rs x rs[x])).map (fun k => nI ((lv hg (rs.take x)).getD k 0 + 1)) = (((List.range x).filter (pB rs x rs[x])).map fun k => (lv hg (rs.take x)).getD k 0 + 1).map nI := by rw [List.map_map]; rfl
  rw [e2] at K
  have M := dMax_n (((List.range x).filter (pB rs x rs[x])).map fun k => (lv hg (rs.take x)).getD k 0 + 1)
  rw [← nx_eq (by omega) rs[x] (lv hg (rs.take x))] at M
  have e3 := lv_snoc hg (rs.take x) rs[x]
  rw [← take_s ex] at e3
  have hy : (((List.range x).filter (pB rs x rs[x])).map fun k => (lv hg (rs.take x)).getD k 0 + 1).length ≤ x := by
    rw [List.length_map]
    have := List.length_filter_le (pB rs x rs[x]) (List.range x)
    rw [List.length_range] at this; exact this
  refine ⟨_, rfl, ?_⟩
  rw [e3]
  generalize ((List.range x).filter (pB rs x rs[x])).map (fun k => (lv hg (rs.take x)).getD k 0 + 1) = ys at K M hy
  generalize lv hg (rs.take x) = L at *
  have g : (x : Int) ≤ 1000000 := by omega
  simp at K
  simp [dRg_n, xLc_ap, K, M, hl, g, show x ≤ 1000000 by omega, show 1 + ys.length ≤ 1000000 by omega]
theorem levels_law_spec (rs : List Rk) (hr : rs.length ≤ 1000) : m__law_levels [.list (rs.map enc)] = some ((lv hg rs).map nI) := by
  have L := for_st (b := (bName 2)) (m := (mForget [2] (mApp 1 (xFn dMax (xaCons (xLst (xCat (xDisp (xaCons (xC (.int 0)) xaNil)) (xLc (xRg1 (xVar 2)) [3] (bName 3) (xTru (xFn m__law_hang (xaCons (xOp dIx (xVar 0) (xVar 3)) (xaCons (xOp dIx (xVar 0) (xVar 2)) xaNil)))) (xOp dAdd (xIxOwn 1 (xVar 3)) (xC (.int 1)))))) xaNil))))) nI (fun d => [some (.list (rs.map enc)), some (nL (lv hg (rs.take d.length))), none, none]) (List.range rs.length) fun d x r e => by
    obtain ⟨rfl, hx⟩ := range_split e
    obtain ⟨s1, h1, h2⟩ := levels_law_it hx hr
    refine ⟨s1, ?_, ?_⟩
    · rw [List.length_range]; exact h1
    · rw [List.length_append, List.length_range]; exact h2
  rw [List.length_nil, List.length_range, List.take_length, List.take_zero] at L
  have l0 : lv hg ([] : List Rk) = [] := rfl
  rw [l0] at L
  simp only [nL, List.map_nil] at L
  have g : (rs.length : Int) ≤ 1000000 := by omega
  simp [m__law_levels, fnL, mb__law_levels, startM, mFor_ap, kFor_ap, dRg_n, L, outL, g]
/-! ## steps -/
theorem mxD_m1 (ns : List Nat) : ∃ m : Nat, dMaxD (nL ns) (.int (-1)) = some (.int ((m : Int) - 1)) ∧ m = (match ns with | [] => 0 | _ => mx ns + 1) := by
  show ∃ m : Nat, dMaxD (.list (ns.map nI)) _ = _ ∧ _
  rw [nI_map, dMaxD_ints]
  cases ns with
  | nil => exact ⟨0, rfl, rfl⟩
  | cons a r =>
    refine ⟨mx (a :: r) + 1, ?_, rfl⟩
    show some (PyData.int (maxL _ _)) = _
    rw [maxL_n]
    congr 2
    omega
theorem dMax_c (a : Int) (r : List Int) : dMax [.list ((a :: r).map PyData.int)] = some (.int (maxL a r)) := by
  show (match asInts ((a :: r).map PyData.int) with | some (a :: r) => some (PyData.int (maxL a r)) | _ => none) = _
  rw [asInts_map]
theorem dMax_m1 (ns : List Nat) : ∃ m : Nat, dMax [.list (ns.map nI ++ [.int (-1)])] = some (.int ((m : Int) - 1)) ∧ m = (match ns with | [] => 0 | _ => mx ns + 1) := by
  cases ns with
  | nil => exact ⟨0, dMax_c (-1) [], rfl⟩
  | cons a r =>
    refine ⟨mx (a :: r) + 1, ?_, rfl⟩
    have e : (a :: r).map nI ++ [PyData.int (-1)] = ((a : Int) :: ((r.map fun (n : Nat) => (n : Int)) ++ [-1])).map PyData.int := by
      rw [List.map_cons, List.map_cons, List.map_append, nI_map]; rfl
    rw [e, dMax_c]
    obtain ⟨h1, h2⟩ := maxL_mem ((r.map fun (n : Nat) => (n : Int)) ++ [-1]) (a : Int)
    have h3 := mx_in (a :: r) (by simp)
    have h4 := h2 ((mx (a :: r) : Nat) : Int) (by
      rcases List.mem_cons.mp h3 with e | e
      · rw [e]; exact List.mem_cons_self
      · exact List.mem_cons_of_mem _ (List.mem_append_left _ (List.mem_map.mpr ⟨_, e, rfl⟩)))
    have h5 : maxL (a : Int) ((r.map fun (n : Nat) => (n : Int)) ++ [-1]) ≤ ((mx (a :: r) : Nat) : Int) := by
      rcases List.mem_cons.mp h1 with e | e
      · have := mx_ge (xs := a :: r) List.mem_cons_self
        omega
      · rcases List.mem_append.mp e with e | e
        · obtain ⟨b, hb, eb⟩ := List.mem_map.mp e
          have := mx_ge (xs := a :: r) (List.mem_cons_of_mem _ hb)
          omega
        · rw [List.mem_singleton.mp e]; omega
    congr 2
    omega
theorem nl_eq (rs : List Rk) : nl hg rs = (match lv hg rs with | [] => 0 | _ => mx (lv hg rs) + 1) := by
  cases rs with
  | nil => rfl
  | cons r rs =>
    have := lv_len hg (r :: rs)
    show mx (lv hg (r :: rs)) + 1 = _
    cases e : lv hg (r :: rs) with
    | nil => rw [e] at this; simp at this
    | cons a b => rfl
def sD (L : List Nat) (m : Nat) : List D := (stp L m).map nL
end Tk70
end Z


namespace Z
open PySem PySem.Spec PyProof.Rows L2
namespace Tk70
theorem enum_n (f : Nat → D) (n : Nat) : ((List.range n).map f).mapIdx (fun i d => PyData.tuple [.int (i : Nat), d]) = (List.range n).map fun k : Nat => PyData.tuple [nI k, f k] := by
  apply List.ext_getElem?
  intro i
  rw [List.getElem?_mapIdx, List.getElem?_map, List.getElem?_map]
  by_cases q : i < n
  · rw [List.getElem?_range q]; rfl
  · rw [List.getElem?_eq_none (by rw [List.length_range]; omega)]; rfl
theorem L_rg (L : List Nat) : L.map nI = (List.range L.length).map fun k => nI (L.getD k 0) := by
  apply List.ext_getElem?
  intro i
  rw [List.getElem?_map, List.getElem?_map]
  by_cases q : i < L.length
  · rw [List.getElem?_range q, List.getElem?_eq_getElem q, Option.map_some, Option.map_some, List.getD_eq_getElem?_getD, List.getElem?_eq_getElem q]; rfl
  · rw [List.getElem?_eq_none (by omega), List.getElem?_eq_none (by rw [List.length_range]; omega)]; rfl
def stI (L : List Nat) (v : Nat) : List Nat := (List.range L.length).filter fun k => decide (L.getD k 0 = v)
theorem stp_s (L : List Nat) (m : Nat) : stp L (m + 1) = stp L m ++ [stI L m] := by
  unfold stp; rw [List.range_succ, List.map_append]; rfl
theorem step_lc (c : D) (L : List Nat) (hL : L.length ≤ 1000) (v : Nat) : kLc [3, 4] (bTup 2 (bCons (bName 3) (bCons (bName 4) bNil))) (xT (xOp dEq (xVar 4) (xVar 2))) (xVar 3) ((List.range L.length).map fun k => PyData.tuple [nI k, nI (L.getD k 0)]) [some c, some (nL L), some (nI v), none, none] = some ((stI L v).map nI, [some c, some (nL L), some (nI v), none, none]) := by
  have K := kLc_pure (vs := [3, 4]) (b := (bTup 2 (bCons (bName 3) (bCons (bName 4) bNil)))) (t := (xT (xOp dEq (xVar 4) (xVar 2)))) (e := (xVar 3)) (fun k => PyData.tuple [nI k, nI (L.getD k 0)]) (fun k => decide (L.getD k 0 = v)) nI (s := [some c, some (nL L), some (nI v), none, none]) (xs := List.range L.length) (by rw [List.length_range]; omega) fun k hk => by
    refine ⟨[some c, some (nL L), some (nI v), some (nI k), some (nI (L.getD k 0))], by simp, ?_⟩
    simp [Int.natCast_inj]
  rw [K]; rfl
theorem steps_spec (ins : Int) (rs : List Rk) (o1 o2 : D) (hr : rs.length ≤ 1000) : m_steps_of [coreD ins rs o1 o2] = some ((stp (lv hg rs) (nl hg rs)).map nL) := by
  have l := levels_spec ins rs o1 o2 hr
  have hn := nl_eq rs
  have hL : (lv hg rs).length ≤ 1000 := by rw [lv_len]; exact hr
  have hm : nl hg rs ≤ 1000 := by
    rw [← depth_eq]
    have := top_len (chs hg 0 rs)
    rw [this, ht_map]
    cases rs with
    | nil => exact Nat.zero_le _
    | cons r rs =>
      obtain ⟨k, hk, ek⟩ := List.mem_map.mp (mx_in _ (by simp : (List.range (r :: rs).length).map (ht hg (r :: rs)) ≠ []))
      have hk := List.mem_range.mp hk
      rw [← ek]
      have h1 := (ht_bd hg (rs := r :: rs) _ k _ rfl (List.getElem?_eq_getElem hk))
      omega
  obtain ⟨m, M, em⟩ := mxD_m1 (lv hg rs)
  rw [← hn] at em
  subst em
  generalize lv hg rs = L at *
  generalize nl hg rs = m at *
  have S := step_lc (coreD ins rs o1 o2) L hL
  have K := kLc_map (vs := [2]) (b := (bName 2)) (t := xYes) (e := (xLst (xLc (xEnum (xList (xVar 1))) [3, 4] (bTup 2 (bCons (bName 3) (bCons (bName 4) bNil))) (xT (xOp dEq (xVar 4) (xVar 2))) (xVar 3)))) nI (fun v => nL (stI L v)) (s := [some (coreD ins rs o1 o2), some (nL L), none, none, none]) (xs := List.range m) (by rw [List.length_range]; omega) fun v hv => by
    refine ⟨_, rfl, ?_⟩
    have en := enum_n (fun k => nI (L.getD k 0)) L.length
    rw [← L_rg] at en
    have S := S v
    simp [xLc_ap, en] at S ⊢
    simp [S]
  have e : (List.range m).map (fun v => nL (stI L v)) = (stp L m).map nL := by unfold stp; rw [List.map_map]; rfl
  rw [e] at K
  have g : (m : Int) ≤ 1000000 := by omega
  simp at K
  simp [m_steps_of, fnL, mb_steps_of, startM, l, M, dRg_n, xLc_ap, K, g, outL]
end Tk70
end Z


namespace Z
open PySem PySem.Spec PyProof.Rows L2
namespace Tk70
/-! ## heights -/
theorem rg_set (f : Nat → D) (n a : Nat) (v : D) : ((List.range n).map f).set a v = (List.range n).map fun k => if k = a then v else f k := by
  apply List.ext_getElem?
  intro i
  rw [List.getElem?_set, List.getElem?_map, List.getElem?_map, List.length_map, List.length_range]
  by_cases q : i < n
  · rw [List.getElem?_range q]
    by_cases e : a = i
    · subst e; simp [q]
    · simp [e, Ne.symm e]
  · rw [List.getElem?_eq_none (by rw [List.length_range]; omega)]
    by_cases e : a = i
    · subst e; simp [q]
    · simp [e]
theorem rg_at (f : Nat → D) {n k : Nat} (h : k < n) : atI ((List.range n).map f) (k : Int) = some (f k) := by
  rw [atI_natq, List.getElem?_map, List.getElem?_range h]; rfl
theorem dRg_ab {a b : Nat} (h : a ≤ b) : dRg (a : Int) (b : Int) = (List.range' a (b - a)).map nI := by
  rw [dRg_map]
  unfold rgI
  rw [List.map_map, List.range'_eq_map_range, List.map_map, show ((b : Int) - (a : Int)).toNat = b - a by omega]
  apply List.map_congr_left
  intro k _
  simp
def hH (rs : List Rk) (j k : Nat) : D := nI (if rs.length - j ≤ k then ht hg rs k else 1)
theorem ht_mx {rs : List Rk} {a : Nat} {r : Rk} (e : rs[a]? = some r) : ht hg rs a = mx (((List.range' (a + 1) (rs.length - (a + 1))).filter fun k => pB rs rs.length r k && false || (match rs[k]? with | some y => hg r y | none => false)).map (ht hg rs)) + 1 := by
  have h1 : mx (((List.range' (a + 1) (rs.length - (a + 1))).filter fun k => pB rs rs.length r k && false || (match rs[k]? with | some y => hg r y | none => false)).map (ht hg rs)) = ht hg rs a - 1 := by
    refine mx_of (fun x hx => ?_) ?_
    · obtain ⟨k, hk, rfl⟩ := List.mem_map.mp hx
      obtain ⟨h1, h2⟩ := List.mem_filter.mp hk
      have h1 := List.mem_range'_1.mp h1
      have ek := List.getElem?_eq_getElem (show k < rs.length by omega)
      rw [ek] at h2
      have := ht_ge hg e ek (by omega) (by simpa using h2)
      omega
    · rcases ht_by hg e with q | ⟨j, y, q1, q2, q3, q4⟩
      · left; omega
      · right
        have hj := (List.getElem?_eq_some_iff.mp q2).1
        refine List.mem_map.mpr ⟨j, List.mem_filter.mpr ⟨List.mem_range'_1.mpr (by omega), ?_⟩, by omega⟩
        rw [q2]; simp [q3]
  have : 1 ≤ ht hg rs a := by rw [ht_get hg e]; omega
  omega
def pA (rs : List Rk) (r : Rk) (k : Nat) : Bool := match rs[k]? with
  | some y => hg r y
  | none => false
theorem pA_at {rs : List Rk} {k : Nat} {r y : Rk} (e : rs[k]? = some y) : pA rs r k = hg r y := by unfold pA; rw [e]
theorem ht_mx' {rs : List Rk} {a : Nat} {r : Rk} (e : rs[a]? = some r) : ht hg rs a = mx (((List.range' (a + 1) (rs.length - (a + 1))).filter (pA rs r)).map (ht hg rs)) + 1 := by
  rw [ht_mx e]
  congr 3
  congr 1
  funext k
  unfold pA
  cases rs[k]? <;> simp
theorem heights_it (c : D) {rs : List Rk} {j : Nat} (hj : j < rs.length) (hr : rs.length ≤ 1000) : ∃ s1, (bName 3) (.int ((rs.length : Int) - 1 + (j : Nat) * (-1))) [some c, some (.list (rs.map enc)), some (.list ((List.range rs.length).map (hH rs j))), none, none, none] = some s1 ∧ (mForget [3, 4] (mSeq (mSet 4 (xLst (xLc (xRg2 (xOp dAdd (xVar 3) (xC (.int 1))) (xFn dLen (xaCons (xVar 1) xaNil))) [5] (bName 5) (xTru (xFn m_hang_together (xaCons (xOp dIx (xVar 1) (xVar 3)) (xaCons (xOp dIx (xVar 1) (xVar 5)) xaNil)))) (xIxOwn 2 (xVar 5))))) (mSetIx 2 (xOp dAdd (xC (.int 1)) (xMaxD (xVar 4) (xC (.int 0)))) (xVar 3)))) s1 = some (.nx [some c, some (.list (rs.map enc)), some (.list ((List.range rs.length).map (hH rs (j + 1)))), none, none, none]) := by
  have ea : (rs.length : Int) - 1 + (j : Nat) * (-1) = ((rs.length - 1 - j : Nat) : Int) := by omega
  rw [ea]
  generalize ha : rs.length - 1 - j = a
  have hal : a < rs.length := by omega
  have ex := List.getElem?_eq_getElem hal
  have ax := atI_enc ex
  have K := kLc_pure (vs := [5]) (b := (bName 5)) (t := (xTru (xFn m_hang_together (xaCons (xOp dIx (xVar 1) (xVar 3)) (xaCons (xOp dIx (xVar 1) (xVar 5)) xaNil))))) (e := (xIxOwn 2 (xVar 5))) nI (pA rs rs[a]) (fun k => nI (ht hg rs k)) (s := [some c, some (.list (rs.map enc)), some (.list ((List.range rs.length).map (hH rs j))), some (nI a), none, none]) (xs := List.range' (a + 1) (rs.length - (a + 1))) (by rw [List.length_range']; omega) fun k hk => by
    have hk := List.mem_range'_1.mp hk
    have ek := List.getElem?_eq_getElem (show k < rs.length by omega)
    have a1 := atI_enc ek
    have a2 := rg_at (hH rs j) (n := rs.length) (k := k) (by omega)
    have a3 : hH rs j k = nI (ht hg rs k) := by unfold hH; rw [if_pos (by omega)]
    rw [a3] at a2
    refine ⟨_, rfl, ?_⟩
    simp [a1, a2, ax, hang_spec, pA_at ek]
  have e2 : ((List.range' (a + 1) (rs.length - (a + 1))).filter (pA rs rs[a])).map (fun k => nI (ht hg rs k)) = (((List.range' (a + 1) (rs.length - (a + 1))).filter (pA rs rs[a])).map (ht hg rs)).map nI := by rw [List.map_map]; rfl
  rw [e2] at K
  have M := dMaxD_n (((List.range' (a + 1) (rs.length - (a + 1))).filter (pA rs rs[a])).map (ht hg rs))
  have hm := ht_mx' ex
  generalize ((List.range' (a + 1) (rs.length - (a + 1))).filter (pA rs rs[a])).map (ht hg rs) = ys at K M hm
  have st : ((List.range rs.length).map (hH rs j)).set a (.int (1 + (mx ys : Nat))) = (List.range rs.length).map (hH rs (j + 1)) := by
    rw [rg_set]
    apply List.map_congr_left
    intro k hk
    have hk := List.mem_range.mp hk
    unfold hH
    by_cases q : k = a
    · subst q
      rw [if_pos rfl, if_pos (by omega), hm]
      show PyData.int _ = PyData.int _
      congr 1; omega
    · rw [if_neg q]
      by_cases q2 : rs.length - j ≤ k
      · rw [if_pos q2, if_pos (by omega)]
      · rw [if_neg q2, if_neg (by omega)]
  have R := dRg_ab (a := a + 1) (b := rs.length) (by omega)
  have e3 : ((a + 1 : Nat) : Int) = (a : Int) + 1 := by omega
  rw [e3] at R
  have ix : ixN rs.length (a : Int) = some a := by rw [ixN_nat, if_pos hal]
  have g1 : (rs.length : Int) ≤ 1000000 := by omega
  have g2 : (a : Int) + 1 ≤ 1000000 := by omega
  refine ⟨_, rfl, ?_⟩
  simp at K
  simp [R, xLc_ap, K, M, ix, g1, g2, show (-1000000 : Int) ≤ (a : Int) + 1 by omega]
  simpa using st
theorem heights_spec (ins : Int) (rs : List Rk) (o1 o2 : D) (hr : rs.length ≤ 1000) : m_heights_of [coreD ins rs o1 o2] = some ((List.range rs.length).map fun k => nI (ht hg rs k)) := by
  have L := for_st (b := (bName 3)) (m := (mForget [3, 4] (mSeq (mSet 4 (xLst (xLc (xRg2 (xOp dAdd (xVar 3) (xC (.int 1))) (xFn dLen (xaCons (xVar 1) xaNil))) [5] (bName 5) (xTru (xFn m_hang_together (xaCons (xOp dIx (xVar 1) (xVar 3)) (xaCons (xOp dIx (xVar 1) (xVar 5)) xaNil)))) (xIxOwn 2 (xVar 5))))) (mSetIx 2 (xOp dAdd (xC (.int 1)) (xMaxD (xVar 4) (xC (.int 0)))) (xVar 3))))) (fun x : Nat => PyData.int ((rs.length : Int) - 1 + (x : Nat) * (-1))) (fun d => [some (coreD ins rs o1 o2), some (.list (rs.map enc)), some (.list ((List.range rs.length).map (hH rs d.length))), none, none, none]) (List.range rs.length) fun d x r e => by
    obtain ⟨rfl, hx⟩ := range_split e
    obtain ⟨s1, h1, h2⟩ := heights_it (coreD ins rs o1 o2) hx hr
    refine ⟨s1, by rw [List.length_range]; exact h1, ?_⟩
    · rw [List.length_append, List.length_range]; exact h2
  have e0 : (List.range rs.length).map (hH rs ([] : List Nat).length) = (List.replicate rs.length [PyData.int 1]).flatten := by
    have : (List.range rs.length).map (hH rs ([] : List Nat).length) = (List.range rs.length).map fun _ => PyData.int 1 := by
      apply List.map_congr_left
      intro k hk
      have hk := List.mem_range.mp hk
      unfold hH
      rw [if_neg (by simp; omega)]; rfl
    rw [this]
    apply List.ext_getElem?
    intro i
    rw [List.map_const', List.length_range, ← List.flatMap_id]
    simp [List.flatMap, List.flatten_replicate_singleton]
  have e1 : (List.range rs.length).map (hH rs (List.range rs.length).length) = (List.range rs.length).map fun k => nI (ht hg rs k) := by
    apply List.map_congr_left
    intro k hk
    unfold hH
    rw [List.length_range, if_pos (by omega)]
  rw [e0, e1] at L
  have e4 : dRgD ((rs.length : Int) - 1) (-1) = (List.range rs.length).map fun x : Nat => PyData.int ((rs.length : Int) - 1 + (x : Nat) * (-1)) := by
    unfold dRgD
    rw [show ((rs.length : Int) - 1 - -1).toNat = rs.length by omega]
  have g : (rs.length : Int) ≤ 1000000 := by omega
  have g1 : (rs.length : Int) - 1 ≤ 1000000 ∧ -1000000 ≤ (rs.length : Int) - 1 := by omega
  simp at L
  have e5 : (List.range rs.length).map (fun x : Nat => PyData.int ((rs.length : Int) - 1 + -(x : Nat))) = dRgD ((rs.length : Int) - 1) (-1) := by
    rw [e4]
    apply List.map_congr_left
    intro k _
    congr 1; omega
  rw [e5] at L
  simp [m_heights_of, fnL, mb_heights_of, startM, mFor_ap, kFor_ap, repK, g, g1, L, outL, show -1000000 ≤ (rs.length : Int) by omega, show rs.length ≤ 1000000 by omega]
end Tk70
end Z


namespace Z
open PySem PySem.Spec PyProof.Rows L2
namespace Tk70
/-! ## the chain, forwards -/
theorem nL_ints (xs : List Nat) : nL xs = iL (xs.map fun (n : Nat) => (n : Int)) := by
  show PyData.list _ = PyData.list _
  rw [nI_map]
theorem dEq_nil (acc : List Nat) : dEq (nL acc) (.list []) = some (.bool (decide (acc = []))) := by
  have h1 : SeqAt.shaped (nL acc) = true := by rw [nL_ints]; exact shaped_ints _
  have h2 : SeqAt.shaped (.list []) = true := shaped_ints []
  unfold dEq
  rw [if_pos ⟨h1, h2⟩]
  cases acc with
  | nil => simp [PyData.eqv, PyData.eqvAll]
  | cons a r => simp [PyData.eqv, PyData.eqvAll]
def LastOk (rs : List Rk) (acc : List Nat) (last : Option Rk) : Prop := (acc = [] ∧ last = none) ∨ ∃ acc' a r, acc = acc' ++ [a] ∧ rs[a]? = some r ∧ last = some r
abbrev stD (c : D) (rs : List Rk) (hs : D) (dep : Nat) (acc : List Nat) : MS := [some c, some (.list (rs.map enc)), some hs, some (nI dep), some (nL acc), none, none, none]
theorem atI_last (acc : List Nat) (a : Nat) : atI ((acc ++ [a]).map nI) (-1) = some (nI a) := by
  unfold atI ixN
  rw [if_neg (by omega), List.length_map, List.length_append, List.length_singleton]
  rw [if_pos (by omega), Option.bind_some, List.map_append]
  rw [show (-1 + ((acc.length + 1 : Nat) : Int)).toNat = acc.length by omega]
  simp
theorem depth_it (c hs : D) {rs : List Rk} (hr : rs.length ≤ 1000) (dep : Nat) {o : Nat} {r : Rk} (er : rs[o]? = some r) {acc : List Nat} {last : Option Rk} (hl : LastOk rs acc last) (ha : acc.length ≤ 1000) : ∃ s1, (bTup 2 (bCons (bName 5) (bCons (bName 6) bNil))) (.tuple [nI o, nI (ht hg rs o)]) (stD c rs hs dep acc) = some s1 ∧ (mForget [5, 6, 7] (mSeq (mSet 7 (xOrV (xT (xOp dEq (xVar 4) (xLst (xDisp xaNil)))) (xFn m_hang_together (xaCons (xOp dIx (xVar 1) (xIxOwn 4 (xUn dNeg (xC (.int 1))))) (xaCons (xOp dIx (xVar 1) (xVar 5)) xaNil))))) (mIf (xAnd (xT (xOp dEq (xVar 6) (xOp dSub (xVar 3) (xFn dLen (xaCons (xVar 4) xaNil))))) (xTru (xVar 7))) (mApp 4 (xVar 5)) mSkip))) s1 = some (.nx (stD c rs hs dep (if ht hg rs o + acc.length = dep ∧ okl hg last r = true then acc ++ [o] else acc))) := by
  have ax := atI_enc er
  refine ⟨[some c, some (.list (rs.map enc)), some hs, some (nI dep), some (nL acc), some (nI o), some (nI (ht hg rs o)), none], by simp, ?_⟩
  have e0 := dEq_nil acc
  have e00 : dEq (.list []) (.list []) = some (.bool true) := dEq_nil []
  have q : (ht hg rs o : Int) = (dep : Int) - (acc.length : Int) ↔ ht hg rs o + acc.length = dep := by omega
  generalize ht hg rs o = hh at *
  rcases hl with ⟨rfl, rfl⟩ | ⟨acc', a, p, rfl, ep, rfl⟩
  · by_cases z : hh = dep
    · subst z
      simp [e00, okl]
    · have z' : ¬ (hh : Int) = (dep : Int) := by omega
      simp [e00, okl, z, z', Int.natCast_inj]
  · have al := atI_last acc' a
    have ap := atI_enc ep
    have hne : acc' ++ [a] ≠ [] := by simp
    rw [decide_eq_false hne] at e0
    generalize acc' ++ [a] = acc at *
    by_cases z : hh + acc.length = dep
    · have z' := q.mpr z
      have z2 : (hh : Int) = (dep : Int) - (acc.length : Int) := z'
      cases zh : hg p r with
      | true => simp [e0, okl, zh, z, al, ap, ax, hang_spec, ← z2, show acc.length ≤ 1000000 by omega]
      | false => simp [e0, okl, zh, z, al, ap, ax, hang_spec, ← z2]
    · have z' : ¬ (hh : Int) = (dep : Int) - (acc.length : Int) := fun y => z (q.mp y)
      simp [e0, okl, z, z', al, ap, ax, hang_spec]
theorem depth_loop (c hs : D) {rs : List Rk} (hr : rs.length ≤ 1000) (dep : Nat) : ∀ (rs' : List Rk) (o : Nat) (acc : List Nat) (last : Option Rk), rs.drop o = rs' → LastOk rs acc last → acc.length ≤ o → forL (bTup 2 (bCons (bName 5) (bCons (bName 6) bNil))) (mForget [5, 6, 7] (mSeq (mSet 7 (xOrV (xT (xOp dEq (xVar 4) (xLst (xDisp xaNil)))) (xFn m_hang_together (xaCons (xOp dIx (xVar 1) (xIxOwn 4 (xUn dNeg (xC (.int 1))))) (xaCons (xOp dIx (xVar 1) (xVar 5)) xaNil))))) (mIf (xAnd (xT (xOp dEq (xVar 6) (xOp dSub (xVar 3) (xFn dLen (xaCons (xVar 4) xaNil))))) (xTru (xVar 7))) (mApp 4 (xVar 5)) mSkip))) ((List.range' o rs'.length).map fun k : Nat => PyData.tuple [nI k, nI (ht hg rs k)]) (stD c rs hs dep acc) = some (.nx (stD c rs hs dep (gr hg dep o (chs hg o rs') rs' last acc)))
  | [], o, acc, last, _, _, _ => by
    rw [gr.eq_def]; rfl
  | r :: rs', o, acc, last, e, hl, ha => by
    have er : rs[o]? = some r := by
      have : (rs.drop o)[0]? = some r := by rw [e]; rfl
      simpa using this
    have e' : rs.drop (o + 1) = rs' := by
      have : (rs.drop o).drop 1 = rs' := by rw [e]; rfl
      simpa using this
    have hol := (List.getElem?_eq_some_iff.mp er).1
    obtain ⟨s1, h1, h2⟩ := depth_it c hs hr dep er hl (by omega)
    have ho : ht hg rs o = (best hg r (chs hg (o + 1) rs') rs').length + 1 := by rw [ht_get hg er, e']
    rw [List.length_cons, List.range'_succ, List.map_cons, forL_c, h1, bM_some, h2, lp_nx, chs, gr]
    have ec : (o :: best hg r (chs hg (o + 1) rs') rs').length = ht hg rs o := by rw [ho]; rfl
    rw [ec]
    by_cases z : ht hg rs o + acc.length = dep ∧ okl hg last r = true
    · rw [if_pos z, if_pos z]
      exact depth_loop c hs hr dep rs' (o + 1) _ _ e' (.inr ⟨acc, o, r, rfl, er, rfl⟩) (by rw [List.length_append, List.length_singleton]; omega)
    · rw [if_neg z, if_neg z]
      exact depth_loop c hs hr dep rs' (o + 1) _ _ e' hl (by omega)
abbrev cnD (rs : List Rk) : D := .tuple [nI (nl hg rs), nL (topc (chs hg 0 rs))]
theorem depth_spec (ins : Int) (rs : List Rk) (o1 o2 : D) (hr : rs.length ≤ 1000) : m_depth_told [coreD ins rs o1 o2] = some (cnD rs) := by
  have H := heights_spec ins rs o1 o2 hr
  have L := depth_loop (coreD ins rs o1 o2) (.list ((List.range rs.length).map fun k => nI (ht hg rs k))) hr (nl hg rs) rs 0 [] none rfl (.inl ⟨rfl, rfl⟩) (Nat.le_refl _)
  rw [gr_none hg _ _ _ (depth_eq hg rs)] at L
  have M : dMaxD (.list ((List.range rs.length).map fun k => nI (ht hg rs k))) (.int 0) = some (nI (nl hg rs)) := by
    have : (List.range rs.length).map (fun k => nI (ht hg rs k)) = ((List.range rs.length).map (ht hg rs)).map nI := by rw [List.map_map]; rfl
    rw [this, dMaxD_n, ← ht_map, ← top_len, depth_eq]
  have en := enum_n (fun k => nI (ht hg rs k)) rs.length
  rw [List.range_eq_range'] at en
  rw [← en] at L
  rw [List.range_eq_range'] at H M L
  simp only [stD, nL, List.map_nil] at L
  simp [m_depth_told, fnQ, mb_depth_told, startM, mFor_ap, kFor_ap, H, M, L]
end Tk70
end Z


namespace Z
open PySem PySem.Spec PyProof.Rows L2
namespace Tk70
/-! ## the chain, from behind, as the law finds it -/
/-- a chain of those behind place a, told from the end -/
theorem rev_split {rs : List Rk} {a : Nat} (ha : a ≤ rs.length) {d r' : List (List Nat)} {c : List Nat} (e : (chs hg a (rs.drop a)).reverse = d ++ c :: r') :
    d.length < rs.length - a ∧ d.reverse = chs hg (rs.length - d.length) (rs.drop (rs.length - d.length)) ∧ ∃ (y : Rk) (t : List Nat), rs[rs.length - 1 - d.length]? = some y ∧ c = (rs.length - 1 - d.length) :: t ∧ rs.drop (rs.length - 1 - d.length) = y :: rs.drop (rs.length - d.length) ∧ c.length ≤ 1000000 + rs.length := by
  have l := congrArg List.length e
  rw [List.length_reverse, chs_len, List.length_drop, List.length_append, List.length_cons] at l
  have e2 : chs hg a (rs.drop a) = r'.reverse ++ c :: d.reverse := by
    have := congrArg List.reverse e
    rw [List.reverse_reverse, List.reverse_append, List.reverse_cons, List.append_assoc] at this
    exact this
  have k1 : (chs hg a (rs.drop a))[r'.length]? = some c := by
    rw [e2, List.getElem?_append_right (by rw [List.length_reverse]; exact Nat.le_refl _), List.length_reverse, Nat.sub_self]; rfl
  have k2 : (chs hg a (rs.drop a)).drop (r'.length + 1) = d.reverse := by
    rw [e2, List.drop_append, List.length_reverse, List.drop_eq_nil_of_le (by rw [List.length_reverse]; omega), Nat.add_sub_cancel_left]; rfl
  have hb : a + r'.length = rs.length - 1 - d.length := by omega
  have hbl : rs.length - 1 - d.length < rs.length := by omega
  have ey := List.getElem?_eq_getElem hbl
  rw [chs_drop, List.drop_drop, show a + (r'.length + 1) = rs.length - d.length by omega] at k2
  have g := chs_get hg (rs.drop a) a r'.length rs[rs.length - 1 - d.length] (by rw [List.getElem?_drop, hb]; exact ey)
  rw [k1] at g
  have g := Option.some.inj g
  have hc : c.length ≤ rs.length := by
    have h1 := ht_bd hg (rs := rs) _ _ _ rfl ey
    rw [ht_get hg ey] at h1
    rw [g, List.drop_drop, show a + (r'.length + 1) = rs.length - 1 - d.length + 1 by omega, hb, List.length_cons]
    omega
  refine ⟨by omega, k2.symm, _, _, ey, by rw [g, hb], ?_, by omega⟩
  rw [List.drop_eq_getElem_cons hbl, show rs.length - 1 - d.length + 1 = rs.length - d.length by omega]
/-- the n-th chain is not longer than the rows -/
theorem best_bd (rs : List Rk) (p : Rk) (a : Nat) : (best hg p (chs hg a (rs.drop a)) (rs.drop a)).length ≤ rs.length := by
  rcases best_mem hg p (chs hg a (rs.drop a)) (rs.drop a) with e | ⟨k, y, e1, e2, _⟩
  · rw [e]; exact Nat.zero_le _
  · have e3 := chs_get hg (rs.drop a) a k y e2
    rw [e1] at e3
    have ey : rs[a + k]? = some y := by rw [List.getElem?_drop] at e2; exact e2
    have h1 := ht_bd hg (rs := rs) _ _ _ rfl ey
    rw [ht_get hg ey] at h1
    rw [Option.some.inj e3, List.drop_drop, show a + (k + 1) = a + k + 1 by omega, List.length_cons]
    omega
abbrev stE (rs : List Rk) (cs : List (List Nat)) (st k : D) (b : List Nat) : MS := [some (.list (rs.map enc)), some (.list (cs.map nL)), some st, some k, some (nL b), none, none]
theorem best_it (rs : List Rk) (cs : List (List Nat)) (st : D) {a : Nat} {p : Rk} (ep : rs[a]? = some p) (b c : List Nat) {x : Nat} {t : List Nat} (ec : c = x :: t) {y : Rk} (ey : rs[x]? = some y) :
    (mForget [5] (mIf (xAnd (xT (xOp dGe (xFn dLen (xaCons (xVar 5) xaNil)) (xFn dLen (xaCons (xVar 4) xaNil)))) (xTru (xFn m__law_hang (xaCons (xOp dIx (xVar 0) (xVar 3)) (xaCons (xOp dIx (xVar 0) (xOp dIx (xVar 5) (xC (.int 0)))) xaNil))))) (mSet 4 (xVar 5)) mSkip)) ((stE rs cs st (nI a) b).set 5 (some (nL c))) = some (.nx (stE rs cs st (nI a) (if b.length ≤ c.length ∧ hg p y = true then c else b))) := by
  subst ec
  have a1 := atI_enc ep
  have a2 := atI_enc ey
  by_cases z : b.length ≤ t.length + 1
  · have z' : (b.length : Int) ≤ (t.length : Int) + 1 := by omega
    cases zh : hg p y <;> simp [z, z', a1, a2, hang_law_spec, zh]
  · have z' : ¬ (b.length : Int) ≤ (t.length : Int) + 1 := by omega
    simp [z, z', a1, a2]
theorem chain_it {rs : List Rk} (hr : rs.length ≤ 1000) {j : Nat} (hj : j < rs.length) : ∃ s1, (bName 2) (nI j) [some (.list (rs.map enc)), some (.list (((chs hg (rs.length - j) (rs.drop (rs.length - j))).reverse).map nL)), none, none, none, none, none] = some s1 ∧ (mForget [2, 3, 4, 5] (mSeq (mSet 3 (xOp dSub (xOp dSub (xFn dLen (xaCons (xVar 0) xaNil)) (xC (.int 1))) (xVar 2))) (mSeq (mSet 4 (xLst (xDisp xaNil))) (mSeq (mForO 1 (bName 5) (mForget [5] (mIf (xAnd (xT (xOp dGe (xFn dLen (xaCons (xVar 5) xaNil)) (xFn dLen (xaCons (xVar 4) xaNil)))) (xTru (xFn m__law_hang (xaCons (xOp dIx (xVar 0) (xVar 3)) (xaCons (xOp dIx (xVar 0) (xOp dIx (xVar 5) (xC (.int 0)))) xaNil))))) (mSet 4 (xVar 5)) mSkip))) (mApp 1 (xLst (xCat (xDisp (xaCons (xVar 3) xaNil)) (xList (xVar 4))))))))) s1 = some (.nx [some (.list (rs.map enc)), some (.list (((chs hg (rs.length - (j + 1)) (rs.drop (rs.length - (j + 1)))).reverse).map nL)), none, none, none, none, none]) := by
  generalize hb : rs.length - (j + 1) = b
  have hbl : b < rs.length := by omega
  have eb : rs.length - j = b + 1 := by omega
  rw [eb]
  have ep := List.getElem?_eq_getElem hbl
  have cl : (chs hg (b + 1) (rs.drop (b + 1))).length ≤ 1000 := by rw [chs_len, List.length_drop]; omega
  have F := forO_st (i := 1) nL ((chs hg (b + 1) (rs.drop (b + 1))).reverse.map nL) (bName 5) (mForget [5] (mIf (xAnd (xT (xOp dGe (xFn dLen (xaCons (xVar 5) xaNil)) (xFn dLen (xaCons (xVar 4) xaNil)))) (xTru (xFn m__law_hang (xaCons (xOp dIx (xVar 0) (xVar 3)) (xaCons (xOp dIx (xVar 0) (xOp dIx (xVar 5) (xC (.int 0)))) xaNil))))) (mSet 4 (xVar 5)) mSkip)) (fun d => stE rs (chs hg (b + 1) (rs.drop (b + 1))).reverse (nI j) (nI b) (best hg rs[b] d.reverse (rs.drop (rs.length - d.length)))) (fun d => rfl) (chs hg (b + 1) (rs.drop (b + 1))).reverse [] fun d c r' e => by
    rw [List.nil_append] at e
    obtain ⟨h1, h2, y, t, h3, h4, h5, h6⟩ := rev_split (by omega) e
    refine ⟨_, rfl, rfl, ?_⟩
    rw [best_it rs _ _ ep _ c h4 h3, List.reverse_append, List.length_append, List.length_singleton, show rs.length - (d.length + 1) = rs.length - 1 - d.length by omega, h5]
    show _ = some (Out.nx (stE rs _ _ _ (best hg rs[b] (c :: d.reverse) (y :: rs.drop (rs.length - d.length)))))
    rw [best]
  rw [List.nil_append, List.reverse_reverse, List.length_reverse, chs_len, List.length_drop, show rs.length - (rs.length - (b + 1)) = b + 1 by omega] at F
  have e0 : best hg rs[b] ([] : List (List Nat)).reverse (rs.drop (rs.length - ([] : List (List Nat)).length)) = [] := by rw [List.reverse_nil, best.eq_def]
  rw [e0] at F
  have eC : chs hg b (rs.drop b) = (b :: best hg rs[b] (chs hg (b + 1) (rs.drop (b + 1))) (rs.drop (b + 1))) :: chs hg (b + 1) (rs.drop (b + 1)) := by
    rw [List.drop_eq_getElem_cons hbl, chs]
  rw [eC, List.reverse_cons]
  have bl := best_bd rs rs[b] (b + 1)
  generalize best hg rs[b] (chs hg (b + 1) (rs.drop (b + 1))) (rs.drop (b + 1)) = bb at *
  generalize chs hg (b + 1) (rs.drop (b + 1)) = cs at *
  have ek : (rs.length : Int) - 1 - (j : Int) = (b : Int) := by omega
  refine ⟨_, rfl, ?_⟩
  simp only [stE, nL, List.map_nil] at F
  simp [-List.map_reverse, mForO_ap, F, ek, show bb.length ≤ 1000000 by omega, show 1 + bb.length ≤ 1000000 by omega, show cs.length ≤ 1000000 by omega]
theorem chain_spec (rs : List Rk) (hr : rs.length ≤ 1000) : m__law_chain [.list (rs.map enc)] = some (nL (topc (chs hg 0 rs))) := by
  have L := for_st (b := (bName 2)) (m := (mForget [2, 3, 4, 5] (mSeq (mSet 3 (xOp dSub (xOp dSub (xFn dLen (xaCons (xVar 0) xaNil)) (xC (.int 1))) (xVar 2))) (mSeq (mSet 4 (xLst (xDisp xaNil))) (mSeq (mForO 1 (bName 5) (mForget [5] (mIf (xAnd (xT (xOp dGe (xFn dLen (xaCons (xVar 5) xaNil)) (xFn dLen (xaCons (xVar 4) xaNil)))) (xTru (xFn m__law_hang (xaCons (xOp dIx (xVar 0) (xVar 3)) (xaCons (xOp dIx (xVar 0) (xOp dIx (xVar 5) (xC (.int 0)))) xaNil))))) (mSet 4 (xVar 5)) mSkip))) (mApp 1 (xLst (xCat (xDisp (xaCons (xVar 3) xaNil)) (xList (xVar 4)))))))))) nI (fun d => [some (.list (rs.map enc)), some (.list (((chs hg (rs.length - d.length) (rs.drop (rs.length - d.length))).reverse).map nL)), none, none, none, none, none]) (List.range rs.length) fun d x r e => by
    obtain ⟨rfl, hx⟩ := range_split e
    obtain ⟨s1, h1, h2⟩ := chain_it hr hx
    refine ⟨s1, by rw [List.length_range]; exact h1, ?_⟩
    rw [List.length_append, List.length_range]; exact h2
  have e0 : ((chs hg (rs.length - ([] : List Nat).length) (rs.drop (rs.length - ([] : List Nat).length))).reverse).map nL = [] := by
    rw [List.length_nil, Nat.sub_zero, List.drop_length]; rfl
  rw [e0, List.length_range, Nat.sub_self, List.drop_zero] at L
  have T := for_st (b := (bName 5)) (m := (mForget [5] (mIf (xT (xOp dGe (xFn dLen (xaCons (xVar 5) xaNil)) (xFn dLen (xaCons (xVar 6) xaNil)))) (mSet 6 (xVar 5)) mSkip))) nL (fun d => [some (.list (rs.map enc)), some (.list ((chs hg 0 rs).reverse.map nL)), none, none, none, none, some (nL (topc d.reverse))]) (chs hg 0 rs).reverse fun d x r e => by
    refine ⟨_, rfl, ?_⟩
    have ex : topc (d ++ [x]).reverse = if (topc d.reverse).length ≤ x.length then x else topc d.reverse := by
      rw [List.reverse_append]; show topc (x :: d.reverse) = _; rw [topc]
    rw [ex]
    by_cases z : (topc d.reverse).length ≤ x.length
    · have z' : ((topc d.reverse).length : Int) ≤ (x.length : Int) := by omega
      simp [z, z']
    · have z' : ¬ ((topc d.reverse).length : Int) ≤ (x.length : Int) := by omega
      simp [z, z']
  rw [List.reverse_reverse] at T
  have t0 : topc ([] : List (List Nat)).reverse = [] := rfl
  rw [t0] at T
  simp only [nL, List.map_nil] at T
  have g : (rs.length : Int) ≤ 1000000 := by omega
  simp [-List.map_reverse, m__law_chain, fnP, mb__law_chain, startM, mFor_ap, kFor_ap, dRg_n, L, T, g, outP]
end Tk70
end Z


namespace Z
open PySem PySem.Spec PyProof.Rows L2
namespace Tk70
/-! ## the judges -/
theorem is_whole_n (k : Nat) : m_is_whole [nI k] = some (.bool true) := by
  simp [m_is_whole, fnP, mb_is_whole, startM, tyD, kb1, kb2, outP]
theorem are_wholes_n (xs : List Nat) (h : xs.length ≤ 1000000) : m_are_wholes [nL xs] = some (.bool true) := by
  have K := kLc_map (vs := [1]) (b := (bName 1)) (t := xYes) (e := (xFn m_is_whole (xaCons (xVar 1) xaNil))) nI (fun _ => PyData.bool true) (s := [some (nL xs), none]) (xs := xs) h fun k hk => by
    refine ⟨_, rfl, ?_⟩
    simp [is_whole_n]
  try simp at K
  have a := all_t xs
  try simp at a
  simp [m_are_wholes, fnP, mb_are_wholes, startM, tyD, kb3, xLc_ap, K, a, outP]
theorem are_between_n {xs : List Nat} {n : Nat} (h : xs.length ≤ 1000000) (hb : ∀ x ∈ xs, x < n) : m_are_between [nL xs, .int 0, .int ((n : Int) - 1)] = some (.bool true) := by
  have K := kLc_map (vs := [3]) (b := (bName 3)) (t := xYes) (e := (xChain dLe dLe (xVar 1) (xVar 3) (xVar 2))) nI (fun _ => PyData.bool true) (s := [some (nL xs), some (.int 0), some (.int ((n : Int) - 1)), none]) (xs := xs) h fun k hk => by
    have := hb k hk
    refine ⟨_, rfl, ?_⟩
    simp [show (0 : Int) ≤ (k : Int) by omega, show (k : Int) ≤ (n : Int) - 1 by omega]
  try simp at K
  have a := all_t xs
  have w := are_wholes_n xs h
  try simp at a
  simp [m_are_between, fnP, mb_are_between, startM, w, xLc_ap, K, a, outP]
theorem is_rising_n {xs : List Nat} (h : xs.length ≤ 1000000) (hu : ∀ (k a b : Nat), xs[k]? = some a → xs[k + 1]? = some b → a < b) : m_is_rising [nL xs] = some (.bool true) := by
  have K := kLc_map (vs := [1]) (b := (bName 1)) (t := xYes) (e := (xOp dLt (xOp dIx (xVar 0) (xOp dSub (xVar 1) (xC (.int 1)))) (xOp dIx (xVar 0) (xVar 1)))) PyData.int (fun _ => PyData.bool true) (s := [some (nL xs), none]) (xs := rgI 1 xs.length) (by rw [rgI_len]; omega) fun k hk => by
    have hk := rgI_mem.mp hk
    obtain ⟨j, rfl⟩ : ∃ j : Nat, k = ((j + 1 : Nat) : Int) := ⟨(k - 1).toNat, by omega⟩
    have h1 : j < xs.length := by omega
    have h2 : j + 1 < xs.length := by omega
    have e1 : ((j + 1 : Nat) : Int) - 1 = (j : Int) := by omega
    have a1 : atI (xs.map nI) (j : Int) = some (nI xs[j]) := by rw [atI_natq, List.getElem?_map, List.getElem?_eq_getElem h1]; rfl
    have a2 : atI (xs.map nI) ((j + 1 : Nat) : Int) = some (nI xs[j + 1]) := by rw [atI_natq, List.getElem?_map, List.getElem?_eq_getElem h2]; rfl
    have lt := hu j _ _ (List.getElem?_eq_getElem h1) (List.getElem?_eq_getElem h2)
    refine ⟨[some (nL xs), some (.int ((j + 1 : Nat) : Int))], rfl, rfl, ?_, rfl⟩
    generalize ((j + 1 : Nat) : Int) = z at *
    simp [e1, a1, a2, lt]
  have a := all_t (rgI 1 xs.length)
  have g : (xs.length : Int) ≤ 1000000 := by omega
  try simp at K a
  simp [m_is_rising, fnP, mb_is_rising, startM, dRg_map, xLc_ap, K, a, g, outP]
theorem shows_chain_n (ins : Int) {rs : List Rk} (o1 o2 : D) (hr : rs.length ≤ 1000) {c : List Nat} (hc : Chn hg rs c) (hl : c.length ≤ 1000) : m_shows_chain [coreD ins rs o1 o2, nL c] = some (.bool true) := by
  have b := are_between_n (xs := c) (by omega) hc.lt
  have r := is_rising_n (xs := c) (by omega) hc.up
  have K := kLc_map (vs := [3]) (b := (bName 3)) (t := xYes) (e := (xFn m_hang_together (xaCons (xOp dIx (xVar 2) (xOp dIx (xVar 1) (xVar 3))) (xaCons (xOp dIx (xVar 2) (xOp dIx (xVar 1) (xOp dAdd (xVar 3) (xC (.int 1))))) xaNil)))) PyData.int (fun _ => PyData.bool true) (s := [some (coreD ins rs o1 o2), some (nL c), some (.list (rs.map enc)), none]) (xs := rgI 0 ((c.length : Int) - 1)) (by rw [rgI_len]; omega) fun k hk => by
    have hk := rgI_mem.mp hk
    obtain ⟨j, rfl⟩ : ∃ j : Nat, k = (j : Int) := ⟨k.toNat, by omega⟩
    have h1 : j < c.length := by omega
    have h2 : j + 1 < c.length := by omega
    have e1 : (j : Int) + 1 = ((j + 1 : Nat) : Int) := by omega
    have a1 : atI (c.map nI) (j : Int) = some (nI c[j]) := by rw [atI_natq, List.getElem?_map, List.getElem?_eq_getElem h1]; rfl
    have a2 : atI (c.map nI) ((j : Int) + 1) = some (nI c[j + 1]) := by rw [e1, atI_natq, List.getElem?_map, List.getElem?_eq_getElem h2]; rfl
    have e3 := List.getElem?_eq_getElem (hc.lt _ (List.getElem_mem h1))
    have e4 := List.getElem?_eq_getElem (hc.lt _ (List.getElem_mem h2))
    have hh := hc.hg j _ _ (List.getElem?_eq_getElem h1) (List.getElem?_eq_getElem h2) _ _ e3 e4
    have b1 := atI_enc e3
    have b2 := atI_enc e4
    refine ⟨_, rfl, ?_⟩
    simp [a1, a2, b1, b2, hang_spec, hh]
  have a := all_t (rgI 0 ((c.length : Int) - 1))
  try simp at K a
  simp [m_shows_chain, fnP, mb_shows_chain, startM, b, r, dRg_map, xLc_ap, K, a, show (c.length : Int) - 1 ≤ 1000000 ∧ -1000000 ≤ (c.length : Int) - 1 by omega, outP]
/-! steps -/
def dct (L : List Nat) (xs : List Nat) : List (D × D) := xs.map fun k => (nI k, nI (L.getD k 0))
theorem put_new (L : List Nat) {xs : List Nat} {k : Nat} (h : k ∉ xs) : putDc (.inl (k : Int)) (nI (L.getD k 0)) (dct L xs) = dct L (xs ++ [k]) := by
  have : ((dct L xs).any fun p => isK (.inl (k : Int)) p.1) = false := by
    unfold dct
    rw [List.any_map, List.any_eq_false]
    intro x hx
    have : x ≠ k := fun e => h (e ▸ hx)
    simp [isK]
    omega
  unfold putDc
  rw [if_neg (by rw [this]; exact Bool.false_ne_true)]
  unfold dct
  rw [List.map_append]; rfl
theorem get_dct (L : List Nat) : ∀ {xs : List Nat} {k : Nat}, k ∈ xs → getDc (.inl (k : Int)) (dct L xs) = some (nI (L.getD k 0))
  | [], k, h => nomatch h
  | x :: xs, k, h => by
    show getDc _ ((nI x, nI (L.getD x 0)) :: dct L xs) = _
    rw [getDc]
    by_cases e : k = x
    · subst e
      rw [if_pos (by simp [isK])]
    · rw [if_neg (by simp [isK]; omega)]
      exact get_dct L ((List.mem_cons.mp h).resolve_left e)
theorem stI_mem {L : List Nat} {v k : Nat} : k ∈ stI L v ↔ k < L.length ∧ L.getD k 0 = v := by
  unfold stI
  rw [List.mem_filter, List.mem_range, decide_eq_true_eq]
theorem stp_mem {L : List Nat} {m k : Nat} (h : k ∈ (stp L m).flatten) : L.getD k 0 < m := by
  unfold stp at h
  obtain ⟨l, hl, hk⟩ := List.mem_flatten.mp h
  obtain ⟨v, hv, rfl⟩ := List.mem_map.mp hl
  have := (stI_mem (L := L) (v := v)).mp hk
  have := List.mem_range.mp hv
  omega
theorem stI_rise (L : List Nat) (v : Nat) (k a b : Nat) (h1 : (stI L v)[k]? = some a) (h2 : (stI L v)[k + 1]? = some b) : a < b := by
  have p : (stI L v).Pairwise (· < ·) := List.pairwise_lt_range.filter _
  obtain ⟨g1, e1⟩ := List.getElem?_eq_some_iff.mp h1
  obtain ⟨g2, e2⟩ := List.getElem?_eq_some_iff.mp h2
  have := List.pairwise_iff_getElem.mp p k (k + 1) g1 g2 (by omega)
  rw [e1, e2] at this
  exact this
theorem stI_len (L : List Nat) (v : Nat) : (stI L v).length ≤ L.length := by
  have := List.length_filter_le (fun k => decide (L.getD k 0 = v)) (List.range L.length)
  rw [List.length_range] at this; exact this
abbrev stS (c st : D) (rsd : D) (ps : List (D × D)) : MS := [some c, some st, some rsd, some (.dict ps), none, none, none, none, none, none]
theorem dput_in (c st rsd : D) (L : List Nat) (hL : L.length ≤ 1000) (v : Nat) (pre : List Nat) (hp : ∀ x ∈ pre, L.getD x 0 < v) (hpl : pre.length ≤ 1000) : forL (bName 6) (mForget [6] (mDPut 3 (xVar 4) (xVar 6))) ((stI L v).map nI) [some c, some st, some rsd, some (.dict (dct L pre)), some (nI v), some (nL (stI L v)), none, none, none, none] = some (.nx [some c, some st, some rsd, some (.dict (dct L (pre ++ stI L v))), some (nI v), some (nL (stI L v)), none, none, none, none]) := by
  have F := for_st (b := (bName 6)) (m := (mForget [6] (mDPut 3 (xVar 4) (xVar 6)))) nI (fun d => [some c, some st, some rsd, some (.dict (dct L (pre ++ d))), some (nI v), some (nL (stI L v)), none, none, none, none]) (stI L v) fun d x r e => by
    have hx : x ∈ stI L v := by rw [e]; simp
    have hv := (stI_mem.mp hx).2
    have nd : (stI L v).Nodup := List.nodup_range.filter _
    have hn : x ∉ pre ++ d := fun z => by
      rcases List.mem_append.mp z with z | z
      · have := hp x z; omega
      · rw [e] at nd
        have := (List.nodup_append.mp nd).2.2 x z x List.mem_cons_self
        exact this rfl
    have pn := put_new L hn
    rw [hv, List.append_assoc] at pn
    have dl : (dct L (pre ++ d)).length ≤ 1000000 := by
      have h1 := congrArg List.length e
      have h2 := stI_len L v
      rw [List.length_append] at h1
      unfold dct
      rw [List.length_map, List.length_append]
      omega
    refine ⟨_, rfl, ?_⟩
    simp [pn, dl]
  rw [List.append_nil] at F
  exact F
theorem steps_list (L : List Nat) (m : Nat) : (stp L m).map nL = (List.range m).map fun v => nL (stI L v) := by unfold stp; rw [List.map_map]; rfl
theorem stp_len (L : List Nat) (m : Nat) : (stp L m).length = m := by unfold stp; rw [List.length_map, List.length_range]
theorem cnt_split (f : Nat → Nat) (m : Nat) : ∀ xs : List Nat, xs.countP (fun k => decide (f k < m + 1)) = xs.countP (fun k => decide (f k < m)) + (xs.filter fun k => decide (f k = m)).length
  | [] => rfl
  | x :: xs => by
    have ih := cnt_split f m xs
    rw [List.countP_cons, List.countP_cons, List.filter_cons, ih]
    by_cases h1 : f x < m
    · have h2 : f x < m + 1 := by omega
      have h3 : ¬ f x = m := by omega
      simp [h1, h2, h3]; omega
    · by_cases h2 : f x = m
      · have h3 : f x < m + 1 := by omega
        simp [h1, h2, h3]; omega
      · have h3 : ¬ f x < m + 1 := by omega
        simp [h1, h2, h3]
theorem stp_flat_nodup (L : List Nat) (m : Nat) : (stp L m).flatten.length ≤ L.length := by
  have : ∀ m, (stp L m).flatten.length = (List.range L.length).countP fun k => decide (L.getD k 0 < m) := fun m => by
    induction m with
    | zero => simp [stp]
    | succ m ih =>
      rw [stp_s, List.flatten_append, List.length_append, ih, cnt_split]
      simp [stI]
  rw [this]
  have := List.countP_le_length (p := fun k => decide (L.getD k 0 < m)) (l := List.range L.length)
  rw [List.length_range] at this
  exact this
theorem dput_all (c rsd : D) (L : List Nat) (hL : L.length ≤ 1000) (m : Nat) : forL (bTup 2 (bCons (bName 4) (bCons (bName 5) bNil))) (mForget [4, 5, 6] (mFor (xSeq (xVar 5)) (bName 6) (mForget [6] (mDPut 3 (xVar 4) (xVar 6))))) ((List.range m).map fun v : Nat => PyData.tuple [nI v, nL (stI L v)]) (stS c (.list ((stp L m).map nL)) rsd []) = some (.nx (stS c (.list ((stp L m).map nL)) rsd (dct L (stp L m).flatten))) := by
  have F := for_st (b := (bTup 2 (bCons (bName 4) (bCons (bName 5) bNil)))) (m := (mForget [4, 5, 6] (mFor (xSeq (xVar 5)) (bName 6) (mForget [6] (mDPut 3 (xVar 4) (xVar 6)))))) (fun v : Nat => PyData.tuple [nI v, nL (stI L v)]) (fun d => stS c (.list ((stp L m).map nL)) rsd (dct L (stp L d.length).flatten)) (List.range m) fun d x r e => by
    obtain ⟨rfl, hx⟩ := range_split e
    have i := dput_in c (.list ((stp L m).map nL)) rsd L hL x (stp L x).flatten (fun y hy => stp_mem hy) (Nat.le_trans (stp_flat_nodup L x) hL)
    have ef : (stp L x).flatten ++ stI L x = (stp L (x + 1)).flatten := by rw [stp_s, List.flatten_append]; simp
    rw [ef] at i
    refine ⟨[some c, some (.list ((stp L m).map nL)), some rsd, some (.dict (dct L (stp L x).flatten)), some (nI x), some (nL (stI L x)), none, none, none, none], by simp, ?_⟩
    rw [List.length_append, List.length_range, List.length_singleton]
    simp [mFor_ap, kFor_ap, i]
  rw [List.length_range] at F
  exact F
end Tk70
end Z


namespace Z
open PySem PySem.Spec PyProof.Rows L2
namespace Tk70
def kLc2 (vs : List Nat) (b : D → MS → Option MS) (t : MT) (src1 : MF) (vs1 : List Nat) (b1 : D → MS → Option MS) (t1 : MT) (e : ME) : List D → MS → Option (List D × MS) := fun xs s => (lcO vs vs1 b t src1 b1 t1 e xs (wipeM s vs)).bind fun q => if q.1.length ≤ 1000000 then some (q.1, unwipe s q.2 vs) else none
theorem xLc2_ap (src : MF) (vs : List Nat) (b : D → MS → Option MS) (t : MT) (src1 : MF) (vs1 : List Nat) (b1 : D → MS → Option MS) (t1 : MT) (e : ME) (s : MS) : xLc2 src vs b t src1 vs1 b1 t1 e s = bE (src s) (kLc2 vs b t src1 vs1 b1 t1 e) := rfl
theorem kLc2_of {vs : List Nat} {b : D → MS → Option MS} {t : MT} {src1 : MF} {vs1 : List Nat} {b1 : D → MS → Option MS} {t1 : MT} {e : ME} {xs ys : List D} {s s' : MS} (h : lcO vs vs1 b t src1 b1 t1 e xs (wipeM s vs) = some (ys, s')) (hl : ys.length ≤ 1000000) : kLc2 vs b t src1 vs1 b1 t1 e xs s = some (ys, unwipe s s' vs) := by
  unfold kLc2
  rw [h, Option.bind_some, if_pos hl]
theorem are_lists_n (L : List Nat) (hL : L.length ≤ 1000) (m : Nat) (hm : m ≤ 1000) : m_are_lists_of_wholes [.list ((stp L m).map nL)] = some (.bool true) := by
  have K := kLc_map (vs := [1]) (b := (bName 1)) (t := xYes) (e := (xFn m_are_wholes (xaCons (xVar 1) xaNil))) (fun v => nL (stI L v)) (fun _ => PyData.bool true) (s := [some (.list ((stp L m).map nL)), none]) (xs := List.range m) (by rw [List.length_range]; omega) fun k hk => by
    have w := are_wholes_n (stI L k) (by have := stI_len L k; omega)
    refine ⟨_, rfl, ?_⟩
    simp [w]
  rw [← steps_list] at K
  have a := all_t (List.range m)
  try simp at K a
  simp [m_are_lists_of_wholes, fnP, mb_are_lists_of_wholes, startM, tyD, kb3, xLc_ap, K, a, outP]
theorem lc_flat (c rsd : D) (L : List Nat) (hL : L.length ≤ 1000) (m : Nat) : lcO [5, 6] [6] (bName 5) xYes (xSeq (xVar 5)) (bName 6) xYes (xVar 6) ((List.range m).map fun v => nL (stI L v)) [some c, some (.list ((stp L m).map nL)), some rsd, none, none, none, none, none, none, none] = some ((stp L m).flatten.map nI, [some c, some (.list ((stp L m).map nL)), some rsd, none, none, none, none, none, none, none]) := by
  have K := lcO_pure (vs := [5, 6]) (vs1 := [6]) (b := (bName 5)) (t := xYes) (src1 := (xSeq (xVar 5))) (b1 := (bName 6)) (t1 := xYes) (e := (xVar 6)) (fun v => nL (stI L v)) (fun v => (stI L v).map nI) (s := [some c, some (.list ((stp L m).map nL)), some rsd, none, none, none, none, none, none, none]) (List.range m) fun v hv => by
    have P := lc_pure (vs := [6]) (b := (bName 6)) (t := xYes) (e := (xVar 6)) nI (fun _ => true) nI (s := [some c, some (.list ((stp L m).map nL)), some rsd, none, none, some (nL (stI L v)), none, none, none, none]) (stI L v) fun x hx => ⟨_, rfl, rfl, fun _ => rfl, rfl⟩
    rw [List.filter_eq_self.mpr fun _ _ => rfl] at P
    exact ⟨[some c, some (.list ((stp L m).map nL)), some rsd, none, none, some (nL (stI L v)), none, none, none, none], (stI L v).map nI, _, _, rfl, rfl, rfl, P, rfl⟩
  rw [K]
  have : (List.range m).flatMap (fun v => (stI L v).map nI) = (stp L m).flatten.map nI := by
    unfold stp
    rw [List.map_flatten, List.map_map]; rfl
  rw [this]
def prs (rs : List Rk) (j : Nat) : List D := ((List.range j).filter (pB rs j (rs.getD j default))).map fun i => PyData.tuple [nI i, nI j]
theorem lc_pairs (c st psd : D) {rs : List Rk} (hr : rs.length ≤ 1000) : lcO [8, 9] [9] (bName 8) xYes (xRg1 (xVar 8)) (bName 9) (xTru (xFn m_hang_together (xaCons (xOp dIx (xVar 2) (xVar 9)) (xaCons (xOp dIx (xVar 2) (xVar 8)) xaNil)))) (xTup (xaCons (xVar 9) (xaCons (xVar 8) xaNil))) ((List.range rs.length).map nI) [some c, some st, some (.list (rs.map enc)), some psd, none, none, none, none, none, none] = some ((List.range rs.length).flatMap (prs rs), [some c, some st, some (.list (rs.map enc)), some psd, none, none, none, none, none, none]) := by
  exact lcO_pure (vs := [8, 9]) (vs1 := [9]) (b := (bName 8)) (t := xYes) (src1 := (xRg1 (xVar 8))) (b1 := (bName 9)) (t1 := (xTru (xFn m_hang_together (xaCons (xOp dIx (xVar 2) (xVar 9)) (xaCons (xOp dIx (xVar 2) (xVar 8)) xaNil))))) (e := (xTup (xaCons (xVar 9) (xaCons (xVar 8) xaNil)))) nI (prs rs) (s := [some c, some st, some (.list (rs.map enc)), some psd, none, none, none, none, none, none]) (List.range rs.length) fun j hj => by
    have hj := List.mem_range.mp hj
    have ej := List.getElem?_eq_getElem hj
    have aj := atI_enc ej
    have gj : rs.getD j default = rs[j] := by rw [List.getD_eq_getElem?_getD, ej]; rfl
    have P := lc_pure (vs := [9]) (b := (bName 9)) (t := (xTru (xFn m_hang_together (xaCons (xOp dIx (xVar 2) (xVar 9)) (xaCons (xOp dIx (xVar 2) (xVar 8)) xaNil))))) (e := (xTup (xaCons (xVar 9) (xaCons (xVar 8) xaNil)))) nI (pB rs j rs[j]) (fun i => PyData.tuple [nI i, nI j]) (s := [some c, some st, some (.list (rs.map enc)), some psd, none, none, none, none, some (nI j), none]) (List.range j) fun x hx => by
      have hx := List.mem_range.mp hx
      have exx := List.getElem?_eq_getElem (show x < rs.length by omega)
      have ax := atI_enc exx
      refine ⟨_, rfl, ?_⟩
      simp [ax, aj, hang_spec, pB_at hx exx]
    have g : (j : Int) ≤ 1000000 := by omega
    refine ⟨[some c, some st, some (.list (rs.map enc)), some psd, none, none, none, none, some (nI j), none], (List.range j).map nI, [some c, some st, some (.list (rs.map enc)), some psd, none, none, none, none, some (nI j), none], [some c, some st, some (.list (rs.map enc)), some psd, none, none, none, none, some (nI j), none], rfl, rfl, ?_, ?_, rfl⟩
    · simp [dRg_n, g]
    · unfold prs; rw [gj]; exact P
theorem prs_len (rs : List Rk) : ∀ n : Nat, ((List.range n).flatMap (prs rs)).length ≤ n * n
  | 0 => by simp
  | n + 1 => by
    have ih := prs_len rs n
    rw [List.range_succ, List.flatMap_append, List.length_append, List.flatMap_singleton]
    have : (prs rs n).length ≤ n := by
      unfold prs
      rw [List.length_map]
      have := List.length_filter_le (pB rs n (rs.getD n default)) (List.range n)
      rw [List.length_range] at this; exact this
    have e : (n + 1) * (n + 1) = n * n + n + n + 1 := by rw [Nat.add_mul, Nat.mul_add]; omega
    omega
def prN (rs : List Rk) (n : Nat) : List (Nat × Nat) := (List.range n).flatMap fun j => ((List.range j).filter (pB rs j (rs.getD j default))).map fun i => (i, j)
theorem prN_map (rs : List Rk) (n : Nat) : (List.range n).flatMap (prs rs) = (prN rs n).map fun p => PyData.tuple [nI p.1, nI p.2] := by
  unfold prN
  rw [List.map_flatMap]
  congr 1
  funext j
  unfold prs
  rw [List.map_map]; rfl
theorem sorted_flat (L : List Nat) (m : Nat) (hm : ∀ k, k < L.length → L.getD k 0 < m) : dSorted ((stp L m).flatten.map nI) = some ((List.range L.length).map nI) := by
  rw [nI_map, dSorted_ints, nI_map]
  congr 2
  refine iSort_of ?_ ((stp_perm L m hm).map _)
  rw [List.pairwise_map]
  exact List.pairwise_lt_range.imp fun h => by omega
theorem shows_steps_n (ins : Int) {rs : List Rk} (o1 o2 : D) (hr : rs.length ≤ 1000) : m_shows_steps [coreD ins rs o1 o2, .list ((stp (lv hg rs) (nl hg rs)).map nL)] = some (.bool true) := by
  have hL : (lv hg rs).length ≤ 1000 := by rw [lv_len]; exact hr
  have hn := nl_eq rs
  have hm : ∀ k, k < (lv hg rs).length → (lv hg rs).getD k 0 < nl hg rs := fun k hk => by
    rw [hn]
    have h1 : (lv hg rs).getD k 0 ∈ lv hg rs := by
      rw [List.getD_eq_getElem?_getD, List.getElem?_eq_getElem hk]
      exact List.getElem_mem hk
    have h2 := mx_ge h1
    cases e : lv hg rs with
    | nil => rw [e] at hk; cases hk
    | cons a b => rw [e] at h2; exact Nat.lt_succ_of_le h2
  have hml : nl hg rs ≤ 1000 := by
    rw [← depth_eq, top_len, ht_map]
    cases rs with
    | nil => exact Nat.zero_le _
    | cons r rs =>
      obtain ⟨k, hk, ek⟩ := List.mem_map.mp (mx_in _ (by simp : (List.range (r :: rs).length).map (ht hg (r :: rs)) ≠ []))
      have hk := List.mem_range.mp hk
      rw [← ek]
      have h1 := (ht_bd hg (rs := r :: rs) _ k _ rfl (List.getElem?_eq_getElem hk))
      omega
  have hlt : ∀ p ∈ prN rs rs.length, (lv hg rs).getD p.1 0 < (lv hg rs).getD p.2 0 ∧ p.1 < rs.length ∧ p.2 < rs.length := fun p hp => by
    unfold prN at hp
    obtain ⟨j, hj, hp⟩ := List.mem_flatMap.mp hp
    obtain ⟨i, hi, rfl⟩ := List.mem_map.mp hp
    obtain ⟨h1, h2⟩ := List.mem_filter.mp hi
    have hj := List.mem_range.mp hj
    have h1 := List.mem_range.mp h1
    have ej := List.getElem?_eq_getElem hj
    have ei := List.getElem?_eq_getElem (show i < rs.length by omega)
    rw [pB_at h1 ei] at h2
    have gj : rs.getD j default = rs[j] := by rw [List.getD_eq_getElem?_getD, ej]; rfl
    rw [gj] at h2
    exact ⟨lv_ge hg ei ej h1 h2, by show i < _; omega, hj⟩
  have len := lv_len hg rs
  generalize lv hg rs = L at *
  generalize nl hg rs = m at *
  have A1 := are_lists_n L hL m hml
  have R := kLc_map (vs := [5]) (b := (bName 5)) (t := xYes) (e := (xFn m_is_rising (xaCons (xVar 5) xaNil))) (fun v => nL (stI L v)) (fun _ => PyData.bool true) (s := [some (coreD ins rs o1 o2), some (.list ((stp L m).map nL)), some (.list (rs.map enc)), none, none, none, none, none, none, none]) (xs := List.range m) (by rw [List.length_range]; omega) fun k hk => by
    have w := is_rising_n (xs := stI L k) (by have := stI_len L k; omega) (stI_rise L k)
    refine ⟨_, rfl, ?_⟩
    simp [w]
  have a1 := all_t (List.range m)
  have F := lc_flat (coreD ins rs o1 o2) (.list (rs.map enc)) L hL m
  have fl := stp_flat_nodup L m
  have S := sorted_flat L m hm
  have N := dNe_refl (d := nL (List.range L.length)) (by rw [nL_ints]; exact shaped_ints _)
  have P := dput_all (coreD ins rs o1 o2) (.list (rs.map enc)) L hL m
  have en := enum_n (fun v => nL (stI L v)) m
  have Q := lc_pairs (coreD ins rs o1 o2) (.list ((stp L m).map nL)) (.dict (dct L (stp L m).flatten)) hr
  have ql := prs_len rs rs.length
  have ql2 : rs.length * rs.length ≤ 1000 * 1000 := Nat.mul_le_mul hr hr
  rw [prN_map] at Q ql
  have Z := kLc_map (vs := [9, 8]) (b := (bTup 2 (bCons (bName 9) (bCons (bName 8) bNil)))) (t := xYes) (e := (xOp dLt (xDGetO 3 (xVar 9)) (xDGetO 3 (xVar 8)))) (fun p : Nat × Nat => PyData.tuple [nI p.1, nI p.2]) (fun _ => PyData.bool true) (s := [some (coreD ins rs o1 o2), some (.list ((stp L m).map nL)), some (.list (rs.map enc)), some (.dict (dct L (stp L m).flatten)), none, none, none, some (.list ((prN rs rs.length).map fun p => PyData.tuple [nI p.1, nI p.2])), none, none]) (xs := prN rs rs.length) (by rw [List.length_map] at ql; omega) fun p hp => by
    obtain ⟨h1, h2, h3⟩ := hlt p hp
    have mem : ∀ k, k < rs.length → k ∈ (stp L m).flatten := fun k hk => (stp_perm L m hm).mem_iff.mp (List.mem_range.mpr (by omega))
    have g1 := get_dct L (mem _ h2)
    have g2 := get_dct L (mem _ h3)
    refine ⟨[some (coreD ins rs o1 o2), some (.list ((stp L m).map nL)), some (.list (rs.map enc)), some (.dict (dct L (stp L m).flatten)), none, none, none, some (.list ((prN rs rs.length).map fun p => PyData.tuple [nI p.1, nI p.2])), some (nI p.2), some (nI p.1)], by simp, ?_⟩
    simp only [List.getD_eq_getElem?_getD] at g1 g2 h1
    simp [g1, g2]
    omega
  have a2 := all_t (prN rs rs.length)
  have g : (rs.length : Int) ≤ 1000000 := by omega
  have g2 : (stp L m).flatten.length ≤ 1000000 := by omega
  have g3 : ((prN rs rs.length).map fun p => PyData.tuple [nI p.1, nI p.2]).length ≤ 1000000 := by omega
  rw [← steps_list] at R en F
  rw [← en] at P
  rw [len] at S N
  have F' := kLc2_of (s := [some (coreD ins rs o1 o2), some (.list ((stp L m).map nL)), some (.list (rs.map enc)), none, none, none, none, none, none, none]) F (by rw [List.length_map]; exact g2)
  have Q' := kLc2_of (s := [some (coreD ins rs o1 o2), some (.list ((stp L m).map nL)), some (.list (rs.map enc)), some (.dict (dct L (stp L m).flatten)), none, none, none, none, none, none]) Q g3
  simp only [stS] at P
  simp only [nL] at N
  try simp at R a1
  try simp [-List.map_flatten] at F'
  try simp at Q'
  try simp at Z a2
  simp [-List.map_flatten, m_shows_steps, fnP, mb_shows_steps, startM, A1, xLc_ap, R, a1, xLc2_ap, F', S, dRg_n, g, N, mFor_ap, kFor_ap, itemsLS, P, Q', Z, a2, outP]
end Tk70
end Z


namespace Z
open PySem PySem.Spec PyProof.Rows L2
namespace Tk70
/-! ## the law about one core -/
theorem okS_nL (n : Nat) {xs : List Nat} (h : xs.length ≤ 1000000) : okS (n + 2) (nL xs) := by
  refine ⟨by rw [List.length_map]; exact h, fun x hx => ?_⟩
  obtain ⟨k, _, rfl⟩ := List.mem_map.mp hx
  exact trivial
theorem topc_bd {rs : List Rk} (hr : rs.length ≤ 1000) : (topc (chs hg 0 rs)).length ≤ 1000 ∧ nl hg rs ≤ 1000 := by
  have : (topc (chs hg 0 rs)).length ≤ 1000 := by
    rw [top_len, ht_map]
    cases rs with
    | nil => exact Nat.zero_le _
    | cons r rs =>
      obtain ⟨k, hk, ek⟩ := List.mem_map.mp (mx_in _ (by simp : (List.range (r :: rs).length).map (ht hg (r :: rs)) ≠ []))
      have hk := List.mem_range.mp hk
      rw [← ek]
      have h1 := (ht_bd hg (rs := r :: rs) _ k _ rfl (List.getElem?_eq_getElem hk))
      omega
  exact ⟨this, by rw [← depth_eq]; exact this⟩
theorem due_loop (c cp : D) (L : List Nat) (hL : L.length ≤ 1000) (m : Nat) (hm : m ≤ 1000) : forL (bName 4) (mForget [4] (mApp 3 (xLst (xLc (xRg1 (xFn dLen (xaCons (xVar 2) xaNil))) [9] (bName 9) (xT (xOp dEq (xOp dIx (xVar 2) (xVar 9)) (xVar 4))) (xVar 9))))) ((List.range m).map nI) [some c, some cp, some (nL L), some (.list []), none, none, none, none, none, none] = some (.nx [some c, some cp, some (nL L), some (.list ((stp L m).map nL)), none, none, none, none, none, none]) := by
  have F := for_st (b := (bName 4)) (m := (mForget [4] (mApp 3 (xLst (xLc (xRg1 (xFn dLen (xaCons (xVar 2) xaNil))) [9] (bName 9) (xT (xOp dEq (xOp dIx (xVar 2) (xVar 9)) (xVar 4))) (xVar 9)))))) nI (fun d => [some c, some cp, some (nL L), some (.list ((stp L d.length).map nL)), none, none, none, none, none, none]) (List.range m) fun d x r e => by
    obtain ⟨rfl, hx⟩ := range_split e
    have K := kLc_pure (vs := [9]) (b := (bName 9)) (t := (xT (xOp dEq (xOp dIx (xVar 2) (xVar 9)) (xVar 4)))) (e := (xVar 9)) nI (fun k => decide (L.getD k 0 = x)) nI (s := [some c, some cp, some (nL L), some (.list ((stp L x).map nL)), some (nI x), none, none, none, none, none]) (xs := List.range L.length) (by rw [List.length_range]; omega) fun k hk => by
      have hk := List.mem_range.mp hk
      have a := atI_nL (L := L) hk
      refine ⟨_, rfl, ?_⟩
      simp only [List.getD_eq_getElem?_getD] at a ⊢
      simp [a, Int.natCast_inj]
    have e1 : (List.range L.length).filter (fun k => decide (L.getD k 0 = x)) = stI L x := rfl
    rw [e1] at K
    have g : (L.length : Int) ≤ 1000000 := by omega
    have l := stp_len L x
    refine ⟨_, rfl, ?_⟩
    rw [List.length_append, List.length_range, List.length_singleton, stp_s, List.map_append]
    try simp at K
    simp [dRg_n, xLc_ap, K, g, l, show x ≤ 1000000 by omega]
  rw [List.length_range] at F
  exact F
theorem right_it (ins : Int) {rs : List Rk} (o sh : List Int) (hr : rs.length ≤ 1000) (tu : D) : (mForget [6, 7, 8] (mSeq (mSetF 7 (xfMap m_steps_of (xaCons (xVar 1) xaNil))) (mSpoil 8 m_depth_told (xaCons (xVar 1) xaNil) (pGd 8 (xOr (xNot (xTru (xFn m__law_same (xaCons (xVar 7) (xaCons (xVar 3) xaNil))))) (xOr (xNot (xTru (xFn m__law_same (xaCons (xVar 8) (xaCons (xTup (xaCons (xFn dLen (xaCons (xVar 3) xaNil)) (xaCons (xVar 5) xaNil))) xaNil))))) (xT (xOp dNe (xVar 1) (xVar 0))))) (xC (.bool false)) (pGd 8 (xOr (xT (xOp dNotB (xFn m_shows_steps (xaCons (xVar 1) (xaCons (xVar 7) xaNil))) (xC (.bool true)))) (xT (xOp dNotB (xFn m_shows_chain (xaCons (xVar 1) (xaCons (xOp dIx (xVar 8) (xC (.int 1))) xaNil))) (xC (.bool true))))) (xC (.bool false)) (pApp 7 (xLst (xDisp xaNil)) (pEnd 1 (xC (.int 0))))))))) [some (coreD ins rs (iL o) (iL sh)), some (coreD ins rs (iL o) (iL sh)), some (nL (lv hg rs)), some (.list ((stp (lv hg rs) (nl hg rs)).map nL)), none, some (nL (topc (chs hg 0 rs))), some tu, none, none, none] = some (.nx [some (coreD ins rs (iL o) (iL sh)), some (coreD ins rs (iL o) (iL sh)), some (nL (lv hg rs)), some (.list ((stp (lv hg rs) (nl hg rs)).map nL)), none, some (nL (topc (chs hg 0 rs))), none, none, none, none]) := by
  have d1 := steps_spec ins rs (iL o) (iL sh) hr
  have d2 := depth_spec ins rs (iL o) (iL sh) hr
  have d3 := shows_steps_n ins (rs := rs) (iL o) (iL sh) hr
  have bd := topc_bd hr
  have d4 := shows_chain_n ins (rs := rs) (iL o) (iL sh) hr (top_chn hg rs) bd.1
  have ne := dNe_refl (shaped_core ins rs o sh)
  have sl := stp_len (lv hg rs) (nl hg rs)
  have s1 : m__law_same [.list ((stp (lv hg rs) (nl hg rs)).map nL), .list ((stp (lv hg rs) (nl hg rs)).map nL)] = some (.bool true) := by
    refine same_refl 40 _ ⟨by rw [List.length_map, sl]; omega, fun x hx => ?_⟩
    obtain ⟨l, hl, rfl⟩ := List.mem_map.mp hx
    refine okS_nL 37 ?_
    unfold stp at hl
    obtain ⟨v, _, rfl⟩ := List.mem_map.mp hl
    have := stI_len (lv hg rs) v
    rw [lv_len] at this
    show (stI (lv hg rs) v).length ≤ _
    omega
  have s2 : m__law_same [cnD rs, cnD rs] = some (.bool true) := by
    refine same_refl 40 _ ⟨by simp, fun x hx => ?_⟩
    rcases List.mem_cons.mp hx with rfl | hx
    · exact trivial
    · rw [List.mem_singleton.mp hx]
      exact okS_nL 37 (by omega)
  simp only [cnD, nL] at d2 s2 d4
  have n1 : dNotB (.bool true) (.bool true) = some (.bool false) := rfl
  generalize nl hg rs = m at *
  generalize lv hg rs = L at *
  generalize topc (chs hg 0 rs) = tc at *
  simp [d1, mSpoil_ap, d2, s1, s2, ne, d3, d4, n1, sl, partD, show tc.length ≤ 1000000 by omega, show m ≤ 1000000 by omega]
theorem right_spec (ins : Int) {rs : List Rk} (o sh : List Int) (hr : rs.length ≤ 1000) : m__law_right [coreD ins rs (iL o) (iL sh)] = some (.bool true) := by
  have c := copy_spec ins rs o sh hr
  have l := levels_law_spec rs hr
  have ch := chain_spec rs hr
  have bd := topc_bd hr
  have hn := nl_eq rs
  have hL : (lv hg rs).length ≤ 1000 := by rw [lv_len]; exact hr
  obtain ⟨m, M, em⟩ := dMax_m1 (lv hg rs)
  rw [← hn] at em
  subst em
  have dl := due_loop (coreD ins rs (iL o) (iL sh)) (coreD ins rs (iL o) (iL sh)) (lv hg rs) hL (nl hg rs) bd.2
  have it := right_it ins (rs := rs) o sh hr
  have de := depth_eq hg rs
  have sl := stp_len (lv hg rs) (nl hg rs)
  have F := for_st (b := (bName 6)) (m := (mForget [6, 7, 8] (mSeq (mSetF 7 (xfMap m_steps_of (xaCons (xVar 1) xaNil))) (mSpoil 8 m_depth_told (xaCons (xVar 1) xaNil) (pGd 8 (xOr (xNot (xTru (xFn m__law_same (xaCons (xVar 7) (xaCons (xVar 3) xaNil))))) (xOr (xNot (xTru (xFn m__law_same (xaCons (xVar 8) (xaCons (xTup (xaCons (xFn dLen (xaCons (xVar 3) xaNil)) (xaCons (xVar 5) xaNil))) xaNil))))) (xT (xOp dNe (xVar 1) (xVar 0))))) (xC (.bool false)) (pGd 8 (xOr (xT (xOp dNotB (xFn m_shows_steps (xaCons (xVar 1) (xaCons (xVar 7) xaNil))) (xC (.bool true)))) (xT (xOp dNotB (xFn m_shows_chain (xaCons (xVar 1) (xaCons (xOp dIx (xVar 8) (xC (.int 1))) xaNil))) (xC (.bool true))))) (xC (.bool false)) (pApp 7 (xLst (xDisp xaNil)) (pEnd 1 (xC (.int 0)))))))))) PyData.int (fun _ => [some (coreD ins rs (iL o) (iL sh)), some (coreD ins rs (iL o) (iL sh)), some (nL (lv hg rs)), some (.list ((stp (lv hg rs) (nl hg rs)).map nL)), none, some (nL (topc (chs hg 0 rs))), none, none, none, none]) [0, 1] fun d x r e => ⟨_, rfl, it (.int x)⟩
  generalize nl hg rs = m at *
  generalize lv hg rs = L at *
  generalize topc (chs hg 0 rs) = tc at *
  have g1 : L.length + 1 ≤ 1000000 := by omega
  have g2 : (m : Int) ≤ 1000000 := by omega
  simp only [nL] at ch dl F
  simp at F
  simp [m__law_right, fnP, mb__law_right, startM, c, l, M, mFor_ap, kFor_ap, dRg_n, dl, ch, g1, g2, show dRg 0 2 = [PyData.int 0, .int 1] from rfl, F, de, sl, outP]
end Tk70
end Z


namespace Z
open PySem PySem.Spec PyProof.Rows L2
namespace Tk70
/-! ## the law -/
def rA : List Rk := [.t1 "h" 0, .t1 "h" 1, .read 0 0, .new 2, .fix "X" 1 [0]]
theorem lvA : lv hg rA = [0, 0, 1, 2, 2] := by decide +kernel
theorem nlA : nl hg rA = 3 := by decide +kernel
theorem stA : stp [0, 0, 1, 2, 2] 3 = [[0, 1], [2], [3, 4]] := by decide +kernel
theorem chA : topc (chs hg 0 rA) = [0, 2, 3] := by decide +kernel
theorem ch0 : topc (chs hg 0 ([] : List Rk)) = [] := rfl
def Inv (a : D) (s : MS) : Prop := ∃ (fs : List D), FeedOk fs ∧ s = [some a, some (.list fs), none, none, none]
theorem law_it (a : D) (tu : Int) {s : MS} (h : Inv a s) : ∃ s1 s2, (bName 2) (.int tu) s = some s1 ∧ (mForget [2, 3] (mSeq (mSet 3 (xOp dIx (xLst (xDisp (xaCons (xC (.int 14)) (xaCons (xC (.int 40)) xaNil)))) (xFn dInt (xaCons (xOp dEq (xCallT 1 m__law_draw (xaCons (xC (.int 8)) xaNil)) (xC (.int 0))) xaNil)))) (mIf (xNot (xTru (xFn m__law_right (xaCons (xCallT 1 m__law_core (xaCons (xCallT 1 m__law_draw (xaCons (xC (.int 3)) xaNil)) (xaCons (xC (.int 4)) (xaCons (xVar 3) xaNil)))) xaNil)))) (mRet (xC (.bool false))) mSkip))) s1 = some (.nx s2) ∧ Inv a s2 := by
  obtain ⟨fs, F, rfl⟩ := h
  obtain ⟨q, f1, d1, q0, q1, F1⟩ := draw_spec F (n := 8) (by omega) (by omega)
  obtain ⟨n, f2, d2, n0, n1, F2⟩ := draw_spec F1 (n := 3) (by omega) (by omega)
  by_cases hq : q = 0
  · obtain ⟨rs, b, o, sh, f3, d3, F3, wf, rl, om⟩ := core_spec (wide := 4) (most := 40) (ins := n) (by omega) (by omega) (by omega) (by omega) F2
    have r := right_spec n (rs := rs) o sh (by omega)
    refine ⟨_, _, rfl, ?_, f3, F3, rfl⟩
    subst hq
    simp [d1, dInt, d2, d3, r]
  · obtain ⟨rs, b, o, sh, f3, d3, F3, wf, rl, om⟩ := core_spec (wide := 4) (most := 14) (ins := n) (by omega) (by omega) (by omega) (by omega) F2
    have r := right_spec n (rs := rs) o sh (by omega)
    refine ⟨_, _, rfl, ?_, f3, F3, rfl⟩
    simp [d1, dInt, hq, d2, d3, r]
theorem law_true (ns : List Int) (_ : ns.length ≤ 63) : m_law [.list (ns.map PyData.int)] = some (.bool true) := by
  obtain ⟨fs, d0, F0⟩ := feed_spec ns
  obtain ⟨s', L, iv⟩ := for_ind (b := (bName 2)) (m := (mForget [2, 3] (mSeq (mSet 3 (xOp dIx (xLst (xDisp (xaCons (xC (.int 14)) (xaCons (xC (.int 40)) xaNil)))) (xFn dInt (xaCons (xOp dEq (xCallT 1 m__law_draw (xaCons (xC (.int 8)) xaNil)) (xC (.int 0))) xaNil)))) (mIf (xNot (xTru (xFn m__law_right (xaCons (xCallT 1 m__law_core (xaCons (xCallT 1 m__law_draw (xaCons (xC (.int 3)) xaNil)) (xaCons (xC (.int 4)) (xaCons (xVar 3) xaNil)))) xaNil)))) (mRet (xC (.bool false))) mSkip)))) PyData.int (fun _ s => Inv (.list (ns.map PyData.int)) s) [0, 1, 2] [] [some (.list (ns.map PyData.int)), some (.list fs), none, none, none] ⟨fs, F0, rfl⟩ fun d x r s e hi => by
    obtain ⟨s1, s2, g1, g2, g3⟩ := law_it _ x hi
    exact ⟨s1, s2, g1, .inl g2, g3⟩
  obtain ⟨fs1, F1, rfl⟩ := iv
  have t1 := steps_spec 2 rA (iL [1, 2]) (iL []) (by decide)
  have t2 := depth_spec 2 rA (iL [1, 2]) (iL []) (by decide)
  have t3 := depth_spec 0 [] (iL []) (iL []) (by decide)
  rw [lvA, nlA, stA] at t1
  simp only [cnD, nlA, chA] at t2
  simp only [cnD, ch0, show nl hg ([] : List Rk) = 0 from rfl] at t3
  have s1 : m__law_same [.list ([[0, 1], [2], [3, 4]].map nL), .list ([[0, 1], [2], [3, 4]].map nL)] = some (.bool true) := by
    refine same_refl 40 _ ⟨by decide, fun x hx => ?_⟩
    obtain ⟨l, hl, rfl⟩ := List.mem_map.mp hx
    refine okS_nL 37 ?_
    simp at hl
    rcases hl with rfl | rfl | rfl <;> decide
  have s2 : m__law_same [.list [.tuple [nI 3, nL [0, 2, 3]], .tuple [nI 0, nL []]], .list [.tuple [nI 3, nL [0, 2, 3]], .tuple [nI 0, nL []]]] = some (.bool true) := by
    refine same_refl 40 _ ⟨by decide, fun x hx => ?_⟩
    simp only [List.mem_cons, List.not_mem_nil, or_false] at hx
    rcases hx with rfl | rfl
    · refine ⟨by decide, fun y hy => ?_⟩
      simp only [List.mem_cons, List.not_mem_nil, or_false] at hy
      rcases hy with rfl | rfl
      · exact trivial
      · exact okS_nL 36 (by decide)
    · refine ⟨by decide, fun y hy => ?_⟩
      simp only [List.mem_cons, List.not_mem_nil, or_false] at hy
      rcases hy with rfl | rfl
      · exact trivial
      · exact okS_nL 36 (by decide)
  simp [coreD, rA, enc, iL, nL, nI] at t1 t2 t3 s1 s2
  simp at L
  simp [m_law, fnP, mb_law, startM, d0, mFor_ap, kFor_ap, dRg_map, show rgI 0 3 = [0, 1, 2] from rfl, L, t1, t2, t3, s1, s2, outP]
end Tk70
end Z


namespace Z
open PySem PySem.Spec PyProof.Rows L2
namespace Tk70
def fns : List He.DefD := [defD "is_whole" s_is_whole, defD "are_wholes" s_are_wholes, defD "are_between" s_are_between, defD "is_rising" s_is_rising, defD "are_lists_of_wholes" s_are_lists_of_wholes, defD "slots_of" s_slots_of, defD "do_share" s_do_share, defD "reads_for" s_reads_for, defD "hang_together" s_hang_together, defD "levels_of" s_levels_of, defD "steps_of" s_steps_of, defD "heights_of" s_heights_of, defD "depth_told" s_depth_told, defD "shows_chain" s_shows_chain, defD "shows_steps" s_shows_steps, defD "_law_feed" s__law_feed, defD "_law_draw" s__law_draw, defD "_law_slots" s__law_slots, defD "_law_share" s__law_share, defD "_law_hang" s__law_hang, defD "_law_copy" s__law_copy, defD "_law_levels" s__law_levels, defD "_law_same" s__law_same, defD "_law_core" s__law_core, defD "_law_chain" s__law_chain, defD "_law_right" s__law_right, defD "law" s_law]
def fas : List He.Fa := [.glo "is_whole", .glo "are_wholes", .glo "are_between", .glo "is_rising", .glo "are_lists_of_wholes", .glo "slots_of", .glo "do_share", .glo "reads_for", .glo "hang_together", .glo "levels_of", .glo "steps_of", .glo "heights_of", .glo "depth_told", .glo "shows_chain", .glo "shows_steps", .glo "_law_feed", .glo "_law_draw", .glo "_law_slots", .glo "_law_share", .glo "_law_hang", .glo "_law_copy", .glo "_law_levels", .glo "_law_same", .glo "_law_core", .glo "_law_chain", .glo "_law_right", .glo "law", .free "isinstance", .free "int", .free "bool", .free "list", .free "all", .free "range", .free "len", .free "any", .free "enumerate", .free "max", .free "sorted", .free "abs", .free "tuple", .free "str"]
def tabs : List He.Tab := []
def exB (K : PySem.W.Frag) : Bool := true
abbrev R : PySem.W.OpenRow := PySem.W.OpenLaw.row PySem.Challenge.rw_steadywires_k70_whole_steps_of_rows
abbrev hk : PySem.W.Hook := He.hookX 5 fas fns tabs [] exB
def ob (s : PySem.W.SharedT) : He.AlX := He.obsX 5 fas fns tabs [] exB (HandSHeadRun.getT s)
theorem ob_eq (s : PySem.W.SharedT) : ob s = hk.obs s.abs := He.obsX_eq (HandSHeadRun.getT_eq s)
def loose0 : List Str := ["is_whole", "are_wholes", "are_between", "is_rising", "are_lists_of_wholes", "slots_of", "do_share", "reads_for", "hang_together", "levels_of", "steps_of", "heights_of", "depth_told", "shows_chain", "shows_steps", "_law_feed", "_law_draw", "_law_slots", "_law_share", "_law_hang"]
def loose1 : List Str := ["_law_copy", "_law_levels", "_law_same", "_law_core", "_law_chain", "_law_right"]
def loose : List Str := loose0 ++ loose1
theorem run (w : World) : HandSHeadRun.RunEq R (PySem.W.view R.prog [31]) hk ob 2320 loose w := by
  intro os
  kernel_rfl
theorem facts {P : Program} {w : World} {K : PySem.W.Frag} {h : Heap} {mg : Str → Option Value} {f : Addr} (X : K.In h) (G : h.Ns mainGlobals mg) (hfa : mg ("law" : Str) = some (.ref f)) (c : He.SaysX fas fns tabs [] exB w h K) :
    ∃ fd : FuncData, (∀ (s : Shared) (v : Value), BindsTo s fd ⟨[v], []⟩ [("script", v)]) ∧ ∀ base : Heap, K.In base → base.Ns mainGlobals mg → FnOk P w K mg base CX0 43 f fd ["script"] (spP K m_law) := by
  obtain ⟨fd_is_whole, O_is_whole⟩ := c.t.d.def_ 0 (d := defD "is_whole" s_is_whole) rfl
  have P_is_whole : FnP K "is_whole" "is_whole" s_is_whole (He.ga K "is_whole") fd_is_whole := O_is_whole
  have hm_is_whole := He.glo_ok X G (c.t.d.fact 0 (f := .glo "is_whole") rfl)
  obtain ⟨fd_are_wholes, O_are_wholes⟩ := c.t.d.def_ 1 (d := defD "are_wholes" s_are_wholes) rfl
  have P_are_wholes : FnP K "are_wholes" "are_wholes" s_are_wholes (He.ga K "are_wholes") fd_are_wholes := O_are_wholes
  have hm_are_wholes := He.glo_ok X G (c.t.d.fact 1 (f := .glo "are_wholes") rfl)
  obtain ⟨fd_are_between, O_are_between⟩ := c.t.d.def_ 2 (d := defD "are_between" s_are_between) rfl
  have P_are_between : FnP K "are_between" "are_between" s_are_between (He.ga K "are_between") fd_are_between := O_are_between
  have hm_are_between := He.glo_ok X G (c.t.d.fact 2 (f := .glo "are_between") rfl)
  obtain ⟨fd_is_rising, O_is_rising⟩ := c.t.d.def_ 3 (d := defD "is_rising" s_is_rising) rfl
  have P_is_rising : FnP K "is_rising" "is_rising" s_is_rising (He.ga K "is_rising") fd_is_rising := O_is_rising
  have hm_is_rising := He.glo_ok X G (c.t.d.fact 3 (f := .glo "is_rising") rfl)
  obtain ⟨fd_are_lists_of_wholes, O_are_lists_of_wholes⟩ := c.t.d.def_ 4 (d := defD "are_lists_of_wholes" s_are_lists_of_wholes) rfl
  have P_are_lists_of_wholes : FnP K "are_lists_of_wholes" "are_lists_of_wholes" s_are_lists_of_wholes (He.ga K "are_lists_of_wholes") fd_are_lists_of_wholes := O_are_lists_of_wholes
  have hm_are_lists_of_wholes := He.glo_ok X G (c.t.d.fact 4 (f := .glo "are_lists_of_wholes") rfl)
  obtain ⟨fd_slots_of, O_slots_of⟩ := c.t.d.def_ 5 (d := defD "slots_of" s_slots_of) rfl
  have P_slots_of : FnP K "slots_of" "slots_of" s_slots_of (He.ga K "slots_of") fd_slots_of := O_slots_of
  have hm_slots_of := He.glo_ok X G (c.t.d.fact 5 (f := .glo "slots_of") rfl)
  obtain ⟨fd_do_share, O_do_share⟩ := c.t.d.def_ 6 (d := defD "do_share" s_do_share) rfl
  have P_do_share : FnP K "do_share" "do_share" s_do_share (He.ga K "do_share") fd_do_share := O_do_share
  have hm_do_share := He.glo_ok X G (c.t.d.fact 6 (f := .glo "do_share") rfl)
  obtain ⟨fd_reads_for, O_reads_for⟩ := c.t.d.def_ 7 (d := defD "reads_for" s_reads_for) rfl
  have P_reads_for : FnP K "reads_for" "reads_for" s_reads_for (He.ga K "reads_for") fd_reads_for := O_reads_for
  have hm_reads_for := He.glo_ok X G (c.t.d.fact 7 (f := .glo "reads_for") rfl)
  obtain ⟨fd_hang_together, O_hang_together⟩ := c.t.d.def_ 8 (d := defD "hang_together" s_hang_together) rfl
  have P_hang_together : FnP K "hang_together" "hang_together" s_hang_together (He.ga K "hang_together") fd_hang_together := O_hang_together
  have hm_hang_together := He.glo_ok X G (c.t.d.fact 8 (f := .glo "hang_together") rfl)
  obtain ⟨fd_levels_of, O_levels_of⟩ := c.t.d.def_ 9 (d := defD "levels_of" s_levels_of) rfl
  have P_levels_of : FnP K "levels_of" "levels_of" s_levels_of (He.ga K "levels_of") fd_levels_of := O_levels_of
  have hm_levels_of := He.glo_ok X G (c.t.d.fact 9 (f := .glo "levels_of") rfl)
  obtain ⟨fd_steps_of, O_steps_of⟩ := c.t.d.def_ 10 (d := defD "steps_of" s_steps_of) rfl
  have P_steps_of : FnP K "steps_of" "steps_of" s_steps_of (He.ga K "steps_of") fd_steps_of := O_steps_of
  have hm_steps_of := He.glo_ok X G (c.t.d.fact 10 (f := .glo "steps_of") rfl)
  obtain ⟨fd_heights_of, O_heights_of⟩ := c.t.d.def_ 11 (d := defD "heights_of" s_heights_of) rfl
  have P_heights_of : FnP K "heights_of" "heights_of" s_heights_of (He.ga K "heights_of") fd_heights_of := O_heights_of
  have hm_heights_of := He.glo_ok X G (c.t.d.fact 11 (f := .glo "heights_of") rfl)
  obtain ⟨fd_depth_told, O_depth_told⟩ := c.t.d.def_ 12 (d := defD "depth_told" s_depth_told) rfl
  have P_depth_told : FnP K "depth_told" "depth_told" s_depth_told (He.ga K "depth_told") fd_depth_told := O_depth_told
  have hm_depth_told := He.glo_ok X G (c.t.d.fact 12 (f := .glo "depth_told") rfl)
  obtain ⟨fd_shows_chain, O_shows_chain⟩ := c.t.d.def_ 13 (d := defD "shows_chain" s_shows_chain) rfl
  have P_shows_chain : FnP K "shows_chain" "shows_chain" s_shows_chain (He.ga K "shows_chain") fd_shows_chain := O_shows_chain
  have hm_shows_chain := He.glo_ok X G (c.t.d.fact 13 (f := .glo "shows_chain") rfl)
  obtain ⟨fd_shows_steps, O_shows_steps⟩ := c.t.d.def_ 14 (d := defD "shows_steps" s_shows_steps) rfl
  have P_shows_steps : FnP K "shows_steps" "shows_steps" s_shows_steps (He.ga K "shows_steps") fd_shows_steps := O_shows_steps
  have hm_shows_steps := He.glo_ok X G (c.t.d.fact 14 (f := .glo "shows_steps") rfl)
  obtain ⟨fd__law_feed, O__law_feed⟩ := c.t.d.def_ 15 (d := defD "_law_feed" s__law_feed) rfl
  have P__law_feed : FnP K "_law_feed" "_law_feed" s__law_feed (He.ga K "_law_feed") fd__law_feed := O__law_feed
  have hm__law_feed := He.glo_ok X G (c.t.d.fact 15 (f := .glo "_law_feed") rfl)
  obtain ⟨fd__law_draw, O__law_draw⟩ := c.t.d.def_ 16 (d := defD "_law_draw" s__law_draw) rfl
  have P__law_draw : FnP K "_law_draw" "_law_draw" s__law_draw (He.ga K "_law_draw") fd__law_draw := O__law_draw
  have hm__law_draw := He.glo_ok X G (c.t.d.fact 16 (f := .glo "_law_draw") rfl)
  obtain ⟨fd__law_slots, O__law_slots⟩ := c.t.d.def_ 17 (d := defD "_law_slots" s__law_slots) rfl
  have P__law_slots : FnP K "_law_slots" "_law_slots" s__law_slots (He.ga K "_law_slots") fd__law_slots := O__law_slots
  have hm__law_slots := He.glo_ok X G (c.t.d.fact 17 (f := .glo "_law_slots") rfl)
  obtain ⟨fd__law_share, O__law_share⟩ := c.t.d.def_ 18 (d := defD "_law_share" s__law_share) rfl
  have P__law_share : FnP K "_law_share" "_law_share" s__law_share (He.ga K "_law_share") fd__law_share := O__law_share
  have hm__law_share := He.glo_ok X G (c.t.d.fact 18 (f := .glo "_law_share") rfl)
  obtain ⟨fd__law_hang, O__law_hang⟩ := c.t.d.def_ 19 (d := defD "_law_hang" s__law_hang) rfl
  have P__law_hang : FnP K "_law_hang" "_law_hang" s__law_hang (He.ga K "_law_hang") fd__law_hang := O__law_hang
  have hm__law_hang := He.glo_ok X G (c.t.d.fact 19 (f := .glo "_law_hang") rfl)
  obtain ⟨fd__law_copy, O__law_copy⟩ := c.t.d.def_ 20 (d := defD "_law_copy" s__law_copy) rfl
  have P__law_copy : FnP K "_law_copy" "_law_copy" s__law_copy (He.ga K "_law_copy") fd__law_copy := O__law_copy
  have hm__law_copy := He.glo_ok X G (c.t.d.fact 20 (f := .glo "_law_copy") rfl)
  obtain ⟨fd__law_levels, O__law_levels⟩ := c.t.d.def_ 21 (d := defD "_law_levels" s__law_levels) rfl
  have P__law_levels : FnP K "_law_levels" "_law_levels" s__law_levels (He.ga K "_law_levels") fd__law_levels := O__law_levels
  have hm__law_levels := He.glo_ok X G (c.t.d.fact 21 (f := .glo "_law_levels") rfl)
  obtain ⟨fd__law_same, O__law_same⟩ := c.t.d.def_ 22 (d := defD "_law_same" s__law_same) rfl
  have P__law_same : FnP K "_law_same" "_law_same" s__law_same (He.ga K "_law_same") fd__law_same := O__law_same
  have hm__law_same := He.glo_ok X G (c.t.d.fact 22 (f := .glo "_law_same") rfl)
  obtain ⟨fd__law_core, O__law_core⟩ := c.t.d.def_ 23 (d := defD "_law_core" s__law_core) rfl
  have P__law_core : FnP K "_law_core" "_law_core" s__law_core (He.ga K "_law_core") fd__law_core := O__law_core
  have hm__law_core := He.glo_ok X G (c.t.d.fact 23 (f := .glo "_law_core") rfl)
  obtain ⟨fd__law_chain, O__law_chain⟩ := c.t.d.def_ 24 (d := defD "_law_chain" s__law_chain) rfl
  have P__law_chain : FnP K "_law_chain" "_law_chain" s__law_chain (He.ga K "_law_chain") fd__law_chain := O__law_chain
  have hm__law_chain := He.glo_ok X G (c.t.d.fact 24 (f := .glo "_law_chain") rfl)
  obtain ⟨fd__law_right, O__law_right⟩ := c.t.d.def_ 25 (d := defD "_law_right" s__law_right) rfl
  have P__law_right : FnP K "_law_right" "_law_right" s__law_right (He.ga K "_law_right") fd__law_right := O__law_right
  have hm__law_right := He.glo_ok X G (c.t.d.fact 25 (f := .glo "_law_right") rfl)
  obtain ⟨fd_law, O_law⟩ := c.t.d.def_ 26 (d := defD "law" s_law) rfl
  have P_law : FnP K "law" "law" s_law (He.ga K "law") fd_law := O_law
  have hm_law := He.glo_ok X G (c.t.d.fact 26 (f := .glo "law") rfl)
  have b_isinstance := He.free_ok X G (c.t.d.fact 27 (f := .free "isinstance") rfl)
  have b_int := He.free_ok X G (c.t.d.fact 28 (f := .free "int") rfl)
  have b_bool := He.free_ok X G (c.t.d.fact 29 (f := .free "bool") rfl)
  have b_list := He.free_ok X G (c.t.d.fact 30 (f := .free "list") rfl)
  have b_all := He.free_ok X G (c.t.d.fact 31 (f := .free "all") rfl)
  have b_range := He.free_ok X G (c.t.d.fact 32 (f := .free "range") rfl)
  have b_len := He.free_ok X G (c.t.d.fact 33 (f := .free "len") rfl)
  have b_any := He.free_ok X G (c.t.d.fact 34 (f := .free "any") rfl)
  have b_enumerate := He.free_ok X G (c.t.d.fact 35 (f := .free "enumerate") rfl)
  have b_max := He.free_ok X G (c.t.d.fact 36 (f := .free "max") rfl)
  have b_sorted := He.free_ok X G (c.t.d.fact 37 (f := .free "sorted") rfl)
  have b_abs := He.free_ok X G (c.t.d.fact 38 (f := .free "abs") rfl)
  have b_tuple := He.free_ok X G (c.t.d.fact 39 (f := .free "tuple") rfl)
  have b_str := He.free_ok X G (c.t.d.fact 40 (f := .free "str") rfl)
  have e := hfa.symm.trans hm_law
  cases e
  have bl := FunD.bindsA (ps := ["script"]) O_law fun _ _ _ _ _ _ us hl => match us, hl with | [_], _ => rfl
  refine ⟨fd_law, fun s v => bl s [v] rfl, fun base _ _ => ?_⟩
  have F_is_whole : FnAt P w K mg base 1 "is_whole" ["value"] (spP K m_is_whole) := fnAtD (st := s_is_whole) P_is_whole (ok_is_whole P_is_whole b_isinstance b_int b_bool) hm_is_whole fun _ _ _ _ _ _ us hl => match us, hl with | [_], _ => rfl
  have F_are_wholes : FnAt P w K mg base 2 "are_wholes" ["value"] (spP K m_are_wholes) := fnAtD (st := s_are_wholes) P_are_wholes (ok_are_wholes P_are_wholes b_isinstance b_list b_all F_is_whole) hm_are_wholes fun _ _ _ _ _ _ us hl => match us, hl with | [_], _ => rfl
  have F_are_between : FnAt P w K mg base 3 "are_between" ["value", "least", "most"] (spP K m_are_between) := fnAtD (st := s_are_between) P_are_between (ok_are_between P_are_between b_all F_are_wholes) hm_are_between fun _ _ _ _ _ _ us hl => match us, hl with | [_, _, _], _ => rfl
  have F_is_rising : FnAt P w K mg base 1 "is_rising" ["numbers"] (spP K m_is_rising) := fnAtD (st := s_is_rising) P_is_rising (ok_is_rising P_is_rising b_all b_range b_len) hm_is_rising fun _ _ _ _ _ _ us hl => match us, hl with | [_], _ => rfl
  have F_are_lists_of_wholes : FnAt P w K mg base 3 "are_lists_of_wholes" ["value"] (spP K m_are_lists_of_wholes) := fnAtD (st := s_are_lists_of_wholes) P_are_lists_of_wholes (ok_are_lists_of_wholes P_are_lists_of_wholes b_isinstance b_list b_all F_are_wholes) hm_are_lists_of_wholes fun _ _ _ _ _ _ us hl => match us, hl with | [_], _ => rfl
  have F_slots_of : FnAt P w K mg base 1 "slots_of" ["row"] (spP K m_slots_of) := fnAtD (st := s_slots_of) P_slots_of (ok_slots_of P_slots_of) hm_slots_of fun _ _ _ _ _ _ us hl => match us, hl with | [_], _ => rfl
  have F_do_share : FnAt P w K mg base 2 "do_share" ["one", "other"] (spP K m_do_share) := fnAtD (st := s_do_share) P_do_share (ok_do_share P_do_share b_any F_slots_of) hm_do_share fun _ _ _ _ _ _ us hl => match us, hl with | [_, _], _ => rfl
  have F_reads_for : FnAt P w K mg base 1 "reads_for" ["one", "other"] (spP K m_reads_for) := fnAtD (st := s_reads_for) P_reads_for (ok_reads_for P_reads_for) hm_reads_for fun _ _ _ _ _ _ us hl => match us, hl with | [_, _], _ => rfl
  have F_hang_together : FnAt P w K mg base 3 "hang_together" ["one", "other"] (spP K m_hang_together) := fnAtD (st := s_hang_together) P_hang_together (ok_hang_together P_hang_together F_do_share F_reads_for) hm_hang_together fun _ _ _ _ _ _ us hl => match us, hl with | [_, _], _ => rfl
  have F_levels_of : FnAt P w K mg base 4 "levels_of" ["core"] (spL K m_levels_of) := fnAtD (st := s_levels_of) P_levels_of (ok_levels_of P_levels_of b_enumerate b_max b_range F_hang_together) hm_levels_of fun _ _ _ _ _ _ us hl => match us, hl with | [_], _ => rfl
  have F_steps_of : FnAt P w K mg base 5 "steps_of" ["core"] (spL K m_steps_of) := fnAtD (st := s_steps_of) P_steps_of (ok_steps_of P_steps_of b_range b_max b_enumerate F_levels_of) hm_steps_of fun _ _ _ _ _ _ us hl => match us, hl with | [_], _ => rfl
  have F_heights_of : FnAt P w K mg base 4 "heights_of" ["core"] (spL K m_heights_of) := fnAtD (st := s_heights_of) P_heights_of (ok_heights_of P_heights_of b_len b_range b_max F_hang_together) hm_heights_of fun _ _ _ _ _ _ us hl => match us, hl with | [_], _ => rfl
  have F_depth_told : FnAt P w K mg base 5 "depth_told" ["core"] (spQ K 1 m_depth_told) := fnAtD (st := s_depth_told) P_depth_told (ok_depth_told P_depth_told b_max b_enumerate b_len F_heights_of F_hang_together) hm_depth_told fun _ _ _ _ _ _ us hl => match us, hl with | [_], _ => rfl
  have F_shows_chain : FnAt P w K mg base 4 "shows_chain" ["core", "chain"] (spP K m_shows_chain) := fnAtD (st := s_shows_chain) P_shows_chain (ok_shows_chain P_shows_chain b_len b_all b_range F_are_between F_is_rising F_hang_together) hm_shows_chain fun _ _ _ _ _ _ us hl => match us, hl with | [_, _], _ => rfl
  have F_shows_steps : FnAt P w K mg base 4 "shows_steps" ["core", "steps"] (spP K m_shows_steps) := fnAtD (st := s_shows_steps) P_shows_steps (ok_shows_steps P_shows_steps b_all b_sorted b_list b_range b_len b_enumerate F_are_lists_of_wholes F_is_rising F_hang_together) hm_shows_steps fun _ _ _ _ _ _ us hl => match us, hl with | [_, _], _ => rfl
  have F__law_feed : FnAt P w K mg base 1 "_law_feed" ["script"] (spL K m__law_feed) := fnAtD (st := s__law_feed) P__law_feed (ok__law_feed P__law_feed b_list) hm__law_feed fun _ _ _ _ _ _ us hl => match us, hl with | [_], _ => rfl
  have F__law_draw : FnAt P w K mg base 1 "_law_draw" ["feed", "many"] (spT K m__law_draw) := fnAtD (st := s__law_draw) P__law_draw (ok__law_draw P__law_draw b_len b_abs b_int) hm__law_draw fun _ _ _ _ _ _ us hl => match us, hl with | [_, _], _ => rfl
  have F__law_slots : FnAt P w K mg base 1 "_law_slots" ["row"] (spP K m__law_slots) := fnAtD (st := s__law_slots) P__law_slots (ok__law_slots P__law_slots) hm__law_slots fun _ _ _ _ _ _ us hl => match us, hl with | [_], _ => rfl
  have F__law_share : FnAt P w K mg base 2 "_law_share" ["one", "other"] (spP K m__law_share) := fnAtD (st := s__law_share) P__law_share (ok__law_share P__law_share b_len F__law_slots) hm__law_share fun _ _ _ _ _ _ us hl => match us, hl with | [_, _], _ => rfl
  have F__law_hang : FnAt P w K mg base 3 "_law_hang" ["one", "other"] (spP K m__law_hang) := fnAtD (st := s__law_hang) P__law_hang (ok__law_hang P__law_hang F__law_share) hm__law_hang fun _ _ _ _ _ _ us hl => match us, hl with | [_, _], _ => rfl
  have F__law_copy : FnAt P w K mg base 1 "_law_copy" ["core"] (spP K m__law_copy) := fnAtD (st := s__law_copy) P__law_copy (ok__law_copy P__law_copy b_list b_tuple) hm__law_copy fun _ _ _ _ _ _ us hl => match us, hl with | [_], _ => rfl
  have F__law_levels : FnAt P w K mg base 4 "_law_levels" ["rows"] (spL K m__law_levels) := fnAtD (st := s__law_levels) P__law_levels (ok__law_levels P__law_levels b_range b_len b_max F__law_hang) hm__law_levels fun _ _ _ _ _ _ us hl => match us, hl with | [_], _ => rfl
  have hb__law_same : BindN K fd__law_same ["actual", "due"] := P__law_same.bindsN fun _ _ _ _ _ _ us hl => match us, hl with | [_, _], _ => rfl
  have okr__law_same_ := okr__law_same (P := P) (w := w) (base := base) P__law_same hm__law_same hb__law_same b_isinstance b_list b_tuple b_len b_all b_range b_bool b_str b_int 40
  have F__law_same : FnAt P w K mg base 41 "_law_same" ["actual", "due"] (spP K m__law_same) := fnAt P__law_same okr__law_same_ hm__law_same hb__law_same
  have F__law_core : FnAt P w K mg base 2 "_law_core" ["feed", "ins", "wide", "most"] (spT K m__law_core) := fnAtD (st := s__law_core) P__law_core (ok__law_core P__law_core b_range b_len b_sorted b_list F__law_draw) hm__law_core fun _ _ _ _ _ _ us hl => match us, hl with | [_, _, _, _], _ => rfl
  have F__law_chain : FnAt P w K mg base 4 "_law_chain" ["rows"] (spP K m__law_chain) := fnAtD (st := s__law_chain) P__law_chain (ok__law_chain P__law_chain b_range b_len F__law_hang) hm__law_chain fun _ _ _ _ _ _ us hl => match us, hl with | [_], _ => rfl
  have F__law_right : FnAt P w K mg base 42 "_law_right" ["core"] (spP K m__law_right) := fnAtD (st := s__law_right) P__law_right (ok__law_right P__law_right b_range b_max b_len F__law_copy F__law_levels F__law_chain F_steps_of F_depth_told F_shows_steps F_shows_chain F__law_same) hm__law_right fun _ _ _ _ _ _ us hl => match us, hl with | [_], _ => rfl
  exact ok_law P_law b_range b_int F__law_feed F__law_draw F__law_right F__law_core F__law_same F_steps_of F_depth_told
end Tk70
end Z
open PySem PySem.W PySem.Calls PyProof.Rows
set_option maxRecDepth 100000 in
set_option maxHeartbeats 0 in
theorem PySem.Challenge.cw_steadywires_k70_whole_steps_of_rows_holds : PySem.Challenge.rw_steadywires_k70_whole_steps_of_rows.Holds := by
  w_on; o_law
  refine HandSHeadRun.head_any (r := OpenLaw.row PySem.Challenge.rw_steadywires_k70_whole_steps_of_rows) (q := view (OpenLaw.row PySem.Challenge.rw_steadywires_k70_whole_steps_of_rows).prog [31]) (H := Z.Tk70.hk) (ob := Z.Tk70.ob) (M := 2320) (loose := Z.Tk70.loose) (d := HandSHeadRun.topDef (OpenLaw.row PySem.Challenge.rw_steadywires_k70_whole_steps_of_rows).prog 31) (kwd := []) Z.Tk70.ob_eq
    (by kernel_rfl) (fun s => by kernel_rfl) Z.Tk70.run (by kernel_rfl) (by kernel_rfl) (by kernel_rfl) (by rfl) (by first | assumption | decide +kernel) (by decide +kernel) ⟨rfl, rfl, rfl, rfl, rfl, by decide +kernel⟩ ?hw ?hc
  case hw => w_witness2
  case hc =>
    refine L2.walk_ofE (l := PySem.Challenge.rw_steadywires_k70_whole_steps_of_rows) (n := 63) (k := 43) (x := "script") (CX := L2.CX0) rfl (by decide) (by kernel_rfl) ⟨rfl, by decide, by decide⟩ ?F (fun _ _ _ _ z => z)
    intro w mg fa h Y G hmg0
    obtain ⟨K, KX, c⟩ := Y
    have hmg : mg ("law" : PySem.Str) = some (.ref fa) := by
      have e : (HandSHeadRun.topDef (OpenLaw.row PySem.Challenge.rw_steadywires_k70_whole_steps_of_rows).prog 31).name = ("law" : PySem.Str) := by kernel_rfl
      rw [← e]
      exact hmg0
    obtain ⟨fd, hb, hF⟩ := Z.Tk70.facts (P := (PySem.Challenge.rw_steadywires_k70_whole_steps_of_rows).prog) (w := w) KX G hmg c
    exact ⟨K, fd, Z.spLaw K, KX, hb, fun H a ns hl _ hS => ⟨a, ns, rfl, hS, hl, fun _ => rfl⟩, fun base h1 h2 => Z.law_of (hF base h1 h2) Z.Tk70.law_true⟩


