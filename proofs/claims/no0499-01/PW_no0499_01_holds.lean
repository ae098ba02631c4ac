import PyProof.Rows.All
import Wide.All
import OpenK.AllK
import Wide.FinOn
import PySem.Challenge.RW_no0499_01
set_option Elab.async false
open PySem PySem.W PyProof.Rows PySem.Calls
set_option maxRecDepth 100000
set_option maxHeartbeats 8000000
namespace Mine
theorem left_boot {p q : Program} {loose : List Str} {Xt : Shared → Bool} {α : Type} {Yf : Shared → α} {Ya : World → α} {N : Nat} {g0 : Bool}
    (e : opening p = plainProg p.main.scope.names) (hN : Nat.ble 600 N = true) (f : ∀ s, fenceModules? p s = some s)
    (h : ∀ (w : World) (os : OsState), (topFrom treeTable p w N ⟨boot_heap w.params, Array.mk [], boot_drawn, boot_toks, os⟩).map (fun s => (openSeen q loose (importedModules p.main.body) Xt g0 s, Yf s)) = some (openGood q loose, Ya w)) :
    LeftO p q loose Xt Yf Ya N g0 := fun w => by
  obtain ⟨⟨h0, gs, d, k, os⟩, e1, e2⟩ := Option.map_eq_some_iff.mp (boot_open e hN f w)
  injection e2 with a b
  injection b with b c
  injection c with c d
  dsimp only at a b c d
  subst a b c d
  unfold openEnds
  rw [e1]
  exact h w os
section
local macro_rules
  | `(tactic| refine $f:ident $as*) => do
    unless as.any fun a => a.raw.isOfKind ``Lean.Parser.Term.syntheticHole && a.raw[1].getId.eraseMacroScopes == `hl do Lean.Macro.throwUnsupported
    let p ← `((left_boot (by kernel_rfl) (by kernel_rfl) (fun _ => by kernel_rfl) (fun _ _ => by unfold topFrom; rw [PySem.W.Fast.te14082659384304107361, PySem.W.Fast.te14364793385576792824, PySem.W.Fast.te4187177175401517315]; kernel_rfl)))
    let as := as.map fun a => if a.raw.isOfKind ``Lean.Parser.Term.syntheticHole && a.raw[1].getId.eraseMacroScopes == `hl then ⟨p.raw⟩ else a
    `(tactic| refine $f:ident $as*)
open_top hd for PySem.Challenge.rw_no0499_01
end
local macro_rules | `(tactic| walk_at $s:str) => `(tactic| k_extra $(Lean.Syntax.mkStrLit ("z:" ++ s.getString)))
local macro_rules | `(tactic| k_ne) => `(tactic| k_extra "z_k_ne")
local macro_rules | `(tactic| walk_at "subscriptTail Name Name ref int") => `(tactic| (k_dflt (first | (k_extra "z_item_int_subscriptTail_Name_Name_ref_int"; intro x' t' e'; (try simp only [Int.toNat_natCast] at e')) | (k_extra "z_item_tag_subscriptTail_Name_Name_ref_int"; (refine ⟨fun x' t' e' => ?_, fun e' => ?_⟩) <;> (try simp only [Int.toNat_natCast] at e')))))
local macro_rules | `(tactic| walk_at "setItem ref str") => `(tactic| (k_dflt (k_extra "z_set_pl_setItem_ref_str"); intro h' o' kvs' F' N' hd' hp'; (try dsimp only at N')))
local macro_rules | `(tactic| walk_at "call ref") => `(tactic| (k_dflt (k_extra "z_use_dbl_call_ref"); intro t' h' tk' F' N'))
local macro_rules | `(tactic| walk_at "call ref") => `(tactic| (k_dflt (k_extra "z_use_free_call_ref"); intro h' tk' F' N'))
local macro_rules | `(tactic| walk_at "subscriptTail Name Name ref int") => `(tactic| (k_dflt (k_extra "z_item_arg_subscriptTail_Name_Name_ref_int_w"; intro T' tv' q' eq' hT' hg'; k_extra "z_wall")))
local macro_rules | `(tactic| walk_at "call builtin:str.join") => `(tactic| (k_dflt (k_extra "z_join_led_call_builtin_str_join"); intro t' k'))
local macro_rules | `(tactic| walk_at "call ref") => `(tactic| (k_dflt (k_extra "z_use_argtext_call_ref"); intro t' h' tk' F' N'))
local macro_rules | `(tactic| walk_at "subscriptTail Name Name ref str") => `(tactic| (k_dflt (k_extra "z_item_pl_subscriptTail_Name_Name_ref_str_w"); intro j' t' e'; k_extra "z_wall"))
local macro_rules | `(tactic| walk_at "subscriptTail Name Subscript ref int") => `(tactic| (k_dflt (k_extra "z_item_arg2_subscriptTail_Name_Subscript_ref_int"; intro T' tv' q' ev' eq' hT' hg'; (try simp only [Int.toNat_natCast] at eq' ev'))))
local macro_rules | `(tactic| walk_at "subscriptTail Name Name ref int") => `(tactic| (k_dflt (k_extra "z_item_arg2_subscriptTail_Name_Name_ref_int_w"; intro T' tv' q' ev' eq' hT' hg'; (try simp only [Int.toNat_natCast] at eq' ev'); k_extra "z_wall")))
local macro_rules | `(tactic| walk_at "subscriptTail Name Name ref int") => `(tactic| (k_dflt (first | (k_extra "z_item_tagS_subscriptTail_Name_Name_ref_int"; intro t') | (k_extra "z_item_tagN_subscriptTail_Name_Name_ref_int"))))
local macro_rules | `(tactic| walk_at "call type:list") => `(tactic| (k_dflt (k_extra "z_kdl_list_valuesP_call_type_list"); intro B' c' h' tk' F' N' l1'; (try k_lt l1')))
local macro_rules | `(tactic| walk_at "call builtin:list.index") => `(tactic| (k_dflt (k_extra "z_index_strs_call_builtin_list_index"); intro j' hj1' hj2'))
local macro_rules | `(tactic| walk_at "subscriptTail Name Slice ref ref") => `(tactic| (k_dflt (k_extra "z_kmk_slice_lit_subscriptTail_Name_Slice_ref_ref"); intro D' h' F' N' l1; (try k_lt l1)))
local macro_rules | `(tactic| walk_at "compareOp In str ref") => `(tactic| (k_dflt (k_extra "z_in_view_compareOp_In_str_ref"); intro h' tk' F' N'))
local macro_rules | `(tactic| walk_at "setItem ref int") => `(tactic| (k_dflt (k_extra "z_set_pa_setItem_ref_int"); intro h' o' kvs' F' N' hd' hp'; (try dsimp only at N')))
local macro_rules | `(tactic| walk_at "call ref") => `(tactic| (k_dflt (k_extra "z_use_draw_call_ref"); intro j' t' x' tx' y' ty' h' tk' hj' hP' F' N'; (try dsimp only at N')))
local macro_rules | `(tactic| walk_at "call builtin:list.pop") => `(tactic| (k_dflt (k_extra "z_pop_strs_call_builtin_list_pop"); intro h' x' t' e' F' N' s'))
local macro_rules | `(tactic| walk_at "call builtin:list.append") => `(tactic| (k_dflt (k_extra "z_append_u_call_builtin_list_append"); intro h' F' N'))
local macro_rules | `(tactic| k_all) => `(tactic| k_extra "z_k_all")
local macro_rules | `(tactic| walk_at "subscriptTail Name Name ref int") => `(tactic| (k_dflt (k_extra "z_item_menu_subscriptTail_Name_Name_ref_int"); intro v' y' e' r'))
local macro_rules | `(tactic| walk_at "call type:list") => `(tactic| (k_dflt (k_extra "z_list_led_call_type_list"); intro D' c' h' F' N' l1; (try k_lt l1)))
local macro_rules | `(tactic| walk_at "subscriptTail Name Name ref int") => `(tactic| (k_dflt (k_extra "z_item_val_subscriptTail_Name_Name_ref_int"); intro v' e'))
abbrev Tag := Option Str
abbrev Pl := List (Str × Nat)
def hasP (pl : Pl) (k : Str) : Bool := pl.any fun p => decide (p.1 = k)
def dots : Str := Str.ofString "..."
def dblText (name : Str) : Str := Str.ofString "formal argument \"" ++ name ++ Str.ofString "\" matched by multiple actual arguments"
def foldE {α σ ε : Type} (f : σ → α → Except ε σ) : List α → σ → Except ε σ
  | [], s => .ok s
  | a :: r, s => match f s a with
    | .ok s' => foldE f r s'
    | .error m => .error m
theorem foldE_append {α σ ε : Type} (f : σ → α → Except ε σ) (l₁ l₂ : List α) (s : σ) :
    foldE f (l₁ ++ l₂) s = (match foldE f l₁ s with | .ok s' => foldE f l₂ s' | .error m => .error m) := by
  induction l₁ generalizing s with
  | nil => rfl
  | cons a r ih =>
    simp only [List.cons_append, foldE]
    cases f s a with
    | ok s' => exact ih s'
    | error m => rfl
theorem foldE_snoc {α σ ε : Type} {f : σ → α → Except ε σ} {l : List α} {a : α} {s s' : σ} (h : foldE f l s = .ok s') : foldE f (l ++ [a]) s = f s' a := by
  rw [foldE_append, h]
  simp only [foldE]
  cases f s' a <;> rfl
theorem foldE_err {α σ ε : Type} {f : σ → α → Except ε σ} {l post : List α} {a : α} {s s' : σ} {m : ε} (h : foldE f l s = .ok s') (h2 : f s' a = .error m) : foldE f (l ++ a :: post) s = .error m := by
  rw [foldE_append, h]
  simp only [foldE, h2]
theorem range_split {i n : Nat} (h : i < n) : ∃ post, List.range n = List.range i ++ i :: post := by
  refine ⟨(List.range (n - i - 1)).map (i + 1 + ·), ?_⟩
  have h1 : n = (i + 1) + (n - i - 1) := by omega
  conv => lhs; rw [h1, List.range_add, List.range_succ]
  simp
theorem foldE_range_err {σ ε : Type} {f : σ → Nat → Except ε σ} {i n : Nat} {s s' : σ} {m : ε} (hi : i < n) (h : foldE f (List.range i) s = .ok s') (h2 : f s' i = .error m) : foldE f (List.range n) s = .error m := by
  obtain ⟨post, e⟩ := range_split hi
  rw [e]; exact foldE_err h h2
theorem foldE_range_succ {σ ε : Type} {f : σ → Nat → Except ε σ} {i : Nat} {s s' : σ} (h : foldE f (List.range i) s = .ok s') : foldE f (List.range (i + 1)) s = f s' i := by
  rw [List.range_succ]; exact foldE_snoc h
theorem foldE_take_succ {α σ ε : Type} {f : σ → α → Except ε σ} {l : List α} {i : Nat} {a : α} {s s' : σ} (ha : l[i]? = some a) (h : foldE f (l.take i) s = .ok s') : foldE f (l.take (i + 1)) s = f s' a := by
  rw [List.take_add_one, ha]; exact foldE_snoc h
theorem foldE_take_err {α σ ε : Type} {f : σ → α → Except ε σ} {l : List α} {i : Nat} {a : α} {s s' : σ} {m : ε} (ha : l[i]? = some a) (h : foldE f (l.take i) s = .ok s') (h2 : f s' a = .error m) : foldE f l s = .error m := by
  have e : l = l.take i ++ a :: l.drop (i + 1) := by
    have hs : l.take (i + 1) = l.take i ++ [a] := by simp [List.take_add_one, ha]
    have ht := List.take_append_drop (i + 1) l
    rw [hs, List.append_assoc] at ht
    exact ht.symm
  rw [e]; exact foldE_err h h2
theorem foldE_inv {α σ ε : Type} {f : σ → α → Except ε σ} (I : σ → Nat → Prop) {s : σ} (h0 : I s 0) (st : ∀ s a s' i, I s i → f s a = .ok s' → I s' (i + 1)) : ∀ (l : List α) s', foldE f l s = .ok s' → I s' l.length := by
  have gen : ∀ (l : List α) (s : σ) (i : Nat), I s i → ∀ s', foldE f l s = .ok s' → I s' (i + l.length) := by
    intro l
    induction l with
    | nil => intro s i h s' e; cases e; exact h
    | cons a r ih =>
      intro s i h s' e
      simp only [foldE] at e
      cases hf : f s a with
      | ok s₁ =>
        rw [hf] at e
        have := ih s₁ (i + 1) (st _ _ _ _ h hf) s' e
        rwa [List.length_cons, show i + (r.length + 1) = i + 1 + r.length by omega]
      | error m => rw [hf] at e; cases e
  intro l s' e
  have := gen l s 0 h0 s' e
  rwa [Nat.zero_add] at this
/-! exact -/
abbrev St := List Int × Pl
def exStep (tags : List Tag) (name : Str) (st : St) (j : Nat) : Except Str St :=
  if tags[j]? = some (some name) ∧ st.1[j]? = some 0 then
    if hasP st.2 name then .error (dblText name) else .ok (st.1.set j 2, st.2 ++ [(name, j)])
  else .ok st
def exOf (tags : List Tag) (name : Str) (st : St) : Except Str St := foldE (exStep tags name) (List.range tags.length) st
def exName (tags : List Tag) (st : St) (name : Str) : Except Str St := if name = dots then .ok st else exOf tags name st
def exAll (tags : List Tag) (formals : List Str) (st : St) : Except Str St := foldE (exName tags) formals st
theorem exStep_len {tags : List Tag} {name : Str} {st st' : St} {j : Nat} (h : exStep tags name st j = .ok st') : st'.1.length = st.1.length ∧ st'.2.length ≤ st.2.length + 1 := by
  unfold exStep at h
  split at h
  · split at h
    · cases h
    · cases h; simp
  · cases h; simp
theorem exRange_len {tags : List Tag} {name : Str} {st st' : St} {n : Nat} (h : foldE (exStep tags name) (List.range n) st = .ok st') : st'.1.length = st.1.length ∧ st'.2.length ≤ st.2.length + n := by
  have := foldE_inv (f := exStep tags name) (fun (s : St) i => s.1.length = st.1.length ∧ s.2.length ≤ st.2.length + i) (s := st) ⟨rfl, by omega⟩ (fun s a s' i hi hs => by
    have := exStep_len hs
    omega) _ _ h
  simpa using this
theorem exName_len {tags : List Tag} {st st' : St} {name : Str} (h : exName tags st name = .ok st') : st'.1.length = st.1.length ∧ st'.2.length ≤ st.2.length + tags.length := by
  unfold exName at h
  split at h
  · cases h; omega
  · exact exRange_len h
theorem exTake_len {tags : List Tag} {fs : List Str} {st st' : St} {n : Nat} (hn : n ≤ fs.length) (h : foldE (exName tags) (fs.take n) st = .ok st') : st'.1.length = st.1.length ∧ st'.2.length ≤ st.2.length + n * tags.length := by
  have := foldE_inv (f := exName tags) (fun (s : St) i => s.1.length = st.1.length ∧ s.2.length ≤ st.2.length + i * tags.length) (s := st) ⟨rfl, by omega⟩ (fun s a s' i hi hs => by
    have := exName_len hs
    rw [Nat.add_mul]
    omega) _ _ h
  rw [List.length_take, Nat.min_eq_left hn] at this
  exact this
theorem getD_is {us : List Int} {j : Nat} {v : Int} (hj : j < us.length) (h : us.getD ((j : Int)).toNat 0 = v) : us[j]? = some v := by
  have e : ((j : Int)).toNat = j := by omega
  rw [e] at h
  rw [List.getElem?_eq_getElem hj]
  simp [List.getD, List.getElem?_eq_getElem hj] at h
  rw [h]
theorem getD_not {us : List Int} {j : Nat} {v : Int} (hj : j < us.length) (h : us.getD ((j : Int)).toNat 0 ≠ v) : us[j]? ≠ some v := by
  intro q
  have e : ((j : Int)).toNat = j := by omega
  rw [e] at h
  simp [List.getD, q] at h
theorem toNat_nat (j : Nat) : ((j : Int)).toNat = j := by omega
theorem exStep_hit {ts : List Tag} {nm x : Str} {us : List Int} {pl : Pl} {j : Nat} (e : ts[j]? = some (some x)) (hx : (x == nm) = true) (hj : j < us.length) (hu : us.getD ((j : Int)).toNat 0 = 0) :
    exStep ts nm (us, pl) j = if hasP pl nm then .error (dblText nm) else .ok (us.set ((j : Int)).toNat 2, pl ++ [(nm, j)]) := by
  have hx' : x = nm := by simpa using hx
  subst hx'
  unfold exStep
  rw [if_pos ⟨e, getD_is hj hu⟩, toNat_nat]
theorem exStep_miss1 {ts : List Tag} {nm x : Str} {st : St} {j : Nat} (e : ts[j]? = some (some x)) (hx : (x == nm) = false) : exStep ts nm st j = .ok st := by
  unfold exStep
  rw [if_neg]
  rintro ⟨h, _⟩
  rw [e] at h
  simp only [Option.some.injEq] at h
  subst h
  simp at hx
theorem exStep_miss2 {ts : List Tag} {nm : Str} {st : St} {j : Nat} (e : ts[j]? = some none) : exStep ts nm st j = .ok st := by
  unfold exStep
  rw [if_neg]
  rintro ⟨h, _⟩
  rw [e] at h
  simp at h
theorem exStep_miss3 {ts : List Tag} {nm : Str} {us : List Int} {pl : Pl} {j : Nat} (hj : j < us.length) (hu : us.getD ((j : Int)).toNat 0 ≠ 0) : exStep ts nm (us, pl) j = .ok (us, pl) := by
  unfold exStep
  rw [if_neg]
  rintro ⟨_, h⟩
  exact getD_not hj hu h
theorem exName_of {ts : List Tag} {nm : Str} {st : St} (h : nm ≠ dots) : exName ts st nm = exOf ts nm st := by
  unfold exName; rw [if_neg h]
theorem exName_dots {ts : List Tag} {st : St} : exName ts st dots = .ok st := by
  unfold exName; rw [if_pos rfl]
/-! positional, rest -/
def emp : Str := Str.ofString ""
def tagFree : Tag → Bool
  | none => true
  | some x => x == emp
def freeB (us : List Int) (ts : List Tag) (j : Nat) : Bool := decide (us.getD j 0 = 0) && tagFree (ts.getD j (some dots))
theorem freeB_used {us : List Int} {ts : List Tag} {j : Nat} (h : us.getD ((j : Int)).toNat 0 ≠ 0) : freeB us ts j = false := by
  rw [toNat_nat] at h
  unfold freeB
  rw [decide_eq_false h]; rfl
theorem freeB_none {us : List Int} {ts : List Tag} {j : Nat} (h : us.getD ((j : Int)).toNat 0 = 0) (e : ts[j]? = some none) : freeB us ts j = true := by
  rw [toNat_nat] at h
  unfold freeB
  rw [decide_eq_true h, List.getD_eq_getElem?_getD, e]; rfl
theorem freeB_str {us : List Int} {ts : List Tag} {j : Nat} {x : Str} (h : us.getD ((j : Int)).toNat 0 = 0) (e : ts[j]? = some (some x)) : freeB us ts j = (x == emp) := by
  rw [toNat_nat] at h
  unfold freeB
  rw [decide_eq_true h, List.getD_eq_getElem?_getD, e]; rfl
def ahead (fs : List Str) : List Str := fs.takeWhile fun f => decide (f ≠ dots)
theorem ahead_at {fs : List Str} {i : Nat} (hi : fs[i]? = some dots) (h : ∀ f ∈ fs.take i, f ≠ dots) : ahead fs = fs.take i := by
  unfold ahead
  induction fs generalizing i with
  | nil => simp at hi
  | cons f r ih =>
    cases i with
    | zero =>
      simp only [List.getElem?_cons_zero, Option.some.injEq] at hi
      simp [hi]
    | succ i =>
      simp only [List.take_succ_cons, List.mem_cons, forall_eq_or_imp] at h
      rw [List.takeWhile_cons, if_pos (by simpa using h.1), List.take_succ_cons, ih (by simpa using hi) h.2]
theorem ahead_all {fs : List Str} (h : ∀ f ∈ fs, f ≠ dots) : ahead fs = fs := by
  unfold ahead
  induction fs with
  | nil => rfl
  | cons f r ih =>
    simp only [List.mem_cons, forall_eq_or_imp] at h
    rw [List.takeWhile_cons, if_pos (by simpa using h.1), ih h.2]
theorem ahead_take {fs : List Str} {i : Nat} {nm : Str} (hi : fs[i]? = some nm) (hn : nm ≠ dots) (h : ∀ f ∈ fs.take i, f ≠ dots) : ∃ post, ahead fs = fs.take i ++ nm :: post := by
  unfold ahead
  induction fs generalizing i with
  | nil => simp at hi
  | cons f r ih =>
    cases i with
    | zero =>
      simp only [List.getElem?_cons_zero, Option.some.injEq] at hi
      subst hi
      exact ⟨_, by rw [List.takeWhile_cons, if_pos (by simpa using hn)]; rfl⟩
    | succ i =>
      simp only [List.take_succ_cons, List.mem_cons, forall_eq_or_imp] at h
      obtain ⟨post, e⟩ := ih (by simpa using hi) h.2
      exact ⟨post, by rw [List.takeWhile_cons, if_pos (by simpa using h.1), List.take_succ_cons, e]; rfl⟩
theorem take_snoc_ne {fs : List Str} {i : Nat} {nm : Str} (hi : fs[i]? = some nm) (hn : nm ≠ dots) (h : ∀ f ∈ fs.take i, f ≠ dots) : ∀ f ∈ fs.take (i + 1), f ≠ dots := by
  intro f hf
  rw [List.take_add_one, hi] at hf
  rcases List.mem_append.mp hf with hf | hf
  · exact h f hf
  · simp at hf; rw [hf]; exact hn
def scan (us : List Int) (ts : List Tag) (n : Nat) : Nat → Nat → Nat
  | 0, p => p
  | f + 1, p => if p < n ∧ freeB us ts p = false then scan us ts n f (p + 1) else p
def scanF (us : List Int) (ts : List Tag) (p : Nat) : Nat := scan us ts ts.length (ts.length - p) p
theorem scanF_step {us : List Int} {ts : List Tag} {p : Nat} (h : p < ts.length) (hf : freeB us ts p = false) : scanF us ts p = scanF us ts (p + 1) := by
  unfold scanF
  rw [show ts.length - p = (ts.length - (p + 1)) + 1 by omega]
  show (if p < ts.length ∧ freeB us ts p = false then _ else _) = _
  rw [if_pos ⟨h, hf⟩]
theorem scanF_stop {us : List Int} {ts : List Tag} {p : Nat} (h : ts.length ≤ p ∨ freeB us ts p = true) : scanF us ts p = p := by
  unfold scanF
  cases e : ts.length - p with
  | zero => rfl
  | succ f =>
    show (if p < ts.length ∧ freeB us ts p = false then _ else _) = _
    rw [if_neg]
    rintro ⟨a, b⟩
    rcases h with h | h
    · omega
    · rw [h] at b; cases b
theorem scan_le {us : List Int} {ts : List Tag} {n : Nat} : ∀ f p, p ≤ n → scan us ts n f p ≤ n := by
  intro f
  induction f with
  | zero => intro p h; exact h
  | succ f ih =>
    intro p h
    unfold scan
    split
    · exact ih _ (by omega)
    · exact h
def posStep (ts : List Tag) (st : St × Nat) (nm : Str) : St × Nat :=
  if hasP st.1.2 nm then st else
    let q := scanF st.1.1 ts st.2
    if q < ts.length then ((st.1.1.set q 2, st.1.2 ++ [(nm, q)]), q) else (st.1, q)
def posE (ts : List Tag) (st : St × Nat) (nm : Str) : Except Str (St × Nat) := .ok (posStep ts st nm)
def posAll (ts : List Tag) (fs : List Str) (st : St) : St := (fs.foldl (posStep ts) (st, 0)).1
theorem foldE_ok {α σ ε : Type} (f : σ → α → σ) : ∀ (l : List α) (s : σ), foldE (ε := ε) (fun s a => .ok (f s a)) l s = .ok (l.foldl f s)
  | [], _ => rfl
  | a :: r, s => foldE_ok f r (f s a)
theorem posE_all {ts : List Tag} {l : List Str} {st : St} {st' : St × Nat} (h : foldE (posE ts) l (st, 0) = .ok st') : st'.1 = posAll ts l st := by
  have := foldE_ok (ε := Str) (posStep ts) l (st, 0)
  have h' : foldE (fun s a => Except.ok (posStep ts s a)) l (st, 0) = .ok st' := h
  rw [this] at h'
  cases h'; rfl
theorem posE_len {ts : List Tag} {st st' : St × Nat} {nm : Str} (h : posE ts st nm = .ok st') (hq : st.2 ≤ ts.length) : st'.1.1.length = st.1.1.length ∧ st'.1.2.length ≤ st.1.2.length + 1 ∧ st'.2 ≤ ts.length := by
  unfold posE posStep at h
  cases h
  have hs : scanF st.1.1 ts st.2 ≤ ts.length := scan_le _ _ hq
  split
  · exact ⟨rfl, by omega, hq⟩
  · dsimp only
    split
    · exact ⟨by simp, by simp, hs⟩
    · exact ⟨rfl, by simp, hs⟩
theorem posTake_len {ts : List Tag} {l : List Str} {st : St} {st' : St × Nat} (h : foldE (posE ts) l (st, 0) = .ok st') : st'.1.1.length = st.1.length ∧ st'.1.2.length ≤ st.2.length + l.length ∧ st'.2 ≤ ts.length := by
  exact foldE_inv (f := posE ts) (fun (s : St × Nat) i => s.1.1.length = st.1.length ∧ s.1.2.length ≤ st.2.length + i ∧ s.2 ≤ ts.length) (s := (st, 0)) ⟨rfl, by simp, Nat.zero_le _⟩ (fun s a s' i hi hs => by
    have := posE_len hs hi.2.2
    omega) _ _ h
/-! partial -/
def argText (j : Nat) : Str := Str.empty ++ Str.ofString "argument " ++ Str.ofString (toString ((j : Int) + 1)) ++ Str.ofString " matches multiple formal arguments"
def paHit (nm : Str) : Tag → Bool
  | none => false
  | some x => (x != emp) && Txt.startswith nm x
def paStep (ts : List Tag) (nm : Str) (st : St) (j : Nat) : Except Str St :=
  if st.1.getD j 0 ≠ 2 ∧ paHit nm (ts.getD j none) = true then
    if st.1.getD j 0 = 1 then .error (argText j) else if hasP st.2 nm then .error (dblText nm) else .ok (st.1.set j 1, st.2 ++ [(nm, j)])
  else .ok st
def paOf (ts : List Tag) (nm : Str) (st : St) : Except Str St := foldE (paStep ts nm) (List.range ts.length) st
def paName (ts : List Tag) (st : St) (nm : Str) : Except Str St := if hasP st.2 nm then .ok st else paOf ts nm st
def paAll (ts : List Tag) (fs : List Str) (st : St) : Except Str St := foldE (paName ts) fs st
theorem paHit_at {ts : List Tag} {nm x : Str} {j : Nat} (e : ts[j]? = some (some x)) : paHit nm (ts.getD j none) = ((x != emp) && Txt.startswith nm x) := by
  rw [List.getD_eq_getElem?_getD, e]; rfl
theorem paHit_none {ts : List Tag} {nm : Str} {j : Nat} (e : ts[j]? = some none) : paHit nm (ts.getD j none) = false := by
  rw [List.getD_eq_getElem?_getD, e]; rfl
theorem paStep_miss {ts : List Tag} {nm : Str} {st : St} {j : Nat} (h : paHit nm (ts.getD j none) = false) : paStep ts nm st j = .ok st := by
  unfold paStep
  rw [if_neg]
  rintro ⟨_, q⟩
  rw [h] at q; cases q
theorem paStep_two {ts : List Tag} {nm : Str} {us : List Int} {pl : Pl} {j : Nat} (h : us.getD ((j : Int)).toNat 0 = 2) : paStep ts nm (us, pl) j = .ok (us, pl) := by
  rw [toNat_nat] at h
  unfold paStep
  rw [if_neg]
  rintro ⟨q, _⟩
  exact q h
theorem paStep_one {ts : List Tag} {nm : Str} {us : List Int} {pl : Pl} {j : Nat} (hh : paHit nm (ts.getD j none) = true) (h : us.getD ((j : Int)).toNat 0 = 1) : paStep ts nm (us, pl) j = .error (argText j) := by
  rw [toNat_nat] at h
  unfold paStep
  rw [if_pos ⟨by dsimp only; rw [h]; decide, hh⟩, if_pos h]
theorem paStep_dbl {ts : List Tag} {nm : Str} {us : List Int} {pl : Pl} {j : Nat} (hh : paHit nm (ts.getD j none) = true) (h2 : us.getD ((j : Int)).toNat 0 ≠ 2) (h1 : us.getD ((j : Int)).toNat 0 ≠ 1) (hp : hasP pl nm = true) : paStep ts nm (us, pl) j = .error (dblText nm) := by
  rw [toNat_nat] at h1 h2
  unfold paStep
  rw [if_pos ⟨h2, hh⟩, if_neg h1, if_pos hp]
theorem paStep_ok {ts : List Tag} {nm : Str} {us : List Int} {pl : Pl} {j : Nat} (hh : paHit nm (ts.getD j none) = true) (h2 : us.getD ((j : Int)).toNat 0 ≠ 2) (h1 : us.getD ((j : Int)).toNat 0 ≠ 1) (hp : hasP pl nm = false) : paStep ts nm (us, pl) j = .ok (us.set ((j : Int)).toNat 1, pl ++ [(nm, j)]) := by
  rw [toNat_nat] at h1 h2 ⊢
  unfold paStep
  rw [if_pos ⟨h2, hh⟩, if_neg h1, if_neg (by dsimp only; rw [hp]; decide)]
theorem paStep_len {ts : List Tag} {nm : Str} {st st' : St} {j : Nat} (h : paStep ts nm st j = .ok st') : st'.1.length = st.1.length ∧ st'.2.length ≤ st.2.length + 1 := by
  unfold paStep at h
  split at h
  · split at h
    · cases h
    · split at h
      · cases h
      · cases h; simp
  · cases h; simp
theorem paRange_len {ts : List Tag} {nm : Str} {st st' : St} {n : Nat} (h : foldE (paStep ts nm) (List.range n) st = .ok st') : st'.1.length = st.1.length ∧ st'.2.length ≤ st.2.length + n := by
  have := foldE_inv (f := paStep ts nm) (fun (s : St) i => s.1.length = st.1.length ∧ s.2.length ≤ st.2.length + i) (s := st) ⟨rfl, by omega⟩ (fun s a s' i hi hs => by
    have := paStep_len hs
    omega) _ _ h
  simpa using this
abbrev Ar (dp un : Nat) (gd : Option (List Code)) (envs : List Env) : Around := { handled := none, depth := dp, frames := some envs, guards := gd, units := un }
structure Gr (w : World) (mean : ExcName → Option Value) (mg mb : Str → Option Value) (base : Heap) : Prop where
  kin : (hd.heap_39 w.params).In base
  top : Top hd.view_39 (looseW hd.view_39 [Str.ofString "match_names", Str.ofString "take"]) mean mg mb base
structure At (base : Heap) (envs : List Env) (h : Heap) (T : List (Addr × Obj)) : Prop where
  stays : base.StaysIn h
  frames : h.FunFrames base envs
  news : ∀ p ∈ T, h.get? p.1 = some p.2 ∧ base.get? p.1 = none
  apart : ∀ p ∈ T, ∀ env ∈ envs, env.frame ≠ some p.1
def Back (g : Heap) (s : Shared) (D : Value → List (Addr × Obj) → Prop) (v : Value) (s' : Shared) : Prop :=
  ∃ L m news h tk, s' = { s with heap := h, toks := tk } ∧ Fr g L h m ∧ News g L h news ∧ D v news
/-- what a call leaves -/
structure Left (s : Shared) (T : List (Addr × Obj)) (D : Value → List (Addr × Obj) → Prop) (v : Value) (h : Heap) : Prop where
  keep : ∀ b o, s.heap.get? b = some o → b ∉ T.map (·.1) → h.get? b = some o
  now : ∃ T', D v T' ∧ ∀ p ∈ T', h.get? p.1 = some p.2 ∧ (p.1 ∈ T.map (·.1) ∨ s.heap.get? p.1 = none)
section
variable {w : World} {mean : ExcName → Option Value} {mg mb : Str → Option Value} {base : Heap} {envs : List Env} {s : Shared} {T : List (Addr × Obj)} {A : Around} {prog : Program}
  {name qual : Str} {params : Arguments} {body : List Stmt} {scope : Scope} {dV kV doc pm cdv ct oc : Value} {an od : Option Addr} {osl : Array (Option Value)} {f : Addr} {args : Args} {binds : List (Str × Value)}
  {R : Result → Shared → Prop} {D : Value → List (Addr × Obj) → Prop}
theorem ground (a : At base envs s.heap T) :
    base.StaysIn (hideAll s.heap (T.map (·.1))) ∧ (hideAll s.heap (T.map (·.1))).FunFrames base envs := by
  have nm : ∀ b o, base.get? b = some o → b ∉ T.map (·.1) := fun b o e q => by
    obtain ⟨p, hp, rfl⟩ := List.mem_map.mp q
    rw [(a.news p hp).2] at e; cases e
  refine ⟨fun b o e => hideAll_get _ (a.stays b o e) (nm b o e), funFrames_hideAll a.frames fun env he b hb q => ?_⟩
  obtain ⟨p, hp, rfl⟩ := List.mem_map.mp hb
  exact a.apart p hp env he q
theorem enter (G : Gr w mean mg mb base) (a : At base envs s.heap T) (hfr : A.frames = some envs) (hroom : A.depth < recursionLimit)
    (ho : (hd.heap_39 w.params).lookup f = some ⟨oc, od, .func (fnOf name qual params body scope dV kV doc pm an cdv ct), osl⟩) (hcd : codeIn (hd.heap_39 w.params) cdv qual = true)
    (hbind : BindsTo s (fnOf name qual params body scope dV kV doc pm an cdv ct) args binds) (hloc : ∀ y ∈ binds, scope.names.lookup y.1 = some .local)
    (h : ∀ g L' h₁, Fr g L' h₁ (fun y => binds.reverse.lookup y) → News g L' h₁ T → Below A base envs g → (hd.heap_39 w.params).In g → Top hd.view_39 (looseW hd.view_39 [Str.ofString "match_names", Str.ofString "take"]) mean mg mb g → (∀ p ∈ T, p.1 < L') →
      wpAny (model prog w) (A.deeper (envOf qual scope L' f cdv)) (execs body (envOf qual scope L' f cdv))
        (fun fl s' => Back g s D (match fl with | .ret v => v | _ => .none) s') (fun _ _ => False)
        { s with heap := h₁, toks := s.toks + binds.length })
    (k : ∀ v h' tk', Left s T D v h' → R (.ok (.ret v)) { s with heap := h', toks := tk' })
    (hco : scope.isCoroutine = false) (hgen : scope.isGenerator = false) (hk : scope.kind = .function)
    (hcell : ∀ x ∈ scope.names, x.2 ≠ .cell) : codeAny (model prog w) A (.call (.ref f) args) R s := by
  obtain ⟨st, ff⟩ := ground a
  have X2 := G.kin.keeps st
  have T2 := G.top.keeps st
  have X : (hd.heap_39 w.params).In s.heap := G.kin.keeps a.stays
  refine codeAny_call_def (fd := fnOf name qual params body scope dV kV doc pm an cdv ct) (body := body) (binds := binds) hroom (X _ _ ho) rfl (G.top.nolimit.keeps a.stays) (codeRec_of X hcd) rfl hbind hcell hloc (fun h₁ hns hk₁ => ?_) hco hgen hk
  refine wpAny_mono (h (hideAll s.heap (T.map (·.1))) s.heap.objs.size h₁ ⟨hns, fun b o e => hk₁ b o (of_hideAll _ e), Nat.le_of_eq (hideAll_size _ _)⟩
    (fun p hp => ⟨hk₁ _ _ (a.news p hp).1, Nat.ne_of_lt (Heap.lt_size (a.news p hp).1), hideAll_none _ (List.mem_map_of_mem hp)⟩)
    ⟨hfr, st, ff⟩ X2 T2 (fun p hp => Heap.lt_size (a.news p hp).1)) (fun fl s' hl => ?_) fun _ _ y => y.elim
  obtain ⟨L, m, news, h', tk, rfl, F, N, hD⟩ := hl
  refine k _ h' tk ⟨fun b o e hb => F.keep b o (hideAll_get _ e hb), news, hD, fun p hp => ⟨(N p hp).1, ?_⟩⟩
  by_cases hm : p.1 ∈ T.map (·.1)
  · exact .inl hm
  · right
    cases q : s.heap.get? p.1 with
    | none => rfl
    | some o => have := (N p hp).2.2; rw [hideAll_get _ q hm] at this; cases this
end
theorem sub_nil {α : Type} {l : List α} : ∀ p ∈ ([] : List α), p ∈ l := fun _ h => nomatch h
theorem sub_refl {α : Type} {l : List α} : ∀ p ∈ l, p ∈ l := fun _ h => h
theorem sub_cons {α : Type} {a : α} {l' l : List α} (h : a ∈ l) (r : ∀ p ∈ l', p ∈ l) : ∀ p ∈ a :: l', p ∈ l := fun p hp => by
  rcases List.mem_cons.mp hp with rfl | hp
  · exact h
  · exact r p hp
theorem sub_tail {α : Type} {a : α} {l' l : List α} (r : ∀ p ∈ l', p ∈ l) : ∀ p ∈ l', p ∈ a :: l := fun p hp => .tail _ (r p hp)
theorem allP_nil {α : Type} {P : α → Prop} : ∀ p ∈ ([] : List α), P p := fun _ h => nomatch h
theorem allP_cons {α : Type} {P : α → Prop} {a : α} {l : List α} (h : P a) (r : ∀ p ∈ l, P p) : ∀ p ∈ a :: l, P p := fun p hp => by
  rcases List.mem_cons.mp hp with rfl | hp
  · exact h
  · exact r p hp
theorem hide {G : Prop} (h : ∀ P : Prop, (G → P) → P) : G := h G id
theorem cleanE11 : True := by
  w_top off
  k_with_none
  exact trivial
theorem fillit : (PySem.Challenge.rw_no0499_01 = PySem.Challenge.rw_no0499_01) ∧ hd.heap_39 = hd.heap_39 := by
  k_fill
  exact ⟨rfl, rfl⟩
theorem cls44 (P : Params) : ∃ nm q bs sn sub ab col dd k0 k1 k2 k3 k5, (hd.heap_39 P).lookup 44 = some (excClassObj nm q 44 43 bs [.ref 24, .type "Exception", .type "BaseException", .type "object"] true sn sub ab col dd k0 k1 k2 k3 k5 "Exception.__new__") :=
  ⟨_, _, _, _, _, _, _, _, _, _, _, _, _, by k_is⟩
theorem tail24 (P : Params) : tailIn (hd.heap_39 P) [.type "Exception", .type "BaseException", .type "object"] [.ref 24, .type "Exception", .type "BaseException", .type "object"] = true := by
  kernel_rfl
abbrev excBm : List Value := [.type "Exception", .type "BaseException", .type "object"]
/-- the exception as it is made -/
abbrev freshExc (t : Addr) : Obj := { cls := .ref 44, data := .fields #[.ref t, .none, .none, .none, .bool false, .none] }
section
variable {prog : Program} {w : World} {A : Around} {E : Value → Shared → Prop} {h : Heap} {g : Array GenState} {d : Drawn} {t : Nat} {os : OsState}
theorem refusal_typecall (X : (hd.heap_39 w.params).In h) {v : Value} {Q : Fin → Shared → Prop}
    (hq : ∀ h' e, Heap.MadeExcOf h h' e (.ref 44) [v] →
      wpAny (model prog w) A (call (.ref 41) [.ref e, v]) (fun r s' => r = .none ∧ Q (.done (.ret (.ref e))) s') E ⟨h', g, d, t, os⟩) :
    wpAny (model prog w) A (Builtin.«type.__call__» ⟨[.ref 44, v], []⟩) Q E ⟨h, g, d, t, os⟩ := by
  obtain ⟨nm, q, bs, sn, sub, ab, col, dd, k0, k1, k2, k3, k5, hK⟩ := cls44 w.params
  have hC := X _ _ hK
  have T := tail_of_in X (tail24 w.params)
  have F := PySem.F.excBase_Exception
  have hI : Looks (model prog w) h (typeLookup (.ref 44) "__init__") (some (.ref 41)) := looks_findIn X (by k_is)
  have hB : ∀ self, Looks (model prog w) h (bindSpecial (.ref 41) self) (.ref 41, [self]) := fun self => bind_fn X self (by k_is)
  repeat (first | with_reducible refine wpAny_loadPart_at hC ?_ | with_reducible refine wpAny_madeBy_exc hC ?_ | wp_step)
  refine codeAny_call_builtin_code (Code.quiet_builtin _ F.quiet) (wpAny_check_new_subT F T hC ?_)
  refine codeAny_exc_new_subT F T hC ?_ (by size_fits)
  show wpAny _ _ _ _ _ _
  have keep : ∀ b o, h.get? b = some o → ((h.push { cls := .type "tuple", data := .seq [v].toArray }).push (freshExc h.objs.size)).get? b = some o :=
    fun b o e => Heap.get?_push_of_some _ (Heap.get?_push_of_some _ e)
  have hC₁ := keep _ _ hC
  have hget : ((h.push { cls := .type "tuple", data := .seq [v].toArray }).push (freshExc h.objs.size)).get? (h.objs.size + 1) = some (freshExc h.objs.size) := by heap_get
  have hcC : (Value.ref 44 :: [.ref 24, .type "Exception", .type "BaseException", .type "object"]).contains (.ref 44) = true := by simp
  unfold isInstance
  repeat (first | with_reducible refine wpAny_loadPart_at hget ?_ | (with_reducible refine wpAny_isSubtype_exc hC₁ ?_; rw [hcC]) | wp_step)
  show wpAny _ _ (typeLookup (.ref 44) _) _ _ _
  refine (hI.keeps keep).here ?_
  refine wpAny_holding (wpAny_bind ((hB _).keeps keep |>.here ?_))
  refine (wpAny_bind (wpAny_mono (hq _ (h.objs.size + 1) ⟨keep, Heap.get?_none_of_le (Nat.le_succ _), h.objs.size, hget, Heap.get?_none_of_le (Nat.le_refl _), ?_⟩) (fun r s' hr => ?_) fun _ _ x => x))
  · exact Heap.get?_push_of_some _ (Heap.get?_push_at rfl rfl)
  · obtain ⟨rfl, hQ⟩ := hr
    wp_walk
    exact hQ
theorem refusal_call (X : (hd.heap_39 w.params).In h) {v : Value} {Q : Value → Shared → Prop}
    (hq : ∀ h' e, Heap.MadeExcOf h h' e (.ref 44) [v] →
      wpAny (model prog w) (A.under (.builtin "type.__call__" ⟨[.ref 44, v], []⟩)) (call (.ref 41) [.ref e, v]) (fun r s' => r = .none ∧ Q (.ref e) s') E ⟨h', g, d, t, os⟩) :
    wpAny (model prog w) A (call (.ref 44) [v]) Q E ⟨h, g, d, t, os⟩ := by
  obtain ⟨nm, q, bs, sn, sub, ab, col, dd, k0, k1, k2, k3, k5, hK⟩ := cls44 w.params
  have hC := X _ _ hK
  have f1 := tc_lookup
  have f2 := tc_bind (.ref 44)
  have hT : (⟨h, g, d, t, os⟩ : Shared).TypeIs (.ref 44) "type" := ⟨_, hC, rfl⟩
  refine wpAny_call (codeAny_of_tree ?_)
  show wpAny _ _ (callAny (.ref 44) _) _ _ _
  repeat (any_goals (first | assumption | with_reducible refine wpAny_loadPart_at hC ?_ | wp_step))
  refine ⟨rfl, ?_⟩
  refine codeAny_call_builtin_at (Code.quiet_builtin _ (by decide +kernel)) entry_typeCall (wpAny_check_type_call_sub hC (refusal_typecall X fun h' e hm => ?_))
  exact hq h' e hm
end
section
open PySem PySem.W PyProof.Rows PySem.Calls Builtin Builtin.ObjectAttr
theorem cleanE22 : True := by
  w_top off
  k_with_none
  exact trivial
theorem fillit2 : (PySem.Challenge.rw_no0499_01 = PySem.Challenge.rw_no0499_01) ∧ hd.heap_39 = hd.heap_39 := by
  k_fill
  exact ⟨rfl, rfl⟩
section
variable {prog : Program} {w : World} {A : Around} {E : Value → Shared → Prop} {h : Heap} {g : Array GenState} {d : Drawn} {t : Nat} {os : OsState}
theorem exc_store (X : (hd.heap_39 w.params).In h) {e t₀ : Addr} {v : Value} {Q : Unit → Shared → Prop} (he : h.get? e = some (freshExc t₀))
    (hq : ∀ h' tk', h'.get? e = some { freshExc t₀ with dict := some h.objs.size } → h'.Ns1 h.objs.size (fun y => if y = Str.ofString "message" then some v else none) →
      (∀ b o, b ≠ e → h.get? b = some o → h'.get? b = some o) → Q () ⟨h', g, d, tk', os⟩) :
    wpAny (model prog w) A (setAttr (.ref e) (Str.ofString "message") v) Q E ⟨h, g, d, t, os⟩ := by
  obtain ⟨nm, q, bs, sn, sub, ab, col, dd, k0, k1, k2, k3, k5, hK⟩ := cls44 w.params
  have hC := X _ _ hK
  have SF := PySem.F.store_Exception
  have f3 := SF.slot.bind (.ref e)
  have hS : Looks (model prog w) h (typeLookup (.ref 44) "__setattr__") (some (.builtin "object.__setattr__")) := looks_findIn X (by k_is)
  have hM : Looks (model prog w) h (typeLookup (.ref 44) (Str.ofString "message")) none := looks_findIn X (by k_is)
  have hpass := SF.passes (.ref e)
  unfold setAttr callSpecial? specialOf
  repeat (any_goals (first | assumption | (with_reducible refine wpAny_loadPart_at he ?_) | (with_reducible refine hS.here ?_) | wp_step))
  have tE : Looks (model prog w) h (typeOf (.ref e)) (.ref 44) := (Looks.ld he).andThen .now
  have tO : Looks (model prog w) h (isInstance (.ref e) (.type "object")) true := tE.andThen (looks_mroIn X (by k_is))
  refine codeAny_call_builtin SF.slot.plain SF.entry (@check_slot (model prog w) _ _ ⟨h, g, d, t + 1, os⟩ "object.__setattr__" "object" "__setattr__" (.ref e) [.str (Str.ofString "message") t, v] [] _ SF.kind SF.split tO (SF.args (.ref e) (.str (Str.ofString "message") t) v) ?_)
  rw [show ([Value.ref e] ++ [Value.str (Str.ofString "message") t, v]) = [Value.ref e, Value.str (Str.ofString "message") t, v] from rfl, osa_eq, refuse_eq]
  have hm : Looks (model prog w) h (mroOf (.ref 44)) [.ref 44, .ref 24, .type "Exception", .type "BaseException", .type "object"] := ((Looks.ld (part := none) hC).andThen .now).andThen .now
  have hr : refuseLoop (.ref e) (Str.ofString "__setattr__") [.ref 44, .ref 24, .type "Exception", .type "BaseException", .type "object"] = pure () := by
    rw [refuseLoop_ref, refuseLoop_ref]; exact hpass
  have hp : ∀ b o, h.get? b = some o → (h.push { cls := .type "dict", data := .dict #[] }).get? b = some o := fun b o e => Heap.get?_push_of_some _ e
  refine wpAny_bind (wpAny_bind (tE.at (wpAny_bind (hm.at ?_))))
  rw [hr]
  refine wpAny_pure (wpAny_bind (tE.at (wpAny_bind (hM.at (wpAny_bind (wpAny_pure ?_))))))
  show wpAny _ _ (storeInOwnDict (.ref e) (.ref 44) (.str (Str.ofString "message") t) (Str.ofString "message") v false) _ _ _
  unfold storeInOwnDict
  refine wpAny_bind (wpAny_pure (wpAny_bind ?_))
  have hcd : Looks (model prog w) h (classData 44) _ := (Looks.ld (part := none) hC).andThen .now
  show wpAny _ _ (instanceDict e true) _ _ _
  unfold instanceDict
  refine wpAny_bind (wpAny_loadPart_at he (wpAny_bind (hcd.at ?_)))
  refine wpAny_ite (if_neg (show ¬ ((!true) = true) from by decide) ▸ ?_)
  have hxs : e ≠ h.objs.size := Nat.ne_of_lt (Heap.lt_size he)
  have hx₁ := hp _ _ he
  refine wpAny_bind (wpAny_alloc' (wpAny_bind (wpAny_update' hx₁ (wpAny_pure ?_))))
  have hgd : ((h.push { cls := .type "dict", data := .dict #[] }).update e fun o => { cls := o.cls, dict := some h.objs.size, data := o.data, slots := o.slots }).get? h.objs.size
      = some { cls := .type "dict", data := .dict #[] } :=
    (Heap.get?_update_ne _ _ _ _ hxs.symm).trans (Heap.get?_push_at rfl rfl)
  have hnd : ((h.push { cls := .type "dict", data := .dict #[] }).update e fun o => { cls := o.cls, dict := some h.objs.size, data := o.data, slots := o.slots }).Ns h.objs.size (fun _ => none) :=
    ⟨_, #[], _, hgd, rfl, fun e he => absurd he (by simp), fun _ => rfl⟩
  show wpAny _ _ (storeInDict h.objs.size (.str (Str.ofString "message") t) (Str.ofString "message") v) _ _ _
  unfold storeInDict newKeyGuard
  refine wpAny_bind (wpAny_pure (wpAny_bind (wpAny_nsSet1 (Heap.Ns1.of_empty hnd) fun h' hn' hs => ?_)))
  obtain ⟨oD, esD, epD, hoD, hdD, hcD⟩ := hn'.count (Within.cons (Str.ofString "message") v Within.nil)
  refine wpAny_bind (wpAny_lookBehind hoD (by rw [hdD]; exact pastItsLine_dict (Nat.le_trans hcD (by rw [List.length_cons, List.length_nil, sizeLine_eq]; omega))) ?_)
  refine wpAny_pure (wpAny_pure (wpAny_pure ?_))
  refine hq h' _ ?_ hn' fun b o hbe hb => ?_
  · exact (hs.2 e hxs).trans (Heap.get?_update_self _ hx₁ rfl)
  · exact (hs.2 b (Nat.ne_of_lt (Heap.lt_size hb))).trans ((Heap.get?_update_ne _ _ _ _ hbe).trans (hp _ _ hb))
end
end
theorem dict_mapFields (o : Obj) (f : Array Value → Array Value) : (Obj.mapFields f o).dict = o.dict := by
  obtain ⟨c, d, dt, sl⟩ := o
  cases dt <;> rfl
/-- the exception with its own dict, its traceback begun; fl: the mark of the frame that holds it -/
def TracedD (B : Heap) (e de : Addr) (fl : Value) (h : Heap) : Prop :=
  ∃ oe vs T oT ts, h.get? e = some oe ∧ (oe.cls = .ref 44 ∧ oe.dict = some de) ∧ oe.data = .fields vs ∧ vs[1]? = some (.ref T) ∧ B.get? T = none ∧ T ≠ e ∧ h.get? T = some oT ∧ oT.data = .fields ts ∧ ts[3]? = some fl
structure FlyD (B : Heap) (l : List Env) (e de : Addr) (fl : Value) (h : Heap) : Prop where
  stays : B.StaysIn h
  new : B.get? e = none
  frames : h.FunFrames B l
  tr : TracedD B e de fl h
section
variable {M : Model} {A : Around} {E : Value → Shared → Prop} {s : Shared} {B : Heap} {env : Env} {outer : List Env} {L e de : Addr}
theorem entryD {oe : Obj} {vs : Array Value} {head : Value} {hadNext : Bool} {Q : Unit → Shared → Prop}
    (hfr : A.frames = some (env :: outer)) (hl : s.heap.FunFrames B (env :: outer)) (hf : env.frame = some L)
    (he : s.heap.get? e = some oe) (hc : oe.cls = .ref 44 ∧ oe.dict = some de) (hkb : B.StaysIn s.heap) (hen : B.get? e = none) (hd : oe.data = .fields vs) (hsz : 1 < vs.size)
    (h : ∀ h', FlyD B (env :: outer) e de (rawInt L) h' → s.heap.UpToSlots h' → Q () { s with heap := h' }) :
    wpAny M A (do let a ← frameOf env; let pl ← entryPlaceOf L hadNext; let b ← EntryCells.newEntry head a .none (rawInt L) .none pl; setField (.ref e) 1 b) Q E s := by
  have hene : e ∉ (env :: outer).filterMap (·.frame) := fun hm => by
    obtain ⟨_, o, ho, hnf⟩ := hl.mem hm
    rw [he] at ho; injection ho with ho; subst ho; exact hnf vs hd
  refine wpAny_bind (wpAny_frameOf_fun hfr hl hf fun h₁ hs₁ => wpAny_bind (wpAny_entryPlaceOf fun pl hpl => ?_))
  unfold EntryCells.newEntry newFields
  refine wpAny_bind (wpAny_newObj_type ?_ (hpl.sizeOk5 _ _ _ _ _))
  have he₁ : h₁.get? e = some oe := (hs₁.2.1 e hene).trans he
  have kb₁ : B.StaysIn h₁ := fun b o hbo => (hs₁.2.1 b fun hm => by rw [(hl.mem hm).1] at hbo; cases hbo).trans (hkb b o hbo)
  generalize hT : ([head, .ref L, .none, rawInt L, .none] ++ (if pl.isEmpty then List.replicate 6 Value.none else pl)).toArray = ts
  have hts3 : ts[3]? = some (rawInt L) := by
    subst hT
    first | (simp; done) | (rcases hpl with rfl | ⟨_, _, _, _, _, _, _, rfl⟩ <;> simp)
  have he₂ := Heap.get?_push_of_some (h := h₁) { cls := .type "traceback", dict := none, data := .fields ts } he₁
  refine wpAny_setField he₂ hd hsz ?_
  have hTe : h₁.objs.size ≠ e := Nat.ne_of_gt (Heap.lt_size he₁)
  have hd₃ := Obj.data_mapFields hd (·.setIfInBounds 1 (Value.ref h₁.objs.size))
  have he₃ := Heap.get?_update_self (Obj.mapFields (·.setIfInBounds 1 (Value.ref h₁.objs.size))) he₂ (Obj.isFreed_of_fields hd₃)
  have hT₃ := (Heap.get?_update_other (h₁.push { cls := .type "traceback", dict := none, data := .fields ts })
    (Obj.mapFields (·.setIfInBounds 1 (Value.ref h₁.objs.size))) (Ne.symm hTe)).trans (Heap.get?_push_size h₁ rfl)
  have keep : ∀ b o, b ≠ e → h₁.get? b = some o →
      ((h₁.push { cls := .type "traceback", dict := none, data := .fields ts }).update e (Obj.mapFields (·.setIfInBounds 1 (Value.ref h₁.objs.size)))).get? b = some o :=
    fun b o hbe hb => by
      rw [Heap.get?_update_other _ _ (Ne.symm hbe)]
      exact Heap.get?_push_of_some _ hb
  have noRecord : ∀ b o, s.heap.get? b = some o → (∀ vs, o.data ≠ .fields vs) → b ≠ e := fun b o hb hnf q => by
    rw [q, he] at hb; injection hb with hb; subst hb; exact hnf vs hd
  refine h _ ⟨fun b o hbo => keep b o (fun q => by rw [q, hen] at hbo; cases hbo) (kb₁ b o hbo), hen, hl.of_keeps fun b o hb hnf => ?_, ?_⟩ fun b o hb hnf => ?_
  · obtain ⟨sl, hs⟩ := hs₁.2.2 b o hb
    exact ⟨_, keep b _ (noRecord b o hb hnf) hs, rfl⟩
  · exact ⟨_, _, h₁.objs.size, _, _, he₃, ⟨(Obj.cls_mapFields _ _).trans hc.1, (dict_mapFields _ _).trans hc.2⟩, hd₃, by simp [hsz], kb₁.fresh, hTe, hT₃, rfl, hts3⟩
  · obtain ⟨sl, hs⟩ := hs₁.2.2 b o hb
    exact ⟨sl, keep b _ (noRecord b o hb hnf) hs⟩
/-- the mark is put away -/
theorem landD {l : List Env} {fl : Value} {Q : Unit → Shared → Prop} (hh : FlyD B l e de fl s.heap)
    (h : ∀ h', FlyD B l e de .none h' → s.heap.UpToSlots h' → Q () { s with heap := h' }) : wpAny M A (setFlight (.ref e) none) Q E s := by
  obtain ⟨hkb, hen, hl, oe, vs, T, oT, ts, he, hcls, hd, h1, hnT, hTe, hT, hdT, h3⟩ := hh
  have hsz3 : 3 < ts.size := (Array.getElem?_eq_some_iff.mp h3).1
  have other : ∀ b, b ≠ T → (s.heap.update T (Obj.mapFields (·.setIfInBounds 3 ((none : Option Addr).elim Value.none fun f => rawInt f)))).get? b = s.heap.get? b :=
    fun b hb => Heap.get?_update_other _ _ (Ne.symm hb)
  have noRecord : ∀ b o, s.heap.get? b = some o → (∀ vs, o.data ≠ .fields vs) → b ≠ T := fun b o hb hnf q => by
    rw [q, hT] at hb; injection hb with hb; subst hb; exact hnf ts hdT
  unfold setFlight
  refine wpAny_bind (wpAny_field he hd h1 ?_)
  rw [if_pos (show (Value.ref T != Value.none) = true from by simp)]
  refine wpAny_setField hT hdT hsz3 (h _ ⟨fun b o hbo => (other b fun q => by rw [q, hnT] at hbo; cases hbo).trans (hkb b o hbo), hen,
    hl.of_keeps fun b o hb hnf => ⟨o, (other b (noRecord b o hb hnf)).trans hb, rfl⟩, ?_⟩ fun b o hb hnf => ⟨o.slots, (other b (noRecord b o hb hnf)).trans hb⟩)
  exact ⟨oe, vs, T, _, _, (other e (Ne.symm hTe)).trans he, hcls, hd, h1, hnT, hTe, Heap.get?_update_self _ hT (Obj.isFreed_of_fields (Obj.data_mapFields hdT _)), Obj.data_mapFields hdT _, by simp [hsz3]⟩
/-- a frame is noted: the first one -/
theorem noteFirstD {oe : Obj} {vs : Array Value} {Q : Unit → Shared → Prop}
    (hfr : A.frames = some (env :: outer)) (hl : s.heap.FunFrames B (env :: outer)) (hf : env.frame = some L)
    (he : s.heap.get? e = some oe) (hc : oe.cls = .ref 44 ∧ oe.dict = some de) (hkb : B.StaysIn s.heap) (hen : B.get? e = none) (hd : oe.data = .fields vs) (h1 : vs[1]? = some .none)
    (h : ∀ h', FlyD B (env :: outer) e de (rawInt L) h' → s.heap.UpToSlots h' → Q () { s with heap := h' }) : wpAny M A (noteFrame (.ref e) env) Q E s := by
  unfold noteFrame
  simp only [hf]
  refine wpAny_bind (wpAny_field he hd h1 ?_)
  rw [if_neg (by decide)]
  exact entryD hfr hl hf he hc hkb hen hd (Array.getElem?_eq_some_iff.mp h1).1 h
/-- and the next one -/
theorem noteNextD {Q : Unit → Shared → Prop} (hfr : A.frames = some (env :: outer)) (hf : env.frame = some L) (hh : FlyD B (env :: outer) e de .none s.heap)
    (h : ∀ h', FlyD B (env :: outer) e de (rawInt L) h' → s.heap.UpToSlots h' → Q () { s with heap := h' }) : wpAny M A (noteFrame (.ref e) env) Q E s := by
  obtain ⟨hkb, hen, hl, oe, vs, T, oT, ts, he, hcls, hd, h1, hnT, hTe, hT, hdT, h3⟩ := hh
  unfold noteFrame
  simp only [hf]
  refine wpAny_bind (wpAny_field he hd h1 ?_)
  rw [if_pos (show (Value.ref T != Value.none) = true from by simp)]
  refine wpAny_bind (wpAny_field hT hdT h3 ?_)
  rw [if_neg (show ¬ ((Value.none == rawInt L) = true) from by simp [rawInt])]
  refine wpAny_bind (wpAny_setField hT hdT (Array.getElem?_eq_some_iff.mp h3).1 ?_)
  have other : ∀ b, b ≠ T → (s.heap.update T (Obj.mapFields (·.setIfInBounds 3 Value.none))).get? b = s.heap.get? b := fun b hb => Heap.get?_update_other _ _ (Ne.symm hb)
  have noRecord : ∀ b o, s.heap.get? b = some o → (∀ vs, o.data ≠ .fields vs) → b ≠ T := fun b o hb hnf q => by
    rw [q, hT] at hb; injection hb with hb; subst hb; exact hnf ts hdT
  refine entryD hfr (hl.of_keeps fun b o hb hnf => ⟨o, (other b (noRecord b o hb hnf)).trans hb, rfl⟩) hf ((other e (Ne.symm hTe)).trans he) hcls
    (fun b o hbo => (other b fun q => by rw [q, hnT] at hbo; cases hbo).trans (hkb b o hbo)) hen hd (Array.getElem?_eq_some_iff.mp h1).1
    fun h' x1 x2 => h h' x1 fun b o hb hnf => x2 b o ((other b (noRecord b o hb hnf)).trans hb) hnf
theorem FlyD.out {fl : Value} {h : Heap} (x : FlyD B (env :: outer) e de fl h) : FlyD B outer e de fl h := ⟨x.stays, x.new, x.frames.2.2, x.tr⟩
/-- a frame is left by an exception just made -/
theorem leaveFirstD {oe : Obj} {vs : Array Value} {Q : Unit → Shared → Prop}
    (hfr : A.frames = some (env :: outer)) (hl : s.heap.FunFrames B (env :: outer)) (hf : env.frame = some L)
    (he : s.heap.get? e = some oe) (hc : oe.cls = .ref 44 ∧ oe.dict = some de) (hkb : B.StaysIn s.heap) (hen : B.get? e = none) (hd : oe.data = .fields vs) (h1 : vs[1]? = some .none)
    (h : ∀ h', FlyD B outer e de .none h' → s.heap.UpToSlots h' → Q () { s with heap := h' }) : wpAny M A (leaving env (.ref e)) Q E s := by
  unfold leaving
  refine wpAny_bind (noteFirstD hfr hl hf he hc hkb hen hd h1 fun h' x u => ?_)
  exact landD (s := { s with heap := h' }) x fun h'' x' u' => h h'' x'.out (u.trans u')
/-- and by one that flies -/
theorem leaveNextD {Q : Unit → Shared → Prop} (hfr : A.frames = some (env :: outer)) (hf : env.frame = some L) (hh : FlyD B (env :: outer) e de .none s.heap)
    (h : ∀ h', FlyD B outer e de .none h' → s.heap.UpToSlots h' → Q () { s with heap := h' }) : wpAny M A (leaving env (.ref e)) Q E s := by
  unfold leaving
  refine wpAny_bind (noteNextD hfr hf hh fun h' x u => ?_)
  exact landD (s := { s with heap := h' }) x fun h'' x' u' => h h'' x'.out (u.trans u')
end
theorem cleanE43 : True := by
  w_top off
  k_with_none
  exact trivial
theorem fillit4 : (PySem.Challenge.rw_no0499_01 = PySem.Challenge.rw_no0499_01) ∧ hd.heap_39 = hd.heap_39 := by
  k_fill
  exact ⟨rfl, rfl⟩
abbrev msgNs (v : Value) : Str → Option Value := fun y => if y = Str.ofString "message" then some v else none
section
variable {w : World} {mean : ExcName → Option Value} {mg mb : Str → Option Value} {base : Heap} {envs : List Env} {s : Shared} {A : Around} {prog : Program}
  {R : Result → Shared → Prop}
/-- Refusal.__init__ -/
theorem init41 (G : Gr w mean mg mb base) {e t₀ : Addr} {v : Value} (a : At base envs s.heap [(e, freshExc t₀)]) (hfr : A.frames = some envs) (hroom : A.depth + 1 < recursionLimit)
    (k : ∀ h' tk' de, h'.get? e = some { freshExc t₀ with dict := some de } → h'.Ns1 de (msgNs v) → s.heap.get? de = none → (∀ b o, b ≠ e → s.heap.get? b = some o → h'.get? b = some o) →
      R (.ok (.ret .none)) { s with heap := h', toks := tk' }) :
    codeAny (model prog w) A (.call (.ref 41) ⟨[.ref e, v], []⟩) R s := by
  refine enter (binds := [(Str.ofString "self", .ref e), (Str.ofString "message", v)])
    (D := fun r T' => r = .none ∧ ∃ de od, T' = [(e, { freshExc t₀ with dict := some de }), (de, od)] ∧ (∀ h : Heap, h.get? de = some od → h.Ns1 de (msgNs v)) ∧ de ≠ e)
    G a hfr (by omega) (by k_is) (by k_is) (BindsTo.of_eq rfl) (locs rfl) ?_ ?_ rfl rfl rfl (by decide)
  · intro g L' h₁ F' N' B' X' T' l1
    (try dsimp only)
    k_steps
    have he := (N' _ (.head _)).1
    refine exc_store (X'.keeps F'.keep) he fun h' tk' he' hn' hk' => ?_
    dsimp only
    have hL : L' ≠ e := (N' _ (.head _)).2.1.symm
    obtain ⟨oL, es, ep, hoL, rL⟩ := F'.ns
    have F2 : Fr g L' h' (fun y => List.lookup y [(Str.ofString "self", Value.ref e), (Str.ofString "message", v)].reverse) :=
      ⟨⟨oL, es, ep, hk' _ _ hL hoL, rL⟩, fun b o q => hk' b o (fun z => by have := (N' _ (.head _)).2.2; rw [← z, q] at this; cases this) (F'.keep b o q), F'.above⟩
    obtain ⟨od, eso, epo, ho, hrest⟩ := hn'
    have hde : h₁.objs.size ≠ e := Nat.ne_of_gt (Heap.lt_size he)
    have N2 : News g L' h' [(e, { freshExc t₀ with dict := some h₁.objs.size }), (h₁.objs.size, od)] := by
      intro p hp
      rcases List.mem_cons.mp hp with rfl | hp
      · exact ⟨he', (N' _ (.head _)).2⟩
      · rw [List.mem_singleton.mp hp]
        refine ⟨ho, Nat.ne_of_gt (Heap.lt_size hoL), ?_⟩
        cases q : g.get? h₁.objs.size with
        | none => rfl
        | some o => exact absurd (Heap.lt_size (F'.keep _ _ q)) (Nat.lt_irrefl _)
    clear he
    k_steps
    exact ⟨_, _, _, _, _, rfl, F2, N2, rfl, h₁.objs.size, od, rfl, fun h ho => ⟨od, eso, epo, ho, hrest⟩, hde⟩
  · rintro r h' tk' ⟨hk, T', ⟨rfl, de, od, rfl, hns, hde⟩, hT⟩
    have h1 := hT _ (.head _)
    have h2 := hT _ (.tail _ (.head _))
    refine k h' tk' de h1.1 (hns _ h2.1) ?_ fun b o hb q => hk b o q (by simpa using hb)
    rcases h2.2 with q | q
    · exact absurd (by simpa using q) hde
    · exact q
end
theorem cleanE54 : True := by
  w_top off
  k_with_none
  exact trivial
theorem fillit5 : (PySem.Challenge.rw_no0499_01 = PySem.Challenge.rw_no0499_01) ∧ hd.heap_39 = hd.heap_39 := by
  k_fill
  exact ⟨rfl, rfl⟩
/-- an exception that leaves a call: what it keeps -/
structure Flown (base : Heap) (envs : List Env) (s : Shared) (T : List (Addr × Obj)) (v : Value) (e : Addr) (h : Heap) : Prop where
  fly : ∃ B de, FlyD B envs e de .none h ∧ base.StaysIn B ∧ (∀ b o, s.heap.get? b = some o → b ∉ T.map (·.1) → (∀ env ∈ envs, env.frame ≠ some b) → B.get? b = some o) ∧ B.Ns1 de (msgNs v)
  frames : ∀ b o, s.heap.get? b = some o → (∃ env ∈ envs, env.frame = some b) → ∃ sl, h.get? b = some { o with slots := sl }
/-- an exception at hand in a frame of its own -/
def RaisedAt (base g : Heap) (s : Shared) (env : Env) (outer : List Env) (P : Value → Prop) (x : Value) (s' : Shared) : Prop :=
  ∃ e de v h tk B, x = .ref e ∧ P v ∧ s' = { s with heap := h, toks := tk } ∧ base.StaysIn B ∧
    (∀ b o, g.get? b = some o → (∀ env' ∈ outer, env'.frame ≠ some b) → B.get? b = some o) ∧
    (∀ b o, g.get? b = some o → (∃ env' ∈ outer, env'.frame = some b) → ∃ sl, h.get? b = some { o with slots := sl }) ∧ B.Ns1 de (msgNs v) ∧
    B.get? e = none ∧ B.StaysIn h ∧ h.FunFrames B (env :: outer) ∧
    (FlyD B (env :: outer) e de .none h ∨ ∃ oe vs, h.get? e = some oe ∧ (oe.cls = .ref 44 ∧ oe.dict = some de) ∧ oe.data = .fields vs ∧ vs[1]? = some .none)
section
variable {w : World} {mean : ExcName → Option Value} {mg mb : Str → Option Value} {base : Heap} {envs : List Env} {s : Shared} {T : List (Addr × Obj)} {A : Around} {prog : Program}
  {R : Result → Shared → Prop} {P : Value → Prop}
theorem raised_leaves {g : Heap} {env : Env} {L : Addr} (hfr : A.frames = some (env :: envs)) (hf : env.frame = some L)
    (hg : g = hideAll s.heap (T.map (·.1))) (ap : ∀ p ∈ T, ∀ env ∈ envs, env.frame ≠ some p.1)
    (kr : ∀ e v h' tk', P v → Flown base envs s T v e h' → R (.error (.ref e)) { s with heap := h', toks := tk' })
    {x : Value} {s' : Shared} (r : RaisedAt base g s env envs P x s') :
    wpAny (model prog w) A (leaving env x) (fun _ s'' => R (.error x) s'') (fun e' s'' => R (.error e') s'') s' := by
  obtain ⟨e, de, v, h, tk, B, rfl, hP, rfl, hbB, hgB, hgF, hns, hBe, hBh, hFF, alt⟩ := r
  have fin : ∀ h', FlyD B envs e de .none h' → h.UpToSlots h' → R (.error (.ref e)) { s with heap := h', toks := tk } := fun h' x u => by
    refine kr e v h' tk hP ⟨⟨B, de, x, hbB, fun b o q hb hn => hgB b o ?_ hn, hns⟩, fun b o q hx => ?_⟩
    · rw [hg]; exact hideAll_get _ q hb
    · obtain ⟨env', he', hf'⟩ := hx
      have hb : b ∉ T.map (·.1) := fun q => by
        obtain ⟨p, hp, rfl⟩ := List.mem_map.mp q
        exact ap p hp env' he' hf'
      obtain ⟨sl, hs⟩ := hgF b o (by rw [hg]; exact hideAll_get _ q hb) ⟨env', he', hf'⟩
      obtain ⟨_, o', ho', hnf⟩ := hFF.2.2.mem (List.mem_filterMap.mpr ⟨env', he', hf'⟩)
      rw [hs] at ho'
      obtain rfl := Option.some.inj ho'
      obtain ⟨sl', hs'⟩ := u b _ hs hnf
      exact ⟨sl', hs'⟩
  rcases alt with fl | ⟨oe, vs, he, hc, hd, h1⟩
  · exact leaveNextD hfr hf fl fun h' x u => fin h' x u
  · exact leaveFirstD hfr hFF hf he hc hBh hBe hd h1 fun h' x u => fin h' x u
variable {name qual : Str} {params : Arguments} {body : List Stmt} {scope : Scope} {dV kV doc pm cdv ct oc : Value} {an od : Option Addr} {osl : Array (Option Value)} {f : Addr} {args : Args} {binds : List (Str × Value)}
  {D : Value → List (Addr × Obj) → Prop}
theorem enterR (G : Gr w mean mg mb base) (a : At base envs s.heap T) (hfr : A.frames = some envs) (hroom : A.depth < recursionLimit)
    (ho : (hd.heap_39 w.params).lookup f = some ⟨oc, od, .func (fnOf name qual params body scope dV kV doc pm an cdv ct), osl⟩) (hcd : codeIn (hd.heap_39 w.params) cdv qual = true)
    (hbind : BindsTo s (fnOf name qual params body scope dV kV doc pm an cdv ct) args binds) (hloc : ∀ y ∈ binds, scope.names.lookup y.1 = some .local)
    (h : ∀ g L' h₁ (E : Value → Shared → Prop), Fr g L' h₁ (fun y => binds.reverse.lookup y) → News g L' h₁ T → Below A base envs g → (hd.heap_39 w.params).In g → Top hd.view_39 (looseW hd.view_39 [Str.ofString "match_names", Str.ofString "take"]) mean mg mb g → (∀ p ∈ T, p.1 < L') →
      PassesOwn (model prog w) (A.deeper (envOf qual scope L' f cdv)) (envOf qual scope L' f cdv) E → (∀ x s', RaisedAt base g s (envOf qual scope L' f cdv) envs P x s' → E x s') →
      wpAny (model prog w) (A.deeper (envOf qual scope L' f cdv)) (execs body (envOf qual scope L' f cdv))
        (fun fl s' => Back g s D (match fl with | .ret v => v | _ => .none) s') E
        { s with heap := h₁, toks := s.toks + binds.length })
    (k : ∀ v h' tk', Left s T D v h' → R (.ok (.ret v)) { s with heap := h', toks := tk' })
    (kr : ∀ e v h' tk', P v → Flown base envs s T v e h' → R (.error (.ref e)) { s with heap := h', toks := tk' })
    (hco : scope.isCoroutine = false) (hgen : scope.isGenerator = false) (hk : scope.kind = .function)
    (hcell : ∀ x ∈ scope.names, x.2 ≠ .cell) : codeAny (model prog w) A (.call (.ref f) args) R s := by
  obtain ⟨st, ff⟩ := ground a
  have X2 := G.kin.keeps st
  have T2 := G.top.keeps st
  have X : (hd.heap_39 w.params).In s.heap := G.kin.keeps a.stays
  refine codeAny_call_def (fd := fnOf name qual params body scope dV kV doc pm an cdv ct) (body := body) (binds := binds) hroom (X _ _ ho) rfl (G.top.nolimit.keeps a.stays) (codeRec_of X hcd) rfl hbind hcell hloc (fun h₁ hns hk₁ => ?_) hco hgen hk
  refine wpAny_mono (h (hideAll s.heap (T.map (·.1))) s.heap.objs.size h₁ _ ⟨hns, fun b o e => hk₁ b o (of_hideAll _ e), Nat.le_of_eq (hideAll_size _ _)⟩
    (fun p hp => ⟨hk₁ _ _ (a.news p hp).1, Nat.ne_of_lt (Heap.lt_size (a.news p hp).1), hideAll_none _ (List.mem_map_of_mem hp)⟩)
    ⟨hfr, st, ff⟩ X2 T2 (fun p hp => Heap.lt_size (a.news p hp).1) PassesOwn.leaving
    (fun x s' r => raised_leaves (Around.frames_deeper hfr) rfl rfl a.apart kr r)) (fun fl s' hl => ?_) fun _ _ y => y
  obtain ⟨L, m, news, h', tk, rfl, F, N, hD⟩ := hl
  refine k _ h' tk ⟨fun b o e hb => F.keep b o (hideAll_get _ e hb), news, hD, fun p hp => ⟨(N p hp).1, ?_⟩⟩
  by_cases hm : p.1 ∈ T.map (·.1)
  · exact .inl hm
  · right
    cases q : s.heap.get? p.1 with
    | none => rfl
    | some o => have := (N p hp).2.2; rw [hideAll_get _ q hm] at this; cases this
/-- Refusal(v) in a frame -/
theorem refusal_make (G : Gr w mean mg mb base) {A₀ : Around} {g : Heap} {env : Env} {L : Addr} {m : Str → Option Value} {news : List (Addr × Obj)} {v : Value} {Q : Value → Shared → Prop} {E : Value → Shared → Prop}
    (B : Below A₀ base envs g) (F : Fr g L s.heap m) (N : News g L s.heap news) (X : (hd.heap_39 w.params).In g) (hA : A.frames = some (env :: envs)) (hf : env.frame = some L) (hk : env.scope.kind = .function) (hroom : A.depth + 5 < recursionLimit)
    (h : ∀ h' e de tk t₀, Fr g L h' m → News g L h' news → h'.get? e = some { freshExc t₀ with dict := some de } → h'.Ns1 de (msgNs v) → s.heap.get? e = none → s.heap.get? de = none → de ≠ e →
      Q (.ref e) { s with heap := h', toks := tk }) :
    wpAny (model prog w) A (call (.ref 44) [v]) Q E s := by
  obtain ⟨hh, gg, d, tk, os⟩ := s
  refine refusal_call (X.keeps F.keep) fun h' e mk => ?_
  obtain ⟨t₀, he, ht0, ht⟩ := mk.there
  have B2 : Below (A₀.deeper env) base (env :: envs) hh := pushX B F hf hk
  have hnb : base.get? e = none := by
    cases q : base.get? e with
    | none => rfl
    | some o => have := B2.stays e o q; rw [mk.new] at this; cases this
  refine wpAny_call (init41 (envs := env :: envs) (t₀ := t₀) (v := v) (e := e) G ⟨fun b o q => mk.keeps _ _ (B2.stays b o q), B2.frames.of_keeps fun b o q _ => ⟨o, mk.keeps _ _ q, rfl⟩, ?_, ?_⟩ ?_ ?_ ?_)
  · intro p hp
    rw [List.mem_singleton.mp hp]
    exact ⟨he, hnb⟩
  · intro p hp env' he' q
    rw [List.mem_singleton.mp hp] at q
    obtain ⟨_, o, ho, _⟩ := B2.frames.mem (List.mem_filterMap.mpr ⟨env', he', q⟩)
    rw [mk.new] at ho; cases ho
  · exact hA
  · rw [depth_under_make]; omega
  · intro h'' tk' de he' hn hde hkeep
    have keep : ∀ b o, hh.get? b = some o → h''.get? b = some o := fun b o q => hkeep b o (fun z => by rw [z, mk.new] at q; cases q) (mk.keeps b o q)
    have hdee : de ≠ e := fun z => by
      have hde' : h'.get? de = none := hde
      rw [z, he] at hde'; cases hde'
    have hde0 : hh.get? de = none := by
      cases q : hh.get? de with
      | none => rfl
      | some o => have := mk.keeps _ _ q; have hde' : h'.get? de = none := hde; rw [hde'] at this; cases this
    exact ⟨rfl, h h'' e de tk' _ (F.keeps keep) (fun p hp => ⟨keep _ _ (N p hp).1, (N p hp).2⟩) he' hn mk.new hde0 hdee⟩
theorem raise_stmt (G : Gr w mean mg mb base) {env : Env} {x : Expr} {pos : Pos} {Q : Flow → Shared → Prop} {E : Value → Shared → Prop} (hh : A.handled = none)
    (h : wpAny (model prog w) A (eval x env) (fun v s₁ => ∃ e t₀ de, v = .ref e ∧ base.StaysIn s₁.heap ∧ s₁.heap.get? e = some { freshExc t₀ with dict := some de } ∧ E (.ref e) s₁) E s) :
    wpAny (model prog w) A (exec (.Raise (some x) none pos) env) Q E s := by
  rw [arm_exec_Raise]
  simp only [evalOpt, Option.map]
  refine wpAny_bind (wpAny_standAt ?_)
  unfold raiseStmt
  dsimp only
  refine wpAny_bind (wpAny_bind (wpAny_mono h (fun v s₁ h₁ => wpAny_bind (wpAny_standAt (wpAny_pure ?_))) fun _ _ x => x))
  obtain ⟨e, t₀, de, rfl, hb, he, hE⟩ := h₁
  have X := G.kin.keeps hb
  obtain ⟨nm, q, bs, sn, sub, ab, col, dd, k0, k1, k2, k3, k5, hK⟩ := cls44 w.params
  have hC := X _ _ hK
  have hcB : (Value.ref 44 :: [.ref 24, .type "Exception", .type "BaseException", .type "object"]).contains (.type "BaseException") = true := by decide +kernel
  obtain ⟨hp, g, d, tk, os⟩ := s₁
  repeat (first | with_reducible refine wpAny_loadPart_at he ?_ | with_reducible refine wpAny_loadPart_at hC ?_ | (with_reducible refine wpAny_isSubtype_exc hC ?_; rw [hcB]) | wp_step)
  exact wpAny_raiseNew_none hh hE
/-- what has just been made is at hand -/
theorem raised_made {g h' : Heap} {A₀ : Around} {env : Env} {L : Addr} {m : Str → Option Value} {s₁ : Shared} {e de t₀ : Addr} {v : Value} {tk : Nat}
    (B : Below A₀ base envs g) (F : Fr g L h' m) (hf : env.frame = some L) (hk : env.scope.kind = .function)
    (he : h'.get? e = some { freshExc t₀ with dict := some de }) (hn : h'.Ns1 de (msgNs v)) (hde : de ≠ e)
    (hg1 : g.get? e = none) (hdF : ∀ env' ∈ env :: envs, env'.frame ≠ some de) (hP : P v) (hs : s₁ = { s with heap := h', toks := tk }) :
    RaisedAt base g s env envs P (.ref e) s₁ := by
  have B2 : Below (A₀.deeper env) base (env :: envs) h' := pushX B F hf hk
  have heF : ∀ env' ∈ env :: envs, env'.frame ≠ some e := fun env' he' q => by
    obtain ⟨_, o, ho, hnf⟩ := B2.frames.mem (List.mem_filterMap.mpr ⟨env', he', q⟩)
    rw [he] at ho; obtain rfl := Option.some.inj ho; exact hnf _ rfl
  have hidden : ∀ b, b ≠ e → (∀ env' ∈ env :: envs, env'.frame ≠ some b) → b ∉ e :: (env :: envs).filterMap (·.frame) := fun b hb hn q => by
    rcases List.mem_cons.mp q with q | q
    · exact hb q
    · obtain ⟨env', he', hf'⟩ := List.mem_filterMap.mp q
      exact hn env' he' hf'
  have notL : ∀ b o, g.get? b = some o → env.frame ≠ some b := fun b o q z => by
    rw [hf] at z; obtain rfl := Option.some.inj z
    exact absurd (Nat.lt_of_lt_of_le (Heap.lt_size q) F.above) (Nat.lt_irrefl _)
  refine ⟨e, de, v, h', tk, hideAll h' (e :: (env :: envs).filterMap (·.frame)), rfl, hP, hs, fun b o q => ?_, fun b o q hx => ?_, fun b o q _ => ⟨o.slots, F.keep b o q⟩, ?_, hideAll_none _ (.head _), fun b o q => of_hideAll _ q,
    funFrames_hide B2.frames fun env' he' b hb => List.mem_cons_of_mem _ (List.mem_filterMap.mpr ⟨env', he', hb⟩), .inr ⟨_, _, he, ⟨rfl, rfl⟩, rfl, rfl⟩⟩
  · refine hideAll_get _ (B2.stays b o q) (hidden b (fun z => ?_) fun env' he' z => ?_)
    · rw [z] at q; have := B.stays _ _ q; rw [hg1] at this; cases this
    · rw [(B2.frames.mem (List.mem_filterMap.mpr ⟨env', he', z⟩)).1] at q; cases q
  · refine hideAll_get _ (F.keep b o q) (hidden b (fun z => ?_) fun env' he' => ?_)
    · rw [z, hg1] at q; cases q
    · rcases List.mem_cons.mp he' with rfl | he'
      · exact notL b o q
      · exact hx env' he'
  · exact hn.at fun o q => hideAll_get _ q (hidden de hde hdF)
end
/-- the walk stops here -/
def Wall (p : Prop) : Prop := p
theorem wall {p : Prop} (h : Wall p) : p := h
section
variable {prog : Program} {w : World} {A : Around} {E : Value → Shared → Prop} {s : Shared} {env : Env} {h₀ : Heap} {x : Str} {body : List Stmt} {Q : Flow → Shared → Prop}
  {σ : Type} (Led : σ → List (Addr × Obj)) (ps : σ → List (Str × Value)) (stored : List Str) (P : Nat → σ → Prop)
/-- a turn's end -/
def LoopEnd (h₀ : Heap) (L : Addr) (x : Str) (m₀ : Str → Option Value) (Led : σ → List (Addr × Obj)) (ps : σ → List (Str × Value)) (stored : List Str) (Pn : σ → Prop) (I : Addr) (oI : Obj) (Q : Flow → Shared → Prop) (s₁ : Shared) (f : Flow) (s₂ : Shared) : Prop :=
  match f with
  | .ret v => Q (.ret v) s₂
  | .brk => Q .next s₂
  | _ => ∃ c h' tk m' news', s₂ = { s₁ with heap := h', toks := tk } ∧ Fr h₀ L h' m' ∧ News h₀ L h' news' ∧ (∀ p ∈ Led c, p ∈ news') ∧ (I, oI) ∈ news' ∧ (∀ p ∈ Led c, p.1 ≠ I) ∧
      (∀ p ∈ ps c, m' p.1 = some p.2) ∧ (∀ z, z ≠ x → (∀ p ∈ ps c, z ≠ p.1) → stored.contains z = false → m' z = m₀ z) ∧ Pn c
theorem LoopEnd.fin {L : Addr} {m₀ : Str → Option Value} {Led : σ → List (Addr × Obj)} {ps : σ → List (Str × Value)} {stored : List Str} {Pn : σ → Prop} {I : Addr} {oI : Obj} {s₁ : Shared} {f : Flow} {h' : Heap} {tk : Nat} {m' : Str → Option Value} {news' : List (Addr × Obj)}
    (c : σ) (hf : f = .next ∨ f = .cont) (F : Fr h₀ L h' m') (N : News h₀ L h' news') (h1 : ∀ p ∈ Led c, p ∈ news') (h2 : (I, oI) ∈ news') (h3 : ∀ p ∈ Led c, p.1 ≠ I)
    (h4 : ∀ p ∈ ps c, m' p.1 = some p.2) (h5 : ∀ z, z ≠ x → (∀ p ∈ ps c, z ≠ p.1) → stored.contains z = false → m' z = m₀ z) (h6 : Pn c) :
    LoopEnd h₀ L x m₀ Led ps stored Pn I oI Q s₁ f { s₁ with heap := h', toks := tk } := by
  rcases hf with rfl | rfl <;> exact ⟨c, h', tk, m', news', rfl, F, N, h1, h2, h3, h4, h5, h6⟩
theorem loop_range {r : Addr} {n : Nat} {t₀ u₀ v₀ : Tok} {m₀ : Str → Option Value} (c₀ : σ)
    (hh : A.handled = none) (hr : IsRange s.heap r 0 (n : Int) 1 t₀ u₀ v₀) (hsmall : Builtin.Range.small 0 (n : Int) 1 = true) (F : Fr h₀ env.locals s.heap m₀) (N : News h₀ env.locals s.heap (Led c₀)) (hk : ∀ p ∈ ps c₀, m₀ p.1 = some p.2) (hp : P 0 c₀)
    (turn : ∀ (c : σ) (i : Nat) t (u : Str → Option Value) h tk I oI, i < n → (∀ p ∈ Led c, p.1 ≠ I) → P i c →
      Fr h₀ env.locals h (fun y => if y = x then some (.int (i : Int) t) else kstB (fun z => if stored.contains z then u z else m₀ z) (ps c) y) → News h₀ env.locals h ((I, oI) :: Led c) →
      wpAny (model prog w) A (execs body env) (LoopEnd h₀ env.locals x m₀ Led ps stored (P (i + 1)) I oI Q { s with heap := h, toks := tk }) E { s with heap := h, toks := tk })
    (done : ∀ (c : σ) (u : Str → Option Value) h tk, P n c → Fr h₀ env.locals h (fun y => if y = x then u y else kstB (fun z => if stored.contains z then u z else m₀ z) (ps c) y) → News h₀ env.locals h (Led c) → Q .next { s with heap := h, toks := tk }) :
    wpAny (model prog w) A (pyIter (.ref r)) (fun it s₂ => LoopAtV prog w A h₀ env x body Q E it s₂) E s := by
  have hn : Builtin.Range.rangeSize 0 (n : Int) 1 = (n : Int) := by
    first | (have := rangeSize_nat 0 n; simpa using this) | exact rangeSize_nat _ _
  refine wpAny_pyIter_range hr hsmall ?_
  have W : Walks prog w A s.heap.objs.size [s.heap.objs.size] [s.heap.objs.size] n (fun i v => ∃ t, v = .int (0 + i * 1) t)
      (fun i h => IsRangeIter h s.heap.objs.size (0 + (i : Nat) * 1) ((n : Int) - (i : Nat)) 1) := Walks.range hh _ 0 1 n
  refine ⟨_, _, _, n, _, _, m₀, Led c₀, fun i m nx => ∃ c, nx = Led c ∧ (∀ p ∈ ps c, m p.1 = some p.2) ∧ (∀ z, z ≠ x → (∀ p ∈ ps c, z ≠ p.1) → stored.contains z = false → m z = m₀ z) ∧ P i c, rfl, W, ?_, ?_, ?_, ?_, F.push _,
    (fun p hp => ⟨Heap.get?_push_of_some _ (N p hp).1, (N p hp).2⟩), ⟨c₀, rfl, hk, fun _ _ _ _ => rfl, hp⟩, ?_, ?_⟩
  · intro hm
    exact absurd F.ns.lt ((List.mem_singleton.mp hm) ▸ Nat.lt_irrefl _)
  · intro b hb
    rw [List.mem_singleton.mp hb]
    exact next_is_new F
  · intro p hp hI
    exact absurd (Heap.lt_size (N p hp).1) ((List.mem_singleton.mp hI) ▸ Nat.lt_irrefl _)
  · show IsRangeIter _ _ _ _ _
    rw [hn]
    simpa using Heap.get?_push_size _ rfl
  · rintro i v m₁ news₁ s₁ own ⟨hh', tk', rfl⟩ hi ⟨t, rfl⟩ ⟨c, rfl, h1, h2, hP⟩ hoff hown _ hmem hst' F₁ N₁
    have e1 : (0 : Int) + (i : Int) * 1 = (i : Int) := by omega
    rw [e1] at F₁
    obtain ⟨oI, hI⟩ : ∃ o, ((s.heap.objs.size, o) : Addr × Obj) ∈ own := ⟨_, hmem _ (.head _) (next_is_new F) _ hst'⟩
    have hoff' : ∀ p ∈ Led c, p.1 ≠ s.heap.objs.size := fun p hp q => hoff p hp (List.mem_singleton.mpr q)
    have N₂ : News h₀ env.locals hh' ((s.heap.objs.size, oI) :: Led c) := fun p hp => (List.mem_cons.mp hp).elim (fun e => N₁ p (e ▸ List.mem_append_left _ hI)) fun e => N₁ p (List.mem_append_right _ e)
    refine wpAny_mono (turn c i t m₁ hh' tk' _ _ hi hoff' hP (kst_fr h1 h2 F₁) N₂) (fun f s₂ p => ?_) fun _ _ e => e
    have own1 : ∀ p ∈ own, p = (s.heap.objs.size, oI) := fun p hp => by
      have a1 := List.mem_singleton.mp (hown p hp)
      have a2 := (N₁ p (List.mem_append_left _ hp)).1
      have a3 := (N₁ _ (List.mem_append_left _ hI)).1
      rw [a1, a3] at a2
      exact Prod.ext a1 (Option.some.inj a2).symm
    have fin : ∀ f, (∃ c h' tk m' news', s₂ = { s with heap := h', toks := tk } ∧ Fr h₀ env.locals h' m' ∧ News h₀ env.locals h' news' ∧ (∀ p ∈ Led c, p ∈ news') ∧ ((s.heap.objs.size, oI) : Addr × Obj) ∈ news' ∧ (∀ p ∈ Led c, p.1 ≠ s.heap.objs.size) ∧
      (∀ p ∈ ps c, m' p.1 = some p.2) ∧ (∀ z, z ≠ x → (∀ p ∈ ps c, z ≠ p.1) → stored.contains z = false → m' z = m₀ z) ∧ P (i + 1) c) → (f = Flow.next) → LoopStepU h₀ env.locals [s.heap.objs.size] own (fun m nx => ∃ c, nx = Led c ∧ (∀ p ∈ ps c, m p.1 = some p.2) ∧ (∀ z, z ≠ x → (∀ p ∈ ps c, z ≠ p.1) → stored.contains z = false → m z = m₀ z) ∧ P (i + 1) c) { s with heap := hh', toks := tk' } f s₂ := by
      rintro f ⟨c', h', tk, m', news', e, F', N', hl, hi', ho, hps, hst, hP'⟩ rfl
      refine ⟨rfl, h', tk, m', Led c', e, F', fun p hp => ?_, fun p hp q => ho p hp (List.mem_singleton.mp q), c', rfl, hps, hst, hP'⟩
      rcases List.mem_append.mp hp with hp | hp
      · rw [own1 p hp]; exact N' _ hi'
      · exact N' p (hl p hp)
    cases f with
    | ret v => exact .ret p
    | brk => exact .brk p
    | next => exact .next (fin _ p rfl)
    | cont => exact .cont (fin _ p rfl)
  · rintro h' tk m' _ F' N' _ ⟨c, rfl, h1, h2, hP⟩
    exact done c m' h' tk hP (kst_frOut h1 h2 F') N'
theorem loop_list {l : Addr} {vs : List Value} {nn : Nat} {m₀ : Str → Option Value} (c₀ : σ)
    (hh : A.handled = none) (hl : ∀ c, (l, PySem.W.listOf vs.toArray nn) ∈ Led c) (F : Fr h₀ env.locals s.heap m₀) (N : News h₀ env.locals s.heap (Led c₀)) (hk : ∀ p ∈ ps c₀, m₀ p.1 = some p.2) (hp : P 0 c₀)
    (turn : ∀ (c : σ) (i : Nat) v (u : Str → Option Value) h tk I oI, vs[i]? = some v → (∀ p ∈ Led c, p.1 ≠ I) → P i c →
      Fr h₀ env.locals h (fun y => if y = x then some v else kstB (fun z => if stored.contains z then u z else m₀ z) (ps c) y) → News h₀ env.locals h ((I, oI) :: Led c) →
      wpAny (model prog w) A (execs body env) (LoopEnd h₀ env.locals x m₀ Led ps stored (P (i + 1)) I oI Q { s with heap := h, toks := tk }) E { s with heap := h, toks := tk })
    (done : ∀ (c : σ) (u : Str → Option Value) h tk, P vs.length c → Fr h₀ env.locals h (fun y => if y = x then u y else kstB (fun z => if stored.contains z then u z else m₀ z) (ps c) y) → News h₀ env.locals h (Led c) → Q .next { s with heap := h, toks := tk }) :
    wpAny (model prog w) A (pyIter (.ref l)) (fun it s₂ => LoopAtV prog w A h₀ env x body Q E it s₂) E s := by
  have hol : s.heap.get? l = some (PySem.W.listOf vs.toArray nn) := (N _ (hl c₀)).1
  have hls : s.heap.IsList l vs.toArray := ⟨_, hol, rfl, nn, rfl⟩
  have hne : l ≠ s.heap.objs.size := Nat.ne_of_lt (Heap.lt_size hol)
  refine wpAny_pyIter_list hls ?_
  have W := Walks.list (prog := prog) (w := w) hh s.heap.objs.size l hne vs.toArray
  rw [show vs.toArray.size = vs.length by simp] at W
  refine ⟨_, _, _, vs.length, _, _, m₀, Led c₀, fun i m nx => ∃ c, nx = Led c ∧ (∀ p ∈ ps c, m p.1 = some p.2) ∧ (∀ z, z ≠ x → (∀ p ∈ ps c, z ≠ p.1) → stored.contains z = false → m z = m₀ z) ∧ P i c, rfl, W, ?_, ?_, ?_,
    ⟨⟨_, Heap.get?_push_size _ rfl, rfl, rfl⟩, hls.at fun o e => Heap.get?_push_of_some _ e⟩, F.push _,
    (fun p hp => ⟨Heap.get?_push_of_some _ (N p hp).1, (N p hp).2⟩), ⟨c₀, rfl, hk, fun _ _ _ _ => rfl, hp⟩, ?_, ?_⟩
  · intro hm
    rcases List.mem_cons.mp hm with e | hm
    · exact absurd F.ns.lt (e ▸ Nat.lt_irrefl _)
    · exact (N _ (hl c₀)).2.1 ((List.mem_singleton.mp hm).symm)
  · intro b hb
    rw [List.mem_singleton.mp hb]
    exact next_is_new F
  · intro p hp hI
    exact absurd (Heap.lt_size (N p hp).1) ((List.mem_singleton.mp hI) ▸ Nat.lt_irrefl _)
  · rintro i v m₁ news₁ s₁ own ⟨hh', tk', rfl⟩ hi hPv ⟨c, rfl, h1, h2, hP⟩ hoff hown _ hmem hst' F₁ N₁
    obtain ⟨⟨oI', hoI, _⟩, _⟩ := hst'
    obtain ⟨oI, hI⟩ : ∃ o, ((s.heap.objs.size, o) : Addr × Obj) ∈ own := ⟨_, hmem _ (.head _) (next_is_new F) _ hoI⟩
    have hoff' : ∀ p ∈ Led c, p.1 ≠ s.heap.objs.size := fun p hp q => hoff p hp (List.mem_singleton.mpr q)
    have N₂ : News h₀ env.locals hh' ((s.heap.objs.size, oI) :: Led c) := fun p hp => (List.mem_cons.mp hp).elim (fun e => N₁ p (e ▸ List.mem_append_left _ hI)) fun e => N₁ p (List.mem_append_right _ e)
    refine wpAny_mono (turn c i v m₁ hh' tk' _ _ (by simpa using hPv) hoff' hP (kst_fr h1 h2 F₁) N₂) (fun f s₂ p => ?_) fun _ _ e => e
    have own1 : ∀ p ∈ own, p = (s.heap.objs.size, oI) ∨ p = (l, PySem.W.listOf vs.toArray nn) := fun p hp => by
      have a2 := (N₁ p (List.mem_append_left _ hp)).1
      rcases List.mem_cons.mp (hown p hp) with a1 | a1
      · have a3 := (N₁ _ (List.mem_append_left _ hI)).1
        rw [a1, a3] at a2
        exact .inl (Prod.ext a1 (Option.some.inj a2).symm)
      · have a1 := List.mem_singleton.mp a1
        have a3 := (N₁ _ (List.mem_append_right _ (hl c))).1
        rw [a1, a3] at a2
        exact .inr (Prod.ext a1 (Option.some.inj a2).symm)
    have fin : ∀ f, (∃ c h' tk m' news', s₂ = { s with heap := h', toks := tk } ∧ Fr h₀ env.locals h' m' ∧ News h₀ env.locals h' news' ∧ (∀ p ∈ Led c, p ∈ news') ∧ ((s.heap.objs.size, oI) : Addr × Obj) ∈ news' ∧ (∀ p ∈ Led c, p.1 ≠ s.heap.objs.size) ∧
      (∀ p ∈ ps c, m' p.1 = some p.2) ∧ (∀ z, z ≠ x → (∀ p ∈ ps c, z ≠ p.1) → stored.contains z = false → m' z = m₀ z) ∧ P (i + 1) c) → (f = Flow.next) → LoopStepU h₀ env.locals [s.heap.objs.size] own (fun m nx => ∃ c, nx = Led c ∧ (∀ p ∈ ps c, m p.1 = some p.2) ∧ (∀ z, z ≠ x → (∀ p ∈ ps c, z ≠ p.1) → stored.contains z = false → m z = m₀ z) ∧ P (i + 1) c) { s with heap := hh', toks := tk' } f s₂ := by
      rintro f ⟨c', h', tk, m', news', e, F', N', hlc, hi', ho, hps, hst, hP'⟩ rfl
      refine ⟨rfl, h', tk, m', Led c', e, F', fun p hp => ?_, fun p hp q => ho p hp (List.mem_singleton.mp q), c', rfl, hps, hst, hP'⟩
      rcases List.mem_append.mp hp with hp | hp
      · rcases own1 p hp with rfl | rfl
        · exact N' _ hi'
        · exact N' _ (hlc _ (hl c'))
      · exact N' p (hlc p hp)
    cases f with
    | ret v => exact .ret p
    | brk => exact .brk p
    | next => exact .next (fin _ p rfl)
    | cont => exact .cont (fin _ p rfl)
  · rintro h' tk m' _ F' N' _ ⟨c, rfl, h1, h2, hP⟩
    exact done c m' h' tk hP (kst_frOut h1 h2 F') N'
end
/-- room for n calls more -/
structure Room (A : Around) (envs : List Env) (n : Nat) : Prop where
  handled : A.handled = none
  frames : A.frames = some envs
  depth : A.depth + 2 * n < recursionLimit
  units : A.units + 20 * n < cLine
theorem Room.deeper {A : Around} {envs : List Env} {n : Nat} (r : Room A envs (n + 1)) (env : Env) : Room (A.deeper env) (env :: envs) n :=
  ⟨r.handled, Around.frames_deeper r.frames, by have := r.depth; show A.depth + 1 + _ < _; omega, by have := r.units; show A.units + 3 + _ < _; omega⟩
theorem Room.make {A : Around} {envs : List Env} {n : Nat} (r : Room A envs (n + 1)) (C : Addr) (vals : List Value) : Room (A.under (.builtin "type.__call__" ⟨.ref C :: vals, []⟩)) envs n :=
  ⟨r.handled, r.frames, by have := r.depth; rw [depth_under_make]; omega, by have := r.units; rw [units_under_make]; omega⟩
theorem Room.less {A : Around} {envs : List Env} {n k : Nat} (r : Room A envs n) (h : k ≤ n) : Room A envs k :=
  ⟨r.handled, r.frames, by have := r.depth; omega, by have := r.units; omega⟩
theorem Room.of {A : Around} {envs : List Env} {n : Nat} (r : Room A envs n) : ∃ dp un gd, A = Ar dp un gd envs ∧ dp + 2 * n < recursionLimit ∧ un + 20 * n < cLine := by
  obtain ⟨hd, dp, fr, gd, un⟩ := A
  obtain ⟨h1, h2, h3, h4⟩ := r
  cases h1; cases h2
  exact ⟨dp, un, gd, rfl, h3, h4⟩
def RoomUp (A : Around) (envs : List Env) (n : Nat) : Prop := ∀ env, Room (A.deeper env) (env :: envs) n
theorem RoomUp.use {A : Around} {envs : List Env} {n k : Nat} {env : Env} (r : RoomUp A envs n) (h : k ≤ n) : Room (A.deeper env) (env :: envs) k := (r env).less h
theorem Room.up {A : Around} {envs : List Env} {n : Nat} (r : Room A envs (n + 1)) : RoomUp A envs n := fun env => r.deeper env
section
variable {w : World} {mean : ExcName → Option Value} {mg mb : Str → Option Value} {base : Heap} {outer : List Env} {s s₀ : Shared} {T rest news : List (Addr × Obj)} {A A₀ : Around} {prog : Program}
  {g : Heap} {L : Addr} {m : Str → Option Value} {env : Env} {D : Value → List (Addr × Obj) → Prop} {P P' : Value → Prop} {f : Value} {args : Args} {Q : Value → Shared → Prop} {E : Value → Shared → Prop}
theorem at_of (B : Below A₀ base outer g) (F : Fr g L s.heap m) (N : News g L s.heap news) (hf : env.frame = some L) (hk : env.scope.kind = .function) (hT : ∀ p ∈ T, p ∈ news) : At base (env :: outer) s.heap T := by
  have B2 := pushX B F hf hk
  refine ⟨B2.stays, B2.frames, fun p hp => ⟨(N p (hT p hp)).1, fresh_of_stays B.stays (N p (hT p hp)).2.2⟩, fun p hp env' he q => ?_⟩
  have hn := N p (hT p hp)
  rcases List.mem_cons.mp he with rfl | he
  · rw [hf] at q; exact hn.2.1 (Option.some.inj q).symm
  · obtain ⟨_, o, ho, _⟩ := B.frames.mem (List.mem_filterMap.mpr ⟨env', he, q⟩)
    rw [hn.2.2] at ho; cases ho
theorem left_back {v : Value} {h' : Heap} (F : Fr g L s.heap m) (N : News g L s.heap news) (hT : ∀ p ∈ T, p ∈ news) (hR : ∀ p ∈ rest, p ∈ news ∧ p.1 ∉ T.map (·.1)) (l : Left s T D v h') :
    Fr g L h' m ∧ ∃ T', D v T' ∧ News g L h' (T' ++ rest) ∧ ∀ p ∈ T', p.1 ∈ T.map (·.1) ∨ (s.heap.objs.size ≤ p.1 ∨ s.heap.get? p.1 = none) := by
  obtain ⟨keep, T', hD, hn⟩ := l
  have nT : ∀ b o, g.get? b = some o → b ∉ T.map (·.1) := fun b o q z => by
    obtain ⟨p, hp, rfl⟩ := List.mem_map.mp z
    rw [(N p (hT p hp)).2.2] at q; cases q
  obtain ⟨oL, es, ep, hL, rL⟩ := F.ns
  have nL : L ∉ T.map (·.1) := fun z => by
    obtain ⟨p, hp, q⟩ := List.mem_map.mp z
    exact (N p (hT p hp)).2.1 q
  refine ⟨⟨⟨oL, es, ep, keep L oL hL nL, rL⟩, fun b o q => keep b o (F.keep b o q) (nT b o q), F.above⟩, T', hD, fun p hp => ?_, fun p hp => (hn p hp).2.imp id .inr⟩
  rcases List.mem_append.mp hp with hp | hp
  · obtain ⟨h1, h2⟩ := hn p hp
    refine ⟨h1, ?_, ?_⟩
    · intro q
      rcases h2 with h2 | h2
      · exact nL (q ▸ h2)
      · rw [q, hL] at h2; cases h2
    · cases q : g.get? p.1 with
      | none => rfl
      | some o =>
        rcases h2 with h2 | h2
        · exact absurd h2 (nT _ _ q)
        · have := F.keep _ _ q; rw [h2] at this; cases this
  · have := N p (hR p hp).1
    exact ⟨keep _ _ this.1 (hR p hp).2, this.2⟩
theorem use_plain (B : Below A₀ base outer g) (F : Fr g L s.heap m) (N : News g L s.heap news) (hf : env.frame = some L) (hk : env.scope.kind = .function) (hT : ∀ p ∈ T, p ∈ news) (hR : ∀ p ∈ rest, p ∈ news ∧ p.1 ∉ T.map (·.1))
    (hc : ∀ R, At base (env :: outer) s.heap T → (∀ v h' tk', Left s T D v h' → R (.ok (.ret v)) { s with heap := h', toks := tk' }) → codeAny (model prog w) A (.call f args) R s)
    (k : ∀ v h' tk' T', Fr g L h' m → News g L h' (T' ++ rest) → D v T' → (∀ p ∈ T', p.1 ∈ T.map (·.1) ∨ (s.heap.objs.size ≤ p.1 ∨ s.heap.get? p.1 = none)) → Q v { s with heap := h', toks := tk' }) :
    wpAny (model prog w) A (call f args.pos args.kw) Q E s := by
  refine wpAny_call (hc _ (at_of B F N hf hk hT) fun v h' tk' l => ?_)
  obtain ⟨F', T', hD, N', hn⟩ := left_back F N hT hR l
  exact k v h' tk' T' F' N' hD hn
theorem use_same {Dv : Value → Prop} (B : Below A₀ base outer g) (F : Fr g L s.heap m) (N : News g L s.heap news) (hf : env.frame = some L) (hk : env.scope.kind = .function) (hT : ∀ p ∈ T, p ∈ news)
    (hc : ∀ R, At base (env :: outer) s.heap T → (∀ v h' tk', Left s T (fun v T' => T' = T ∧ Dv v) v h' → R (.ok (.ret v)) { s with heap := h', toks := tk' }) → codeAny (model prog w) A (.call f args) R s)
    (k : ∀ v h' tk', Fr g L h' m → News g L h' news → Dv v → Q v { s with heap := h', toks := tk' }) :
    wpAny (model prog w) A (call f args.pos args.kw) Q E s := by
  refine wpAny_call (hc _ (at_of B F N hf hk hT) fun v h' tk' l => ?_)
  obtain ⟨F', T', ⟨hT', hD⟩, N', hn⟩ := left_back (rest := []) F N hT (fun _ h => nomatch h) l
  refine k v h' tk' F' (fun p hp => ?_) hD
  by_cases hm : p.1 ∈ T.map (·.1)
  · obtain ⟨q, hq, e⟩ := List.mem_map.mp hm
    have h1 := (N q (hT q hq)).1
    have h2 := (N p hp).1
    rw [e, h2] at h1
    have hpq : p = q := Prod.ext e.symm (Option.some.inj h1)
    exact N' p (List.mem_append_left _ (by rw [hT', hpq]; exact hq))
  · exact ⟨l.keep _ _ (N p hp).1 hm, (N p hp).2⟩
theorem flown_raised {e : Addr} {v : Value} {h' : Heap} {tk : Nat} (F : Fr g L s.heap m) (N : News g L s.heap news) (hf : env.frame = some L) (hT : ∀ p ∈ T, p ∈ news) (hs : ∀ h' tk', ({ s with heap := h', toks := tk' } : Shared) = { s₀ with heap := h', toks := tk' })
    (fl : Flown base (env :: outer) s T v e h') (hP : P v) : RaisedAt base g s₀ env outer P (.ref e) { s with heap := h', toks := tk } := by
  obtain ⟨⟨Bh, de, fly, hbB, hkeep, hns⟩, hfr⟩ := fl
  have nT : ∀ b o, g.get? b = some o → b ∉ T.map (·.1) := fun b o q z => by
    obtain ⟨p, hp, rfl⟩ := List.mem_map.mp z
    rw [(N p (hT p hp)).2.2] at q; cases q
  refine ⟨e, de, v, h', tk, Bh, rfl, hP, hs _ _, hbB, fun b o q hx => hkeep b o (F.keep b o q) (nT b o q) fun env' he z => ?_, fun b o q hx => hfr b o (F.keep b o q) ?_, hns, fly.new, fly.stays, fly.frames, .inl fly⟩
  · rcases List.mem_cons.mp he with rfl | he
    · rw [hf] at z; obtain rfl := Option.some.inj z
      exact absurd (Nat.lt_of_lt_of_le (Heap.lt_size q) F.above) (Nat.lt_irrefl _)
    · exact hx env' he z
  · obtain ⟨env', he, z⟩ := hx
    exact ⟨env', .tail _ he, z⟩
theorem use_raise (B : Below A₀ base outer g) (F : Fr g L s.heap m) (N : News g L s.heap news) (hf : env.frame = some L) (hk : env.scope.kind = .function) (hT : ∀ p ∈ T, p ∈ news) (hR : ∀ p ∈ rest, p ∈ news ∧ p.1 ∉ T.map (·.1))
    (hc : ∀ R, At base (env :: outer) s.heap T → (∀ v h' tk', Left s T D v h' → R (.ok (.ret v)) { s with heap := h', toks := tk' }) → (∀ e v h' tk', P' v → Flown base (env :: outer) s T v e h' → R (.error (.ref e)) { s with heap := h', toks := tk' }) → codeAny (model prog w) A (.call f args) R s)
    (kE : ∀ x s', RaisedAt base g s₀ env outer P x s' → E x s') (hP : ∀ v, P' v → P v) (hs : ∀ h' tk', ({ s with heap := h', toks := tk' } : Shared) = { s₀ with heap := h', toks := tk' })
    (k : ∀ v h' tk' T', Fr g L h' m → News g L h' (T' ++ rest) → D v T' → (∀ p ∈ T', p.1 ∈ T.map (·.1) ∨ (s.heap.objs.size ≤ p.1 ∨ s.heap.get? p.1 = none)) → Q v { s with heap := h', toks := tk' }) :
    wpAny (model prog w) A (call f args.pos args.kw) Q E s := by
  refine wpAny_call (hc _ (at_of B F N hf hk hT) (fun v h' tk' l => ?_) fun e v h' tk' hv fl => kE _ _ (flown_raised F N hf hT hs fl (hP v hv)))
  obtain ⟨F', T', hD, N', hn⟩ := left_back F N hT hR l
  exact k v h' tk' T' F' N' hD hn
theorem refusal_raise (G : Gr w mean mg mb base) {v : Value} {E' : Value → Shared → Prop} {tk₀ : Nat} {hp₀ : Heap} (kE : ∀ x s', RaisedAt base g s₀ env outer P x s' → E x s')
    (B : Below A₀ base outer g) (F : Fr g L hp₀ m) (N : News g L hp₀ news) (X : (hd.heap_39 w.params).In g) (rm : Room A (env :: outer) 3) (hf : env.frame = some L) (hk : env.scope.kind = .function) (hP : P v) :
    wpAny (model prog w) A (call (.ref 44) [v]) (fun v s₁ => ∃ e t₀ de, v = .ref e ∧ base.StaysIn s₁.heap ∧ s₁.heap.get? e = some { freshExc t₀ with dict := some de } ∧ E (.ref e) s₁) E' { s₀ with heap := hp₀, toks := tk₀ } := by
  refine refusal_make (s := { s₀ with heap := hp₀, toks := tk₀ }) G B F N X rm.frames hf hk (by have := rm.depth; omega) fun h' e de tk t₀ F' N' he hn hs1 hs2 hde => ?_
  have B2 := pushX B F' hf hk
  have B1 := pushX B F hf hk
  refine ⟨e, t₀, de, rfl, B2.stays, he, kE _ _ (raised_made B F' hf hk he hn hde ?_ ?_ hP rfl)⟩
  · cases q : g.get? e with
    | none => rfl
    | some o => have := F.keep _ _ q; have hs1' : hp₀.get? e = none := hs1; rw [hs1'] at this; cases this
  · intro env' he' z
    obtain ⟨_, o, ho, _⟩ := B1.frames.mem (List.mem_filterMap.mpr ⟨env', he', z⟩)
    have hs2' : hp₀.get? de = none := hs2
    rw [hs2'] at ho; cases ho
end
def AllNe (d : Nat) : List (Addr × Obj) → Prop
  | [] => True
  | p :: r => p.1 ≠ d ∧ AllNe d r
theorem allNe_of {d : Addr} : ∀ {l : List (Addr × Obj)}, (∀ p ∈ l, p.1 ≠ d) → AllNe d l
  | [], _ => trivial
  | p :: _, h => ⟨h p (.head _), allNe_of fun q hq => h q (.tail _ hq)⟩
theorem off_of {l l' : List (Addr × Obj)} {I : Addr} (h : ∀ p ∈ l, p.1 ≠ I) (e : l'.map (·.1) = l.map (·.1)) : ∀ p ∈ l', p.1 ≠ I := fun p hp q => by
  have : p.1 ∈ l.map (·.1) := e ▸ List.mem_map.mpr ⟨p, hp, rfl⟩
  obtain ⟨r, hr, e⟩ := List.mem_map.mp this
  exact h r hr (e.trans q)
inductive All2 {α β : Type} (R : α → β → Prop) : List α → List β → Prop
  | nil : All2 R [] []
  | cons {a b as bs} : R a b → All2 R as bs → All2 R (a :: as) (b :: bs)
section
variable {α β : Type} {R : α → β → Prop}
theorem All2.length {as : List α} {bs : List β} (h : All2 R as bs) : as.length = bs.length := by
  induction h with
  | nil => rfl
  | cons _ _ ih => rw [List.length_cons, List.length_cons, ih]
theorem All2.get {as : List α} {bs : List β} (h : All2 R as bs) : ∀ {i : Nat} {a : α}, as[i]? = some a → ∃ b, bs[i]? = some b ∧ R a b := by
  induction h with
  | nil => intro i a e; cases e
  | cons r _ ih =>
    intro i a e
    cases i with
    | zero => cases e; exact ⟨_, rfl, r⟩
    | succ i => exact ih e
theorem All2.get' {as : List α} {bs : List β} (h : All2 R as bs) : ∀ {i : Nat} {b : β}, bs[i]? = some b → ∃ a, as[i]? = some a ∧ R a b := by
  induction h with
  | nil => intro i a e; cases e
  | cons r _ ih =>
    intro i a e
    cases i with
    | zero => cases e; exact ⟨_, rfl, r⟩
    | succ i => exact ih e
theorem All2.append {as as' : List α} {bs bs' : List β} (h : All2 R as bs) (h' : All2 R as' bs') : All2 R (as ++ as') (bs ++ bs') := by
  induction h with
  | nil => exact h'
  | cons r _ ih => exact .cons r ih
theorem All2.snoc {as : List α} {bs : List β} {a : α} {b : β} (h : All2 R as bs) (r : R a b) : All2 R (as ++ [a]) (bs ++ [b]) := h.append (.cons r .nil)
end
def IsTag (v : Value) (t : Tag) : Prop := match t with
  | none => v = .none
  | some x => ∃ tk, v = .str x tk
abbrev TagsAre : List Value → List Tag → Prop := All2 IsTag
def IsPl (p : Str × Value) (q : Str × Nat) : Prop := p.1 = q.1 ∧ ∃ tk, p.2 = .int (q.2 : Int) tk
abbrev PlAre : List (Str × Value) → Pl → Prop := All2 IsPl
theorem valueAt_has {kvs : List (Str × Value)} {pl : Pl} (h : PlAre kvs pl) (k : Str) : (valueAt kvs k).isSome = hasP pl k := by
  induction h with
  | nil => rfl
  | @cons a b as bs r _ ih =>
    obtain ⟨r1, _⟩ := r
    simp only [valueAt, hasP, List.find?_cons, List.any_cons, r1] at ih ⊢
    by_cases e : b.1 = k
    · simp [e]
    · simp only [e, decide_false, Bool.false_or]
      exact ih
theorem stored_new {kvs : List (Str × Value)} {pl : Pl} (h : PlAre kvs pl) {k : Str} (hk : hasP pl k = false) {n : Nat} {tk : Tok} : PlAre (stored kvs k (.int (n : Int) tk)) (pl ++ [(k, n)]) := by
  have hn : ∀ {kvs : List (Str × Value)} {pl : Pl}, PlAre kvs pl → hasP pl k = false → kvs.any (fun kv => decide (kv.1 = k)) = false := by
    intro kvs pl h
    induction h with
    | nil => intro _; rfl
    | cons r _ ih =>
      intro hk
      simp only [hasP, List.any_cons, Bool.or_eq_false_iff] at hk ⊢
      exact ⟨by rw [r.1]; exact hk.1, ih hk.2⟩
  have e : stored kvs k (.int (n : Int) tk) = kvs ++ [(k, .int (n : Int) tk)] := by
    unfold stored
    rw [hn h hk]
    rfl
  rw [e]
  exact h.snoc ⟨rfl, tk, rfl⟩
section
variable {prog : Program} {w : World} {A : Around} {E : Value → Shared → Prop} {s : Shared} {h₀ : Heap} {L : Addr} {news : List (Addr × Obj)}
theorem item_tag {value slice : Expr} {l : Addr} {vs : List Value} {nn : Nat} {ts : List Tag} {k : Int} {u : Tok} {Q : Value → Shared → Prop}
    (N : News h₀ L s.heap news) (hm : (l, PySem.W.listOf vs.toArray nn) ∈ news) (ht : TagsAre vs ts) (h0 : 0 ≤ k) (hhi : k < 2 ^ 63) (hk : k < ts.length)
    (h : (∀ x t, ts[k.toNat]? = some (some x) → Q (.str x t) s) ∧ (ts[k.toNat]? = some none → Q .none s))
    (hs : subscripted slice false (.ref l) (.int k u) = operate [.ref l, .int k u] (getItem (.ref l) (.int k u)) := by with_unfolding_all rfl) :
    wpAny (model prog w) A (subscriptTail value slice (.ref l) (.int k u)) Q E s := by
  have hl : s.heap.IsList l vs.toArray := ⟨_, (N _ hm).1, rfl, nn, rfl⟩
  have hlt : k.toNat < ts.length := by omega
  obtain ⟨v, hv, r⟩ := ht.get' (List.getElem?_eq_getElem hlt)
  refine tail_any hl.typeIs slot_list_getitem.lookup (wpAny_getItem_list hl h0 hhi (by simpa using hv) ?_) hs
  have e := List.getElem?_eq_getElem hlt
  revert r e
  generalize ts[k.toNat] = y
  intro r e
  cases y with
  | none => cases r; exact h.2 e
  | some x => obtain ⟨tk, rfl⟩ := r; exact h.1 x tk e
theorem item_int {value slice : Expr} {l : Addr} {vs : List Value} {nn : Nat} {ns : List Int} {k : Int} {u : Tok} {Q : Value → Shared → Prop}
    (N : News h₀ L s.heap news) (hm : (l, PySem.W.listOf vs.toArray nn) ∈ news) (ht : IntsAre vs ns) (h0 : 0 ≤ k) (hhi : k < 2 ^ 63) (hk : k < ns.length)
    (h : ∀ x t, ns[k.toNat]? = some x → Q (.int x t) s)
    (hs : subscripted slice false (.ref l) (.int k u) = operate [.ref l, .int k u] (getItem (.ref l) (.int k u)) := by with_unfolding_all rfl) :
    wpAny (model prog w) A (subscriptTail value slice (.ref l) (.int k u)) Q E s := by
  have hl : s.heap.IsList l vs.toArray := ⟨_, (N _ hm).1, rfl, nn, rfl⟩
  have hlt : k.toNat < ns.length := by omega
  obtain ⟨t, hv⟩ := ht.get k.toNat ns[k.toNat] (by simp [hlt])
  exact tail_any hl.typeIs slot_list_getitem.lookup (wpAny_getItem_list hl h0 hhi (by simpa using hv) (h _ t (List.getElem?_eq_getElem hlt))) hs
theorem len_led {l : Addr} {vs : List Value} {nn n : Nat} {Q : Value → Shared → Prop} (N : News h₀ L s.heap news) (hm : (l, PySem.W.listOf vs.toArray nn) ∈ news) (hn : vs.length = n) (hs : n ≤ 1000000)
    (h : Q (.int (n : Int) (s.toks + 1)) { s with toks := s.toks + 1 + 1 }) : wpAny (model prog w) A (call (.builtin "len") [.ref l]) Q E s := by
  have hl : s.heap.IsList l vs.toArray := ⟨_, (N _ hm).1, rfl, nn, rfl⟩
  have e : vs.toArray.size = n := by simp [hn]
  refine Calls.call_len_list hl (by rw [e]; omega) ?_
  rw [e]; exact h
end
section
variable {prog : Program} {w : World} {A : Around} {E : Value → Shared → Prop} {s : Shared} {h₀ : Heap} {L : Addr} {m : Str → Option Value} {news : List (Addr × Obj)}
theorem in_pl {dd : Addr} {o : Obj} {kvs : List (Str × Value)} {pl : Pl} {k : Str} {tk : Tok} {Q : Value → Shared → Prop} (N : News h₀ L s.heap news) (hm : (dd, o) ∈ news) (hd : o.IsDictOf (PySem.strKind prog w) kvs) (hp : PlAre kvs pl) (lo : (dd == sysModules) = false)
    (h : Q (.bool (hasP pl k)) { s with toks := s.toks + 1 }) : wpAny (model prog w) A (compareOp .In (.str k tk) (.ref dd)) Q E s :=
  kda_in (knd := PySem.strKind _ _) N hm hd lo (strKind_is _ _ _ _) _ (valueAt_has hp k) h
theorem notin_pl {dd : Addr} {o : Obj} {kvs : List (Str × Value)} {pl : Pl} {k : Str} {tk : Tok} {Q : Value → Shared → Prop} (N : News h₀ L s.heap news) (hm : (dd, o) ∈ news) (hd : o.IsDictOf (PySem.strKind prog w) kvs) (hp : PlAre kvs pl) (lo : (dd == sysModules) = false)
    (h : Q (.bool (!hasP pl k)) { s with toks := s.toks + 1 }) : wpAny (model prog w) A (compareOp .NotIn (.str k tk) (.ref dd)) Q E s :=
  kdg_notin (knd := PySem.strKind _ _) N hm hd lo (strKind_is _ _ _ _) _ (valueAt_has hp k) h
theorem set_pl {dd : Addr} {o : Obj} {g : Obj → List (Addr × Obj)} {kvs : List (Str × Value)} {pl : Pl} {k : Str} {tk tv : Tok} {n : Nat} {Q : Unit → Shared → Prop} (F : Fr h₀ L s.heap m) (N : News h₀ L s.heap news) (U : UpdF dd o news g)
    (hd : o.IsDictOf (PySem.strKind prog w) kvs) (hp : PlAre kvs pl) (hk : hasP pl k = false) (hsz : pl.length ≤ 1000)
    (h : ∀ h' o' kvs', Fr h₀ L h' m → News h₀ L h' (g o') → o'.IsDictOf (PySem.strKind prog w) kvs' → PlAre kvs' (pl ++ [(k, n)]) → Q () { s with heap := h', toks := s.toks + 1 }) :
    wpAny (model prog w) A (setItem (.ref dd) (.str k tk) (.int (n : Int) tv)) Q E s :=
  kda_set (knd := PySem.strKind _ _) F N U hd (strKind_is _ _ _ _) (by rw [hp.length, sizeLine_eq]; omega) fun h' o' F' N' hd' => h h' o' _ F' N' hd' (stored_new hp hk)
end
theorem showInt_len {j : Nat} (h : j < 1000) : (Str.ofString (toString ((j : Int) + 1))).length ≤ 10 := by
  have e := int_text_length_le10 (a := (j : Int) + 1) (k := 4) (by decide) (by omega)
  rw [PySem.ofString_length]; omega
theorem argText_len {j : Nat} (h : j < 1000) : (argText j).length ≤ sizeLine := by
  have e := showInt_len h
  unfold argText
  simp only [Str.length_append]
  have a1 : Str.empty.length = 0 := by decide +kernel
  have a2 : (Str.ofString "argument ").length = 9 := by decide +kernel
  have a3 : (Str.ofString " matches multiple formal arguments").length = 34 := by decide +kernel
  rw [sizeLine_eq]; omega
theorem small_zero {n : Nat} (h : n ≤ 1000000) : Builtin.Range.small 0 (n : Int) 1 = true :=
  small_one (by omega) (by omega) (by omega) (by omega)
section
variable {w : World} {mean : ExcName → Option Value} {mg mb : Str → Option Value} {base : Heap} {envs : List Env} {s : Shared} {T : List (Addr × Obj)} {A : Around} {prog : Program}
  {R : Result → Shared → Prop} {P : Value → Prop}
  {name qual : Str} {params : Arguments} {body : List Stmt} {scope : Scope} {dV kV doc pm cdv ct oc : Value} {an od : Option Addr} {osl : Array (Option Value)} {f : Addr} {args : Args} {binds : List (Str × Value)}
  {D : Value → List (Addr × Obj) → Prop}
theorem enterX (G : Gr w mean mg mb base) (a : At base envs s.heap T) (hfr : A.frames = some envs) (hroom : A.depth < recursionLimit)
    (ho : (hd.heap_39 w.params).lookup f = some ⟨oc, od, .func (fnX name qual params body scope [] dV kV doc pm an cdv ct), osl⟩) (hcd : codeIn (hd.heap_39 w.params) cdv qual = true)
    (hbind : BindsTo s (fnX name qual params body scope [] dV kV doc pm an cdv ct) args binds)
    (hkind : (binds.all fun y => scope.names.lookup y.1 == some .local || scope.names.lookup y.1 == some .cell) = true)
    (hnd : ((cellsFrom 0 scope.names []).map (·.1)).Nodup)
    (h : ∀ g L' h₁ tk cells (E : Value → Shared → Prop), Fr g L' h₁ (bindL (envOfC qual scope L' f cdv).kindOf binds fun _ => none) → News g L' h₁ (cells ++ T) →
      CellsAre (bindC (envOfC qual scope L' f cdv).kindOf binds fun _ => none) (cellsFrom (L' + 1) scope.names []) cells → Below A base envs g → (hd.heap_39 w.params).In g →
      Top hd.view_39 (looseW hd.view_39 [Str.ofString "match_names", Str.ofString "take"]) mean mg mb g → (∀ p ∈ T, p.1 < L') → (∀ b o, s.heap.get? b = some o → b ∉ T.map (·.1) → g.get? b = some o) →
      PassesOwn (model prog w) (A.deeper (envOfC qual scope L' f cdv)) (envOfC qual scope L' f cdv) E → (∀ x s', RaisedAt base g s (envOfC qual scope L' f cdv) envs P x s' → E x s') →
      wpAny (model prog w) (A.deeper (envOfC qual scope L' f cdv)) (execs body (envOfC qual scope L' f cdv))
        (fun fl s' => Back g s D (match fl with | .ret v => v | _ => .none) s') E
        { s with heap := h₁, toks := tk })
    (k : ∀ v h' tk', Left s T D v h' → R (.ok (.ret v)) { s with heap := h', toks := tk' })
    (kr : ∀ e v h' tk', P v → Flown base envs s T v e h' → R (.error (.ref e)) { s with heap := h', toks := tk' })
    (hco : scope.isCoroutine = false) (hgen : scope.isGenerator = false) (hk : scope.kind = .function) : codeAny (model prog w) A (.call (.ref f) args) R s := by
  obtain ⟨st, ff⟩ := ground a
  have X2 := G.kin.keeps st
  have T2 := G.top.keeps st
  have X : (hd.heap_39 w.params).In s.heap := G.kin.keeps a.stays
  refine codeAny_call_function hroom (X _ _ ho) rfl hco hgen rfl (codeRec_of X hcd) (hbind _ _ _ _ ?_)
  refine wpAny_newFunctionEnv_cells hk (kindsX hkind _) fun env' he s' x => ?_
  subst he
  refine ⟨(G.top.nolimit.keeps a.stays).keeps x.toInCall.keep, codeAny_func ?_⟩
  obtain ⟨h₁, tk, rfl, _⟩ := x.done
  have hk₁ := x.toInCall.keep
  obtain ⟨cells, NC, Y⟩ := Cl.news (h₀ := s.heap) (Nat.le_refl _) fun n c hm => ⟨x.cell n c (lookup_of_mem_nodup (cellsFrom_names scope.names 0 (s.heap.objs.size + 1) [] [] rfl ▸ hnd) hm), x.above n c hm⟩
  refine wpAny_mono (h (hideAll s.heap (T.map (·.1))) s.heap.objs.size h₁ tk cells _ ⟨x.toInCall.ns, fun b o e => hk₁ b o (of_hideAll _ e), Nat.le_of_eq (hideAll_size _ _)⟩ (fun p hp => ?_) Y
    ⟨hfr, st, ff⟩ X2 T2 (fun p hp => Heap.lt_size (a.news p hp).1) (fun b o e q => hideAll_get _ e q) PassesOwn.leaving
    (fun x s' r => raised_leaves (Around.frames_deeper hfr) rfl rfl a.apart kr r)) (fun fl s' hl => ?_) fun _ _ y => y
  · rcases List.mem_append.mp hp with hp | hp
    · refine ⟨(NC p hp).1, (NC p hp).2.1, ?_⟩
      cases q : (hideAll s.heap (T.map (·.1))).get? p.1 with
      | none => rfl
      | some o => have := of_hideAll _ q; rw [(NC p hp).2.2] at this; cases this
    · exact ⟨hk₁ _ _ (a.news p hp).1, Nat.ne_of_lt (Heap.lt_size (a.news p hp).1), hideAll_none _ (List.mem_map_of_mem hp)⟩
  · obtain ⟨L, m, news, h', tk, rfl, F, N, hD⟩ := hl
    refine k _ h' tk ⟨fun b o e hb => F.keep b o (hideAll_get _ e hb), news, hD, fun p hp => ⟨(N p hp).1, ?_⟩⟩
    by_cases hm : p.1 ∈ T.map (·.1)
    · exact .inl hm
    · right
      cases q : s.heap.get? p.1 with
      | none => rfl
      | some o => have := (N p hp).2.2; rw [hideAll_get _ q hm] at this; cases this
end
section
variable {prog : Program} {w : World} {A : Around} {E : Value → Shared → Prop} {s : Shared} {h₀ : Heap} {L : Addr} {m : Str → Option Value} {env : Env}
  {elt ct : Expr} {x : Str} {scope : Scope} {cl : List (Str × Addr)} {S : List (Addr × Obj) → Prop} {P : Nat → Value → Prop} {Fin : List Value → List (Addr × Obj) → Prop}
/-- a list comprehension by what holds between its turns -/
theorem comp_inv {σ : Type} (Led : σ → List (Addr × Obj)) (Inv : Nat → List Value → σ → Prop) {n : Nat} (c₀ : σ) (h0 : Inv 0 [] c₀)
    (turn : ∀ i ys c v I oI C oC D m₂ h tk (E' : Value → Shared → Prop), i < n → P i v → Inv i ys c → LCg.NsObj oC m₂ → m₂ x = some v → Fr h₀ L h m → News h₀ L h ((I, oI) :: (C, oC) :: (D, LCg.lst ys) :: Led c) → LCg.Off3 I C D (Led c) → ((@Ne Nat I C) ∧ (@Ne Nat I D) ∧ (@Ne Nat C D)) →
      wpAny (model prog w) A (eval elt (compEnvC scope cl C env)) (LCg.CompEnd h₀ L m { s with heap := h, toks := tk } I oI C oC D (LCg.lst ys) S (fun y news' => ∃ c', news' = Led c' ∧ Inv (i + 1) (ys ++ [y]) c')) E' { s with heap := h, toks := tk })
    (fin : ∀ ys c, Inv n ys c → Fin ys (Led c)) : LCg.CompRest prog w A h₀ L m env elt x scope cl s S P Fin n 0 [] (Led c₀) := by
  have key : ∀ (j i : Nat) (ys : List Value) (c : σ), i + j = n → Inv i ys c → LCg.CompRest prog w A h₀ L m env elt x scope cl s S P Fin j i ys (Led c) := by
    intro j
    induction j with
    | zero =>
      intro i ys c hi hy
      have e : i = n := by omega
      subst e
      exact LCg.CompRest.zero (fin ys c hy)
    | succ j ih =>
      intro i ys c hi hy
      refine LCg.CompRest.succ ?_
      intro v I oI C oC D m₂ h tk E' hv hC hx F N off ne
      refine wpAny_mono (turn i ys c v I oI C oC D m₂ h tk E' (by omega) hv hy hC hx F N off ne) (fun y s₂ hq => ?_) fun _ _ e => e
      obtain ⟨h', tk', nw, e, F', N', off', hS, c', rfl, hI⟩ := hq
      exact ⟨h', tk', _, e, F', N', off', hS, ih (i + 1) _ c' (by omega) hI⟩
  exact key n 0 [] c₀ (by omega) h0
theorem compT_inv {σ : Type} (Led : σ → List (Addr × Obj)) (Inv : Nat → List Value → σ → Prop) {n : Nat} (c₀ : σ) (h0 : Inv 0 [] c₀)
    (turn : ∀ i ys c v I oI C oC D m₂ h tk (E' : Value → Shared → Prop), i < n → P i v → Inv i ys c → LCg.NsObj oC m₂ → m₂ x = some v → Fr h₀ L h m → News h₀ L h ((I, oI) :: (C, oC) :: (D, LCg.lst ys) :: Led c) → LCg.Off3 I C D (Led c) → ((@Ne Nat I C) ∧ (@Ne Nat I D) ∧ (@Ne Nat C D)) →
      wpAny (model prog w) A (isTrue ct (compEnvC scope cl C env) (eval ct (compEnvC scope cl C env))) (fun ok s' => if ok = true then
        wpAny (model prog w) A (eval elt (compEnvC scope cl C env)) (LCg.CompEnd h₀ L m { s with heap := h, toks := tk } I oI C oC D (LCg.lst ys) S (fun y news' => ∃ c', news' = Led c' ∧ Inv (i + 1) (ys ++ [y]) c')) E' s'
        else LCg.CompEnd h₀ L m { s with heap := h, toks := tk } I oI C oC D (LCg.lst ys) S (fun _ news' => ∃ c', news' = Led c' ∧ Inv (i + 1) ys c') Value.none s') E' { s with heap := h, toks := tk })
    (fin : ∀ ys c, Inv n ys c → Fin ys (Led c)) : LCt.CompRestT prog w A h₀ L m env ct elt x scope cl s S P Fin n 0 [] (Led c₀) := by
  have key : ∀ (j i : Nat) (ys : List Value) (c : σ), i + j = n → Inv i ys c → LCt.CompRestT prog w A h₀ L m env ct elt x scope cl s S P Fin j i ys (Led c) := by
    intro j
    induction j with
    | zero =>
      intro i ys c hi hy
      have e : i = n := by omega
      subst e
      exact LCt.CompRestT.zero (fin ys c hy)
    | succ j ih =>
      intro i ys c hi hy
      refine LCt.CompRestT.succ ?_
      intro v I oI C oC D m₂ h tk E' hv hC hx F N off ne
      have cv : ∀ {y : Value} {ys' : List Value} {s₂ : Shared}, LCg.CompEnd h₀ L m { s with heap := h, toks := tk } I oI C oC D (LCg.lst ys) S (fun _ news' => ∃ c', news' = Led c' ∧ Inv (i + 1) ys' c') y s₂ →
          LCg.CompEnd h₀ L m { s with heap := h, toks := tk } I oI C oC D (LCg.lst ys) S (fun _ news' => LCt.CompRestT prog w A h₀ L m env ct elt x scope cl s S P Fin j (i + 1) ys' news') y s₂ := by
        intro y ys' s₂ hq
        obtain ⟨h', tk', nw, e, F', N', off', hS, c', rfl, hI⟩ := hq
        exact ⟨h', tk', _, e, F', N', off', hS, ih (i + 1) _ c' (by omega) hI⟩
      refine wpAny_mono (turn i ys c v I oI C oC D m₂ h tk E' (by omega) hv hy hC hx F N off ne) (fun ok s₂ hq => ?_) fun _ _ e => e
      cases ok with
      | true =>
        simp only [if_true] at hq ⊢
        refine wpAny_mono hq (fun y s₃ hq => ?_) fun _ _ e => e
        obtain ⟨h', tk', nw, e, F', N', off', hS, c', rfl, hI⟩ := hq
        exact ⟨h', tk', _, e, F', N', off', hS, ih (i + 1) _ c' (by omega) hI⟩
      | false =>
        simp only [Bool.false_eq_true, if_false] at hq ⊢
        exact cv hq
  exact key n 0 [] c₀ (by omega) h0
end
theorem off3_of {I C D : Addr} {l l' : List (Addr × Obj)} (h : LCg.Off3 I C D l) (e : l'.map (·.1) = l.map (·.1)) : LCg.Off3 I C D l' := by
  refine LCg.Off3.of fun p hp => ?_
  have hm : p.1 ∈ l.map (·.1) := e ▸ List.mem_map_of_mem hp
  obtain ⟨q, hq, e'⟩ := List.mem_map.mp hm
  exact e' ▸ h.mem q hq
/-- a list of pairs (tag, value) -/
abbrev IsArg (h : Heap) (v : Value) (q : Tag × Value) : Prop := ∃ T tv, v = .ref T ∧ IsTup h T #[tv, q.2] ∧ IsTag tv q.1
abbrev ArgsAre (h : Heap) : List Value → List (Tag × Value) → Prop := All2 (IsArg h)
theorem ArgsAre.up {h h' : Heap} (k : ∀ b o, h.get? b = some o → h'.get? b = some o) {av : List Value} {qs : List (Tag × Value)} (x : ArgsAre h av qs) : ArgsAre h' av qs := by
  induction x with
  | nil => exact .nil
  | cons r _ ih =>
    obtain ⟨T, tv, e, ht, hg⟩ := r
    exact .cons ⟨T, tv, e, ht.keeps k, hg⟩ ih
section
variable {prog : Program} {w : World} {A : Around} {E : Value → Shared → Prop} {s : Shared} {h₀ : Heap} {L : Addr} {m : Str → Option Value} {news : List (Addr × Obj)}
theorem item_arg {value slice : Expr} {l : Addr} {vs : List Value} {qs : List (Tag × Value)} {k : Int} {u : Tok} {Q : Value → Shared → Prop}
    (F : Fr h₀ L s.heap m) (hl₀ : h₀.IsList l vs.toArray) (ht : ArgsAre h₀ vs qs) (h0 : 0 ≤ k) (hhi : k < 2 ^ 63) (hk : k < qs.length)
    (h : ∀ T tv q, qs[k.toNat]? = some q → IsTup h₀ T #[tv, q.2] → IsTag tv q.1 → Q (.ref T) s)
    (hs : subscripted slice false (.ref l) (.int k u) = operate [.ref l, .int k u] (getItem (.ref l) (.int k u)) := by with_unfolding_all rfl) :
    wpAny (model prog w) A (subscriptTail value slice (.ref l) (.int k u)) Q E s := by
  have hl : s.heap.IsList l vs.toArray := hl₀.at fun o e => F.keep _ _ e
  have hlt : k.toNat < qs.length := by omega
  obtain ⟨v, hv, T, tv, rfl, hT, hg⟩ := ht.get' (List.getElem?_eq_getElem hlt)
  refine tail_any hl.typeIs slot_list_getitem.lookup (wpAny_getItem_list hl h0 hhi (by simpa using hv) ?_) hs
  exact h T tv _ (List.getElem?_eq_getElem hlt) hT hg
end
def showTag (ts : List Tag) (j : Nat) : Str := match ts.getD j none with
  | none => Str.ofString (toString ((j : Int) + 1))
  | some x => if x = emp then Str.ofString (toString ((j : Int) + 1)) else x
theorem showTag_none {qs : List (Tag × Value)} {j : Nat} {val : Value} (e : qs[((j : Int)).toNat]? = some (none, val)) : showTag (qs.map (·.1)) j = Str.ofString (toString ((j : Int) + 1)) := by
  rw [toNat_nat] at e
  unfold showTag
  rw [List.getD_eq_getElem?_getD, List.getElem?_map, e]; rfl
theorem showTag_str {qs : List (Tag × Value)} {j : Nat} {val : Value} {x : Str} (e : qs[((j : Int)).toNat]? = some (some x, val)) : showTag (qs.map (·.1)) j = if x = emp then Str.ofString (toString ((j : Int) + 1)) else x := by
  rw [toNat_nat] at e
  unfold showTag
  rw [List.getD_eq_getElem?_getD, List.getElem?_map, e]; rfl
def unusedText (ts : List Tag) (rest : List Nat) : Str := (if 1 < rest.length then Str.ofString "unused arguments" else Str.ofString "unused argument") ++ Str.ofString " (" ++ Txt.join (Str.ofString ", ") (rest.map (showTag ts)) ++ Str.ofString ")"
theorem showTag_len {ts : List Tag} {j : Nat} (hj : j < 1000) (h : ∀ x, some x ∈ ts → x.length ≤ 10) : (showTag ts j).length ≤ 10 := by
  unfold showTag
  split
  · exact showInt_len hj
  · split
    · exact showInt_len hj
    · rename_i x e _
      refine h x ?_
      rw [List.getD_eq_getElem?_getD] at e
      cases q : ts[j]? with
      | none => rw [q] at e; cases e
      | some y => rw [q] at e; cases e; exact List.mem_of_getElem? q
theorem joinTags_len {ts : List Tag} {rest : List Nat} (hr : rest.length ≤ 10) (hj : ∀ j ∈ rest, j < 1000) (h : ∀ x, some x ∈ ts → x.length ≤ 10) :
    ((rest.map (showTag ts)).map (·.length)).sum + (rest.map (showTag ts)).length ≤ 200 ∧ (Txt.join (Str.ofString ", ") (rest.map (showTag ts))).length ≤ 200 := by
  have h1 := StrLaws.sumLen_le (B := 10) (rest.map (showTag ts)) (fun y hy => by
    obtain ⟨j, hj', rfl⟩ := List.mem_map.mp hy
    exact showTag_len (hj j hj') h)
  have h2 := StrLaws.join_length_le (Str.ofString ", ") (rest.map (showTag ts))
  have h3 : (Str.ofString ", ").length = 2 := by decide +kernel
  rw [h3] at h2
  rw [List.length_map] at h1 h2 ⊢
  refine ⟨by omega, ?_⟩
  show (Builtin.Str.glued _ _).length ≤ _
  rw [StrLaws.glued_eq_join]
  omega
theorem intsAre_at {vs : List Value} {ns : List Nat} (h : IntsAre vs (ns.map fun (j : Nat) => (j : Int))) {i : Nat} {v : Value} (e : vs.toArray[i]? = some v) : ∃ j t, ns[i]? = some j ∧ v = .int (j : Int) t := by
  obtain ⟨k, t, e', hk⟩ := IntsAre.at h i v (by simpa using e)
  rw [List.getElem?_map] at hk
  cases q : ns[i]? with
  | none => rw [q] at hk; cases hk
  | some j => rw [q] at hk; cases hk; exact ⟨j, t, rfl, e'⟩
theorem strsAre_snoc {vs : List Value} {ns : List Str} {k : Str} {t : Tok} (h : StrsAre vs ns) : StrsAre (vs ++ [.str k t]) (ns ++ [k]) := kct_snoc h
section
variable {prog : Program} {w : World} {A : Around} {E : Value → Shared → Prop} {s : Shared} {h₀ : Heap} {L : Addr} {m : Str → Option Value} {news : List (Addr × Obj)}
theorem join_led {D : Addr} {vs : List Value} {nn : Nat} {ys : List Str} {x : Str} {t : Tok} {Q : Value → Shared → Prop} (N : News h₀ L s.heap news) (hm : (D, PySem.W.listOf vs.toArray nn) ∈ news) (hi : StrsAre vs ys) (hsep : x.length ≤ 16) (hw : (ys.map (·.length)).sum + ys.length ≤ 1048576)
    (h : ∀ t' k, Q (.str (Txt.join x ys) t') { s with toks := k }) : wpAny (model prog w) A (call (.builtin "str.join") [.str x t, .ref D]) Q E s :=
  join_listW ⟨_, (N _ hm).1, rfl, nn, rfl⟩ hi hsep hw h
end
theorem cleanF05 : True := by
  w_top off
  k_with_none
  exact trivial
theorem fillF0 : (PySem.Challenge.rw_no0499_01 = PySem.Challenge.rw_no0499_01) ∧ hd.heap_39 = hd.heap_39 := by
  k_fill
  exact ⟨rfl, rfl⟩
theorem cleanF06 : True := by
  k_with "z_k_ne" => (((try dsimp only); first | assumption | exact Ne.symm (by assumption)))
  k_with "z:exec For Name Call cons nil" => (refine wall ?_)
  k_with "z:exec For Name Attribute cons nil" => (refine wall ?_)
  k_with "z:exec For Name Name cons nil" => (refine wall ?_)
  k_with "z:pyIter ref" => (refine wall ?_)
  k_with "z:call builtin:len" => (((with_reducible show wpAny _ _ (call (Value.builtin _) [Value.ref _]) _ _ _); k_dflt (apply len_led; (case N => k_asm); (case hm => k_mem); (case hn => k_asm); (case hs => omega))))
  k_with "z_item_tag_subscriptTail_Name_Name_ref_int" => ((with_reducible show wpAny _ _ (subscriptTail _ _ (Value.ref _) (Value.int _ _)) _ _ _); apply item_tag; (case hs => with_unfolding_all rfl); (case N => k_asm); (case hm => k_mem); (case ht => assumption); (case h0 => omega); (case hhi => omega); (case hk => omega))
  k_with "z_item_int_subscriptTail_Name_Name_ref_int" => ((with_reducible show wpAny _ _ (subscriptTail _ _ (Value.ref _) (Value.int _ _)) _ _ _); apply item_int; (case hs => with_unfolding_all rfl); (case N => k_asm); (case hm => k_mem); (case ht => assumption); (case h0 => omega); (case hhi => omega); (case hk => omega))
  k_with "z:compareOp In str ref" => ((k_dflt (apply in_pl; (case N => k_asm); (case hm => k_mem); (case hd => assumption); (case hp => assumption); (case lo => assumption))))
  k_with "z:compareOp NotIn str ref" => ((k_dflt (apply notin_pl; (case N => k_asm); (case hm => k_mem); (case hd => assumption); (case hp => assumption); (case lo => assumption))))
  k_with "z_set_pl_setItem_ref_str" => (apply set_pl; (case F => k_asm); (case N => k_asm); (case U => k_updF); (case hd => assumption); (case hp => assumption); (case hk => assumption); (case hsz => omega))
  k_with "z:exec Raise some none" => ((k_dflt (apply raise_stmt; (case hh => exact rfl); (case G => assumption))))
  k_with "z:call ref" => (((with_reducible show wpAny _ _ (call (Value.ref 44) [_]) _ _ _); k_dflt (apply refusal_raise; (case G => assumption); (case kE => assumption); (case B => assumption); (case F => k_asm); (case N => k_asm); (case X => assumption); (case rm => (exact RoomUp.use (by assumption) (by omega))); (case hf => exact rfl); (case hk => exact rfl); refine wall ?_)))
  exact trivial
theorem dbl_c {w : World} {mean : ExcName → Option Value} {mg mb : Str → Option Value} {base : Heap} {envs : List Env} {s : Shared} {A : Around} {prog : Program} {R : Result → Shared → Prop}
   {nm : Str} {tn : Tok} (G : Gr w mean mg mb base) (a : At base envs s.heap []) (rm : Room A envs 3) (hl : nm.length ≤ 1000)
   (k : ∀ v h' tk', Left s [] (fun v T' => T' = [] ∧ ∃ t, v = .str (dblText nm) t) v h' → R (.ok (.ret v)) { s with heap := h', toks := tk' }) :
   codeAny (model prog w) A (.call (.ref 114) ⟨[.str nm tn], []⟩) R s := by
  obtain ⟨dp', un, gd, rfl, hdp, hun⟩ := rm.of
  refine enter (binds := [(Str.ofString "name", .str nm tn)]) (D := fun v T' => T' = [] ∧ ∃ t, v = .str (dblText nm) t) G a rfl ?_ (by k_is) (by k_is) (BindsTo.of_eq rfl) (locs rfl) ?_ k rfl rfl rfl (by decide)
  · show dp' < recursionLimit
    omega
  · intro g L' h₁ F' N' B' X' T' l1
    (try k_lt l1)
    (try dsimp only)
    k_steps
    exact ⟨_, _, _, _, _, rfl, by assumption, by assumption, rfl, _, rfl⟩
theorem use_dbl {w : World} {mean : ExcName → Option Value} {mg mb : Str → Option Value} {base : Heap} {outer : List Env} {s : Shared} {A A₀ : Around} {prog : Program} {g : Heap} {L : Addr} {m : Str → Option Value} {env : Env} {news : List (Addr × Obj)}
   {nm : Str} {tn : Tok} {Q : Value → Shared → Prop} {E : Value → Shared → Prop} (G : Gr w mean mg mb base) (B : Below A₀ base outer g) (F : Fr g L s.heap m) (N : News g L s.heap news) (rm : Room A (env :: outer) 3) (hf : env.frame = some L) (hk : env.scope.kind = .function) (hl : nm.length ≤ 1000)
   (k : ∀ t h' tk', Fr g L h' m → News g L h' news → Q (.str (dblText nm) t) { s with heap := h', toks := tk' }) :
   wpAny (model prog w) A (call (.ref 114) [.str nm tn]) Q E s := by
  refine use_plain (T := []) (rest := news) (D := fun v T' => T' = [] ∧ ∃ t, v = .str (dblText nm) t) (args := ⟨[.str nm tn], []⟩) B F N hf hk (fun _ h => nomatch h) (fun p hp => ⟨hp, fun h => nomatch h⟩) (fun R a k => dbl_c G a rm hl k) ?_
  rintro v h' tk' T' F' N' ⟨rfl, t, rfl⟩ _
  exact k t h' tk' F' N'
theorem cleanF17 : True := by
  w_top off
  k_with_none
  exact trivial
theorem fillF1 : (PySem.Challenge.rw_no0499_01 = PySem.Challenge.rw_no0499_01) ∧ hd.heap_39 = hd.heap_39 := by
  k_fill
  exact ⟨rfl, rfl⟩
abbrev mDict (e1 e2 e3 e4 : Int) (k1 k2 k3 k4 : Tok) (lf lt lu dp : Addr) (nd : Nat) : Obj :=
  dictOf [⟨e1, .str (Str.ofString "formals") k1, .ref lf⟩, ⟨e2, .str (Str.ofString "tags") k2, .ref lt⟩, ⟨e3, .str (Str.ofString "used") k3, .ref lu⟩, ⟨e4, .str (Str.ofString "places") k4, .ref dp⟩] nd
theorem cleanF18 : True := by
  k_with "z_k_ne" => (((try dsimp only); first | assumption | exact Ne.symm (by assumption)))
  k_with "z:exec For Name Call cons nil" => (refine wall ?_)
  k_with "z:exec For Name Attribute cons nil" => (refine wall ?_)
  k_with "z:exec For Name Name cons nil" => (refine wall ?_)
  k_with "z:pyIter ref" => (refine wall ?_)
  k_with "z:call builtin:len" => (((with_reducible show wpAny _ _ (call (Value.builtin _) [Value.ref _]) _ _ _); k_dflt (apply len_led; (case N => k_asm); (case hm => k_mem); (case hn => k_asm); (case hs => omega))))
  k_with "z_item_tag_subscriptTail_Name_Name_ref_int" => ((with_reducible show wpAny _ _ (subscriptTail _ _ (Value.ref _) (Value.int _ _)) _ _ _); apply item_tag; (case hs => with_unfolding_all rfl); (case N => k_asm); (case hm => k_mem); (case ht => assumption); (case h0 => omega); (case hhi => omega); (case hk => omega))
  k_with "z_item_int_subscriptTail_Name_Name_ref_int" => ((with_reducible show wpAny _ _ (subscriptTail _ _ (Value.ref _) (Value.int _ _)) _ _ _); apply item_int; (case hs => with_unfolding_all rfl); (case N => k_asm); (case hm => k_mem); (case ht => assumption); (case h0 => omega); (case hhi => omega); (case hk => omega))
  k_with "z:compareOp In str ref" => ((k_dflt (apply in_pl; (case N => k_asm); (case hm => k_mem); (case hd => assumption); (case hp => assumption); (case lo => assumption))))
  k_with "z:compareOp NotIn str ref" => ((k_dflt (apply notin_pl; (case N => k_asm); (case hm => k_mem); (case hd => assumption); (case hp => assumption); (case lo => assumption))))
  k_with "z_set_pl_setItem_ref_str" => (apply set_pl; (case F => k_asm); (case N => k_asm); (case U => k_updF); (case hd => assumption); (case hp => assumption); (case hk => assumption); (case hsz => omega))
  k_with "z:exec Raise some none" => ((k_dflt (apply raise_stmt; (case hh => exact rfl); (case G => assumption))))
  k_with "z:call ref" => (((with_reducible show wpAny _ _ (call (Value.ref 44) [_]) _ _ _); k_dflt (apply refusal_raise; (case G => assumption); (case kE => assumption); (case B => assumption); (case F => k_asm); (case N => k_asm); (case X => assumption); (case rm => (exact RoomUp.use (by assumption) (by omega))); (case hf => exact rfl); (case hk => exact rfl); refine wall ?_)))
  k_with "z_use_dbl_call_ref" => ((with_reducible show wpAny _ _ (call (Value.ref 114) [_]) _ _ _); apply use_dbl; (case G => assumption); (case B => assumption); (case F => k_asm); (case N => k_asm); (case rm => (exact RoomUp.use (by assumption) (by omega))); (case hf => exact rfl); (case hk => exact rfl); (case hl => first | assumption | omega))
  exact trivial
structure LS where
  uv : List Value
  us : List Int
  nu : Nat
  od : Obj
  kvs : List (Str × Value)
  pl : Pl
def exactD (w : World) (prog : Program) (x dx lf lt lu dp : Addr) (e1 e2 e3 e4 : Int) (k1 k2 k3 k4 : Tok) (nd nf nt : Nat) (fv tv : List Value) (fs : List Str) (ts : List Tag) (us : List Int) (pl : Pl) (v : Value) (T' : List (Addr × Obj)) : Prop :=
  v = .none ∧ ∃ uv' us' nu' od' kvs' pl', T' = [(x, instObj 103 dx), (dx, mDict e1 e2 e3 e4 k1 k2 k3 k4 lf lt lu dp nd), (lf, PySem.W.listOf fv.toArray nf), (lt, PySem.W.listOf tv.toArray nt), (lu, PySem.W.listOf uv'.toArray nu'), (dp, od')] ∧
    IntsAre uv' us' ∧ Obj.IsDictOf (PySem.strKind prog w) od' kvs' ∧ PlAre kvs' pl' ∧ exAll ts fs (us, pl) = .ok (us', pl')
theorem exact_c {w : World} {mean : ExcName → Option Value} {mg mb : Str → Option Value} {base : Heap} {envs : List Env} {s : Shared} {A : Around} {prog : Program} {R : Result → Shared → Prop}
   {x dx lf lt lu dp : Addr} {e1 e2 e3 e4 : Int} {k1 k2 k3 k4 : Tok} {nd nf nt nu : Nat} {fv tv uv : List Value} {od : Obj} {kvs : List (Str × Value)} {fs : List Str} {ts : List Tag} {us : List Int} {pl : Pl}
   (G : Gr w mean mg mb base) (a : At base envs s.heap [(x, instObj 103 dx), (dx, mDict e1 e2 e3 e4 k1 k2 k3 k4 lf lt lu dp nd), (lf, PySem.W.listOf fv.toArray nf), (lt, PySem.W.listOf tv.toArray nt), (lu, PySem.W.listOf uv.toArray nu), (dp, od)])
   (nn : List.Nodup [x, dx, lf, lt, lu, dp]) (hsys : (dp == sysModules) = false)
   (hf : StrsAre fv fs) (ht : TagsAre tv ts) (hu : IntsAre uv us) (hod : od.IsDictOf (PySem.strKind prog w) kvs) (hp : PlAre kvs pl)
   (hfl : fs.length ≤ 10) (htl : ts.length ≤ 10) (hul : us.length = ts.length) (hpl : pl.length ≤ 100) (hfn : ∀ f ∈ fs, f.length ≤ 10)
   (lenT : tv.length = ts.length) (lenF : fv.length = fs.length)
   (rm : Room A envs 6)
   (k : ∀ v h' tk', Left s [(x, instObj 103 dx), (dx, mDict e1 e2 e3 e4 k1 k2 k3 k4 lf lt lu dp nd), (lf, PySem.W.listOf fv.toArray nf), (lt, PySem.W.listOf tv.toArray nt), (lu, PySem.W.listOf uv.toArray nu), (dp, od)] (exactD w prog x dx lf lt lu dp e1 e2 e3 e4 k1 k2 k3 k4 nd nf nt fv tv fs ts us pl) v h' → R (.ok (.ret v)) { s with heap := h', toks := tk' })
   (kr : ∀ e v h' tk', (∃ m t, v = .str m t ∧ exAll ts fs (us, pl) = .error m) → Flown base envs s [(x, instObj 103 dx), (dx, mDict e1 e2 e3 e4 k1 k2 k3 k4 lf lt lu dp nd), (lf, PySem.W.listOf fv.toArray nf), (lt, PySem.W.listOf tv.toArray nt), (lu, PySem.W.listOf uv.toArray nu), (dp, od)] v e h' → R (.error (.ref e)) { s with heap := h', toks := tk' }) :
   codeAny (model prog w) A (.call (.ref 67) ⟨[.ref x], []⟩) R s := by
  refine hide fun P_ k_ => ?_
  obtain ⟨dp', un, gd, rfl, hdp, hun⟩ := rm.of
  refine k_ ?_; clear k_ P_
  have rmU := rm.up
  refine enterR (binds := [(Str.ofString "self", .ref x)]) (P := fun v => ∃ m t, v = .str m t ∧ exAll ts fs (us, pl) = .error m) (D := exactD w prog x dx lf lt lu dp e1 e2 e3 e4 k1 k2 k3 k4 nd nf nt fv tv fs ts us pl) G a rfl ?_ (by k_is) (by k_is) (BindsTo.of_eq rfl) (locs rfl) ?_ ?_ ?_ rfl rfl rfl (by decide)
  · show dp' < recursionLimit
    omega
  · intro g L' h₁ E F' N' B' X' T' l1 hE kE
    simp only [List.nodup_cons, List.mem_cons, List.not_mem_nil, or_false, not_or, List.nodup_nil, and_true, not_false_eq_true] at nn
    refine hide fun P_ k_ => ?_
    obtain ⟨⟨_, _, _, _, _⟩, ⟨_, _, _, _⟩, ⟨_, _, _⟩, ⟨_, _⟩, _⟩ := nn
    refine k_ ?_; clear k_ P_
    (try k_lt l1)
    (try dsimp only)
    k_steps
    unfold Wall
    refine For_invV g rfl rfl ?_
    k_steps
    unfold Wall
    refine loop_list (vs := fv) (nn := nf) (fun c : LS => [(x, instObj 103 dx), (dx, mDict e1 e2 e3 e4 k1 k2 k3 k4 lf lt lu dp nd), (lf, PySem.W.listOf fv.toArray nf), (lt, PySem.W.listOf tv.toArray nt), (lu, PySem.W.listOf c.uv.toArray c.nu), (dp, c.od)])
      (fun _ => []) [Str.ofString "place"] (fun i c => IntsAre c.uv c.us ∧ c.od.IsDictOf (PySem.strKind prog w) c.kvs ∧ PlAre c.kvs c.pl ∧ foldE (exName ts) (fs.take i) (us, pl) = .ok (c.us, c.pl))
      ⟨uv, us, nu, od, kvs, pl⟩ rfl (fun c => by simp) F' N' (fun _ h => nomatch h) ⟨hu, hod, hp, rfl⟩ ?_ ?_
    · rintro ⟨uv', us', nu', od', kvs', pl'⟩ i v u h tk I oI hv hI hq_ F N
      refine hide fun P_ k_ => ?_
      obtain ⟨hu', hd', hp', hfo⟩ := hq_
      obtain ⟨nm, tn, rfl, hnm⟩ := hf.item i v hv
      refine k_ ?_; clear k_ P_
      (try dsimp only at *)
      clear N' F'
      have lI := allNe_of hI
      simp only [AllNe, and_true] at lI
      refine hide fun P_ k_ => ?_
      obtain ⟨_, _, _, _, _, _⟩ := lI
      refine k_ ?_; clear k_ P_
      k_steps
      · (rename (nm != _) = true => hnd)
        have hnd : nm ≠ dots := by simpa [dots] using hnd
        unfold Wall
        refine For_invV g rfl rfl ?_
        k_steps
        unfold Wall
        (rename Fr _ _ _ _ => F2)
        (rename News _ _ _ _ => N2)
        (rename IsRange _ _ _ _ _ _ _ _ => R2)
        have hi10 : i < fs.length := (List.getElem?_eq_some_iff.mp hnm).1
        have hmul : i * ts.length ≤ 10 * 10 := Nat.mul_le_mul (by omega) htl
        have hnml : nm.length ≤ 1000 := Nat.le_trans (hfn nm (List.mem_of_getElem? hnm)) (by omega)
        have hulen := (exTake_len (n := i) (by have := (List.getElem?_eq_some_iff.mp hnm).1; omega) hfo)
        dsimp only at hulen
        have hpl2 : pl'.length ≤ 100 + 10 * 10 := Nat.le_trans hulen.2 (Nat.add_le_add hpl hmul)
        refine loop_range (n := ts.length) (fun c : LS => [(I, oI), (x, instObj 103 dx), (dx, mDict e1 e2 e3 e4 k1 k2 k3 k4 lf lt lu dp nd), (lf, PySem.W.listOf fv.toArray nf), (lt, PySem.W.listOf tv.toArray nt), (lu, PySem.W.listOf c.uv.toArray c.nu), (dp, c.od)])
          (fun _ => []) [] (fun j c => IntsAre c.uv c.us ∧ c.od.IsDictOf (PySem.strKind prog w) c.kvs ∧ PlAre c.kvs c.pl ∧ foldE (exStep ts nm) (List.range j) (us', pl') = .ok (c.us, c.pl))
          ⟨uv', us', nu', od', kvs', pl'⟩ rfl R2 (small_zero (by omega)) F2 N2 (fun _ h => nomatch h) ⟨hu', hd', hp', rfl⟩ ?_ ?_
        · rintro ⟨uv2, us2, nu2, od2, kvs2, pl2⟩ j tj uj h2 tk2 J oJ hj hJ hq_ F N
          refine hide fun P_ k_ => ?_
          obtain ⟨hu2, hd2, hp2, hfo2⟩ := hq_
          refine k_ ?_; clear k_ P_
          (try dsimp only at *)
          clear F2 N2 R2
          have hlen2 := exRange_len hfo2
          dsimp only at hlen2
          have lJ := allNe_of hJ
          simp only [AllNe, and_true] at lJ
          refine hide fun P_ k_ => ?_
          obtain ⟨_, _, _, _, _, _, _⟩ := lJ
          refine k_ ?_; clear k_ P_
          k_steps
          · unfold Wall
            (rename (_ == nm) = true => hx)
            (rename hasP pl2 nm = true => hh)
            (rename List.getD us2 _ _ = 0 => hz)
            (rename ts[j]? = _ => he)
            exact ⟨_, _, rfl, foldE_take_err hnm hfo (exName_of hnd ▸ foldE_range_err hj hfo2 (by rw [exStep_hit he hx (by omega) hz, if_pos hh]))⟩
          · (rename (_ == nm) = true => hx)
            (rename hasP pl2 nm = false => hh)
            (rename List.getD us2 _ _ = 0 => hz)
            (rename ts[j]? = _ => he)
            (rename Fr _ _ _ _ => F3)
            (rename News _ _ _ _ => N3)
            refine LoopEnd.fin ⟨_, us2.set ((j : Int)).toNat 2, _, _, _, pl2 ++ [(nm, j)]⟩ (.inl rfl) F3 N3 (fun p hp => .tail _ hp) (.head _) (off_of hJ rfl) (fun _ h => nomatch h) ?_ ⟨by assumption, by assumption, by assumption, ?_⟩
            · intro z h1 _ _
              simp [h1, kstB]
            · rw [foldE_range_succ hfo2, exStep_hit he hx (by omega) hz, if_neg (by rw [hh]; decide)]
          · (rename List.getD us2 _ _ ≠ 0 => hz)
            (rename Fr _ _ _ _ => F3)
            (rename News _ _ _ _ => N3)
            refine LoopEnd.fin ⟨uv2, us2, nu2, od2, kvs2, pl2⟩ (.inl rfl) F3 N3 (fun p hp => .tail _ hp) (.head _) (off_of hJ rfl) (fun _ h => nomatch h) ?_ ⟨hu2, hd2, hp2, ?_⟩
            · intro z h1 _ _
              simp [h1, kstB]
            · rw [foldE_range_succ hfo2, exStep_miss3 (by omega) hz]
          · (rename (_ == nm) = false => hx)
            (rename ts[j]? = _ => he)
            (rename Fr _ _ _ _ => F3)
            (rename News _ _ _ _ => N3)
            refine LoopEnd.fin ⟨uv2, us2, nu2, od2, kvs2, pl2⟩ (.inl rfl) F3 N3 (fun p hp => .tail _ hp) (.head _) (off_of hJ rfl) (fun _ h => nomatch h) ?_ ⟨hu2, hd2, hp2, ?_⟩
            · intro z h1 _ _
              simp [h1, kstB]
            · rw [foldE_range_succ hfo2, exStep_miss1 he hx]
          · (rename ts[j]? = _ => he)
            (rename Fr _ _ _ _ => F3)
            (rename News _ _ _ _ => N3)
            refine LoopEnd.fin ⟨uv2, us2, nu2, od2, kvs2, pl2⟩ (.inl rfl) F3 N3 (fun p hp => .tail _ hp) (.head _) (off_of hJ rfl) (fun _ h => nomatch h) ?_ ⟨hu2, hd2, hp2, ?_⟩
            · intro z h1 _ _
              simp [h1, kstB]
            · rw [foldE_range_succ hfo2, exStep_miss2 he]
        · rintro ⟨uv2, us2, nu2, od2, kvs2, pl2⟩ u2 h2 tk2 hq_ F N
          refine hide fun P_ k_ => ?_
          obtain ⟨hu2, hd2, hp2, hfo2⟩ := hq_
          refine k_ ?_; clear k_ P_
          (try dsimp only at *)
          clear F2 N2 R2
          k_steps
          (rename Fr _ _ _ _ => F3)
          (rename News _ _ _ _ => N3)
          refine LoopEnd.fin ⟨uv2, us2, nu2, od2, kvs2, pl2⟩ (.inl rfl) F3 N3 (fun p hp => .tail _ hp) (.head _) (off_of hI rfl) (fun _ h => nomatch h) ?_ ⟨hu2, hd2, hp2, ?_⟩
          · intro z h1 _ h3
            simp at h3
            simp [h1, h3, kstB]
          · rw [foldE_take_succ hnm hfo, exName_of hnd]; exact hfo2
      · (rename (nm != _) = false => hnd)
        have hnd : nm = dots := by simpa [dots] using hnd
        (rename Fr _ _ _ _ => F3)
        (rename News _ _ _ _ => N3)
        refine LoopEnd.fin ⟨uv', us', nu', od', kvs', pl'⟩ (.inl rfl) F3 N3 (fun p hp => .tail _ hp) (.head _) (off_of hI rfl) (fun _ h => nomatch h) ?_ ⟨hu', hd', hp', ?_⟩
        · intro z h1 _ h3
          simp at h3
          simp [h1, h3, kstB]
        · rw [foldE_take_succ hnm hfo, hnd, exName_dots]
    · rintro ⟨uv', us', nu', od', kvs', pl'⟩ u h tk hq_ F N
      refine hide fun P_ k_ => ?_
      obtain ⟨hu', hd', hp', hfo⟩ := hq_
      refine k_ ?_; clear k_ P_
      (try dsimp only at *)
      clear N' F'
      rw [lenF, List.take_length] at hfo
      k_steps
      exact ⟨_, _, _, _, _, rfl, by assumption, by assumption, rfl, uv', us', nu', od', kvs', pl', rfl, hu', hd', hp', hfo⟩
  · rintro v h' tk' l
    exact k v h' tk' l
  · exact kr
/-- a Matching object: what does not turn -/
structure MO where
  x : Addr
  dx : Addr
  lf : Addr
  lt : Addr
  lu : Addr
  dp : Addr
  e1 : Int
  e2 : Int
  e3 : Int
  e4 : Int
  k1 : Tok
  k2 : Tok
  k3 : Tok
  k4 : Tok
  nd : Nat
  nf : Nat
  nt : Nat
  fv : List Value
  tv : List Value
  fs : List Str
  ts : List Tag
abbrev mLed (M : MO) (c : LS) : List (Addr × Obj) := [(M.x, instObj 103 M.dx), (M.dx, mDict M.e1 M.e2 M.e3 M.e4 M.k1 M.k2 M.k3 M.k4 M.lf M.lt M.lu M.dp M.nd), (M.lf, PySem.W.listOf M.fv.toArray M.nf), (M.lt, PySem.W.listOf M.tv.toArray M.nt), (M.lu, PySem.W.listOf c.uv.toArray c.nu), (M.dp, c.od)]
structure MOk (M : MO) : Prop where
  nn : List.Nodup [M.x, M.dx, M.lf, M.lt, M.lu, M.dp]
  sys : (M.dp == sysModules) = false
  fsv : StrsAre M.fv M.fs
  tsv : TagsAre M.tv M.ts
  lenT : M.tv.length = M.ts.length
  lenF : M.fv.length = M.fs.length
  hfl : M.fs.length ≤ 10
  htl : M.ts.length ≤ 10
  hfn : ∀ f ∈ M.fs, f.length ≤ 10
structure SOk (w : World) (prog : Program) (M : MO) (c : LS) (b : Nat) : Prop where
  uOk : IntsAre c.uv c.us
  dic : c.od.IsDictOf (PySem.strKind prog w) c.kvs
  pla : PlAre c.kvs c.pl
  len : c.us.length = M.ts.length
  lp : c.pl.length ≤ b
theorem exact_m {w : World} {mean : ExcName → Option Value} {mg mb : Str → Option Value} {base : Heap} {envs : List Env} {s : Shared} {A : Around} {prog : Program} {R : Result → Shared → Prop} {M : MO} {c : LS}
   (G : Gr w mean mg mb base) (a : At base envs s.heap (mLed M c)) (hM : MOk M) (hc : SOk w prog M c 100) (rm : Room A envs 6)
   (k : ∀ v h' tk', Left s (mLed M c) (fun v T' => v = .none ∧ ∃ c', T' = mLed M c' ∧ SOk w prog M c' 200 ∧ exAll M.ts M.fs (c.us, c.pl) = .ok (c'.us, c'.pl)) v h' → R (.ok (.ret v)) { s with heap := h', toks := tk' })
   (kr : ∀ e v h' tk', (∃ m t, v = .str m t ∧ exAll M.ts M.fs (c.us, c.pl) = .error m) → Flown base envs s (mLed M c) v e h' → R (.error (.ref e)) { s with heap := h', toks := tk' }) :
   codeAny (model prog w) A (.call (.ref 67) ⟨[.ref M.x], []⟩) R s := by
  refine exact_c G a hM.nn hM.sys hM.fsv hM.tsv hc.uOk hc.dic hc.pla hM.hfl hM.htl hc.len hc.lp hM.hfn hM.lenT hM.lenF rm (fun v h' tk' l => k v h' tk' ⟨l.keep, ?_⟩) kr
  obtain ⟨T', ⟨hv, uv', us', nu', od', kvs', pl', rfl, h1, h2, h3, h4⟩, hn⟩ := l.now
  have h5 := exTake_len (n := M.fs.length) (Nat.le_refl _) (by rw [List.take_length]; exact h4)
  dsimp only at h5
  have h6 : M.fs.length * M.ts.length ≤ 10 * 10 := Nat.mul_le_mul hM.hfl hM.htl
  exact ⟨_, ⟨hv, ⟨uv', us', nu', od', kvs', pl'⟩, rfl, ⟨h1, h2, h3, h5.1.trans hc.len, Nat.le_trans h5.2 (Nat.add_le_add hc.lp h6)⟩, h4⟩, hn⟩
theorem cleanG19 : True := by
  w_top off
  k_with_none
  exact trivial
theorem fillG1 : (PySem.Challenge.rw_no0499_01 = PySem.Challenge.rw_no0499_01) ∧ hd.heap_39 = hd.heap_39 := by
  k_fill
  exact ⟨rfl, rfl⟩
theorem cleanG110 : True := by
  k_with "z_k_ne" => (((try dsimp only); first | assumption | exact Ne.symm (by assumption)))
  k_with "z:exec For Name Call cons nil" => (refine wall ?_)
  k_with "z:exec For Name Attribute cons nil" => (refine wall ?_)
  k_with "z:exec For Name Name cons nil" => (refine wall ?_)
  k_with "z:pyIter ref" => (refine wall ?_)
  k_with "z:call builtin:len" => (((with_reducible show wpAny _ _ (call (Value.builtin _) [Value.ref _]) _ _ _); k_dflt (apply len_led; (case N => k_asm); (case hm => k_mem); (case hn => k_asm); (case hs => omega))))
  k_with "z_item_tag_subscriptTail_Name_Name_ref_int" => ((with_reducible show wpAny _ _ (subscriptTail _ _ (Value.ref _) (Value.int _ _)) _ _ _); apply item_tag; (case hs => with_unfolding_all rfl); (case N => k_asm); (case hm => k_mem); (case ht => assumption); (case h0 => omega); (case hhi => omega); (case hk => omega))
  k_with "z_item_int_subscriptTail_Name_Name_ref_int" => ((with_reducible show wpAny _ _ (subscriptTail _ _ (Value.ref _) (Value.int _ _)) _ _ _); apply item_int; (case hs => with_unfolding_all rfl); (case N => k_asm); (case hm => k_mem); (case ht => assumption); (case h0 => omega); (case hhi => omega); (case hk => omega))
  k_with "z:compareOp In str ref" => ((k_dflt (apply in_pl; (case N => k_asm); (case hm => k_mem); (case hd => assumption); (case hp => assumption); (case lo => assumption))))
  k_with "z:compareOp NotIn str ref" => ((k_dflt (apply notin_pl; (case N => k_asm); (case hm => k_mem); (case hd => assumption); (case hp => assumption); (case lo => assumption))))
  k_with "z_set_pl_setItem_ref_str" => (apply set_pl; (case F => k_asm); (case N => k_asm); (case U => k_updF); (case hd => assumption); (case hp => assumption); (case hk => assumption); (case hsz => omega))
  k_with "z:exec Raise some none" => ((k_dflt (apply raise_stmt; (case hh => exact rfl); (case G => assumption))))
  k_with "z:call ref" => (((with_reducible show wpAny _ _ (call (Value.ref 44) [_]) _ _ _); k_dflt (apply refusal_raise; (case G => assumption); (case kE => assumption); (case B => assumption); (case F => k_asm); (case N => k_asm); (case X => assumption); (case rm => (exact RoomUp.use (by assumption) (by omega))); (case hf => exact rfl); (case hk => exact rfl); refine wall ?_)))
  k_with "z:joinParts" => (((first | (with_reducible show wpAny _ _ (joinParts _ []) _ _ _) | (with_reducible show wpAny _ _ (joinParts _ (evalEach [] _)) _ _ _)); k_dflt (refine joinParts_nil ?_ (argText_len (by omega)))))
  k_with "z_use_dbl_call_ref" => ((with_reducible show wpAny _ _ (call (Value.ref 114) [_]) _ _ _); apply use_dbl; (case G => assumption); (case B => assumption); (case F => k_asm); (case N => k_asm); (case rm => (exact RoomUp.use (by assumption) (by omega))); (case hf => exact rfl); (case hk => exact rfl); (case hl => first | assumption | omega))
  exact trivial
section
variable {w : World} {mean : ExcName → Option Value} {mg mb : Str → Option Value} {base : Heap} {envs : List Env} {s : Shared} {A : Around} {prog : Program} {R : Result → Shared → Prop} {M : MO} {c : LS}
theorem is_free_m {j : Nat} {tj : Tok} {b : Nat} (G : Gr w mean mg mb base) (a : At base envs s.heap (mLed M c)) (hM : MOk M) (hc : SOk w prog M c b) (rm : Room A envs 2) (hj : j < M.ts.length)
   (k : ∀ v h' tk', Left s (mLed M c) (fun v T' => T' = mLed M c ∧ v = .bool (freeB c.us M.ts j)) v h' → R (.ok (.ret v)) { s with heap := h', toks := tk' }) :
   codeAny (model prog w) A (.call (.ref 95) ⟨[.ref M.x, .int (j : Int) tj], []⟩) R s := by
  refine hide fun P_ k_ => ?_
  obtain ⟨dp', un, gd, rfl, hdp, hun⟩ := rm.of
  obtain ⟨h1, h2, h3, h4, h5⟩ := hc
  obtain ⟨nn, n1, n2, n3, n4, n5, n6, n7, n8⟩ := hM
  obtain ⟨x, dx, lf, lt, lu, dp, e1, e2, e3, e4, k1, k2, k3, k4, nd, nf, nt, fv, tv, fs, ts⟩ := M
  obtain ⟨uv, us, nu, od, kvs, pl⟩ := c
  refine k_ ?_; clear k_ P_
  dsimp only at *
  refine enter (binds := [(Str.ofString "self", .ref x), (Str.ofString "place", .int (j : Int) tj)]) G a rfl ?_ (by k_is) (by k_is) (BindsTo.of_eq rfl) (locs rfl) ?_ k rfl rfl rfl (by decide)
  · show dp' < recursionLimit
    omega
  · intro g L' h₁ F' N' B' X' T' l1
    (try k_lt l1)
    (try dsimp only)
    k_steps
    · (rename List.getD us _ _ = 0 => hz)
      (rename ts[j]? = _ => he)
      exact ⟨_, _, _, _, _, rfl, by assumption, by assumption, rfl, congrArg Value.bool (freeB_str hz he).symm⟩
    · exfalso
      (rename ts[j]? = some none => he)
      (rename ts[j]? = some (some _) => he2)
      rw [he] at he2
      cases he2
    · (rename List.getD us _ _ = 0 => hz)
      (rename ts[j]? = _ => he)
      exact ⟨_, _, _, _, _, rfl, by assumption, by assumption, rfl, congrArg Value.bool (freeB_none hz he).symm⟩
    · (rename List.getD us _ _ ≠ 0 => hz)
      exact ⟨_, _, _, _, _, rfl, by assumption, by assumption, rfl, congrArg Value.bool ((freeB_used hz).trans (beq_false_of_ne hz).symm).symm⟩
end
section
variable {w : World} {mean : ExcName → Option Value} {mg mb : Str → Option Value} {base : Heap} {outer : List Env} {s : Shared} {A A₀ : Around} {prog : Program} {g : Heap} {L : Addr} {m : Str → Option Value} {env : Env} {news : List (Addr × Obj)} {M : MO} {c : LS}
  {Q : Value → Shared → Prop} {E : Value → Shared → Prop}
theorem use_free {j : Nat} {tj : Tok} {b : Nat} (G : Gr w mean mg mb base) (B : Below A₀ base outer g) (F : Fr g L s.heap m) (N : News g L s.heap news) (rm : Room A (env :: outer) 2) (hM : MOk M) (hc : SOk w prog M c b) (hT : ∀ p ∈ mLed M c, p ∈ news) (hj : j < M.ts.length) (hf : env.frame = some L) (hk : env.scope.kind = .function)
   (k : ∀ h' tk', Fr g L h' m → News g L h' news → Q (.bool (freeB c.us M.ts j)) { s with heap := h', toks := tk' }) :
   wpAny (model prog w) A (call (.ref 95) [.ref M.x, .int (j : Int) tj]) Q E s :=
  use_same (T := mLed M c) (Dv := fun v => v = .bool (freeB c.us M.ts j)) (args := ⟨[.ref M.x, .int (j : Int) tj], []⟩) B F N hf hk hT (fun _ a k => is_free_m G a hM hc rm hj k) fun v h' tk' F' N' hv => by subst hv; exact k h' tk' F' N'
end
theorem cleanG211 : True := by
  w_top off
  k_with_none
  exact trivial
theorem fillG2 : (PySem.Challenge.rw_no0499_01 = PySem.Challenge.rw_no0499_01) ∧ hd.heap_39 = hd.heap_39 := by
  k_fill
  exact ⟨rfl, rfl⟩
theorem cleanG212 : True := by
  k_with "z_k_ne" => (((try dsimp only); first | assumption | exact Ne.symm (by assumption)))
  k_with "z:exec For Name Call cons nil" => (refine wall ?_)
  k_with "z:exec For Name Attribute cons nil" => (refine wall ?_)
  k_with "z:exec For Name Name cons nil" => (refine wall ?_)
  k_with "z:pyIter ref" => (refine wall ?_)
  k_with "z:call builtin:len" => (((with_reducible show wpAny _ _ (call (Value.builtin _) [Value.ref _]) _ _ _); k_dflt (apply len_led; (case N => k_asm); (case hm => k_mem); (case hn => k_asm); (case hs => omega))))
  k_with "z_item_tag_subscriptTail_Name_Name_ref_int" => ((with_reducible show wpAny _ _ (subscriptTail _ _ (Value.ref _) (Value.int _ _)) _ _ _); apply item_tag; (case hs => with_unfolding_all rfl); (case N => k_asm); (case hm => k_mem); (case ht => assumption); (case h0 => omega); (case hhi => omega); (case hk => omega))
  k_with "z_item_int_subscriptTail_Name_Name_ref_int" => ((with_reducible show wpAny _ _ (subscriptTail _ _ (Value.ref _) (Value.int _ _)) _ _ _); apply item_int; (case hs => with_unfolding_all rfl); (case N => k_asm); (case hm => k_mem); (case ht => assumption); (case h0 => omega); (case hhi => omega); (case hk => omega))
  k_with "z:compareOp In str ref" => ((k_dflt (apply in_pl; (case N => k_asm); (case hm => k_mem); (case hd => assumption); (case hp => assumption); (case lo => assumption))))
  k_with "z:compareOp NotIn str ref" => ((k_dflt (apply notin_pl; (case N => k_asm); (case hm => k_mem); (case hd => assumption); (case hp => assumption); (case lo => assumption))))
  k_with "z_set_pl_setItem_ref_str" => (apply set_pl; (case F => k_asm); (case N => k_asm); (case U => k_updF); (case hd => assumption); (case hp => assumption); (case hk => assumption); (case hsz => omega))
  k_with "z:exec Raise some none" => ((k_dflt (apply raise_stmt; (case hh => exact rfl); (case G => assumption))))
  k_with "z:call ref" => (((with_reducible show wpAny _ _ (call (Value.ref 44) [_]) _ _ _); k_dflt (apply refusal_raise; (case G => assumption); (case kE => assumption); (case B => assumption); (case F => k_asm); (case N => k_asm); (case X => assumption); (case rm => (exact RoomUp.use (by assumption) (by omega))); (case hf => exact rfl); (case hk => exact rfl); refine wall ?_)))
  k_with "z:joinParts" => (((first | (with_reducible show wpAny _ _ (joinParts _ []) _ _ _) | (with_reducible show wpAny _ _ (joinParts _ (evalEach [] _)) _ _ _)); k_dflt (refine joinParts_nil ?_ (argText_len (by omega)))))
  k_with "z_use_dbl_call_ref" => ((with_reducible show wpAny _ _ (call (Value.ref 114) [_]) _ _ _); apply use_dbl; (case G => assumption); (case B => assumption); (case F => k_asm); (case N => k_asm); (case rm => (exact RoomUp.use (by assumption) (by omega))); (case hf => exact rfl); (case hk => exact rfl); (case hl => first | assumption | omega))
  k_with "z:exec While BoolOp cons nil" => (refine wall ?_)
  k_with "z:exec While BoolOp" => (refine wall ?_)
  k_with "z_use_free_call_ref" => ((with_reducible show wpAny _ _ (call (Value.ref 95) [_, _]) _ _ _); apply use_free; (case G => assumption); (case B => assumption); (case hM => assumption); (case hc => assumption); (case F => k_asm); (case N => k_asm); (case rm => (exact RoomUp.use (by assumption) (by omega))); (case hT => (intro p hp; simp only [mLed, List.mem_cons, List.not_mem_nil, or_false] at hp ⊢; simp [hp])); (case hj => omega); (case hf => exact rfl); (case hk => exact rfl))
  exact trivial
section
variable {w : World} {mean : ExcName → Option Value} {mg mb : Str → Option Value} {base : Heap} {envs : List Env} {s : Shared} {A : Around} {prog : Program} {R : Result → Shared → Prop} {M : MO} {c : LS}
theorem positional_m {b : Nat} (G : Gr w mean mg mb base) (a : At base envs s.heap (mLed M c)) (hM : MOk M) (hc : SOk w prog M c b) (hb : b ≤ 500) (rm : Room A envs 6)
   (k : ∀ v h' tk', Left s (mLed M c) (fun v T' => v = .none ∧ ∃ c', T' = mLed M c' ∧ SOk w prog M c' (b + 10) ∧ (c'.us, c'.pl) = posAll M.ts (ahead M.fs) (c.us, c.pl)) v h' → R (.ok (.ret v)) { s with heap := h', toks := tk' }) :
   codeAny (model prog w) A (.call (.ref 88) ⟨[.ref M.x], []⟩) R s := by
  refine hide fun P_ k_ => ?_
  obtain ⟨dp', un, gd, rfl, hdp, hun⟩ := rm.of
  refine k_ ?_; clear k_ P_
  have rmU := rm.up
  have nn := hM.nn
  have hsys := hM.sys
  have hf := hM.fsv
  have ht := hM.tsv
  have lenT := hM.lenT
  have lenF := hM.lenF
  have hfl := hM.hfl
  have htl := hM.htl
  simp only [List.nodup_cons, List.mem_cons, List.not_mem_nil, or_false, not_or, List.nodup_nil, and_true, not_false_eq_true] at nn
  refine hide fun P_ k_ => ?_
  obtain ⟨⟨_, _, _, _, _⟩, ⟨_, _, _, _⟩, ⟨_, _, _⟩, ⟨_, _⟩, _⟩ := nn
  refine k_ ?_; clear k_ P_
  refine enter (binds := [(Str.ofString "self", .ref M.x)]) G a rfl ?_ (by k_is) (by k_is) (BindsTo.of_eq rfl) (locs rfl) ?_ k rfl rfl rfl (by decide)
  · show dp' < recursionLimit
    omega
  · intro g L' h₁ F' N' B' X' T' l1
    (try k_lt l1)
    (try dsimp only)
    (try dsimp only [mLed] at N')
    k_steps
    unfold Wall
    refine For_invV g rfl rfl ?_
    k_steps
    unfold Wall
    (rename Fr _ _ _ _ => F2)
    (rename News _ _ _ _ => N2)
    refine loop_list (vs := M.fv) (nn := M.nf) (fun q : LS × Nat × Tok => mLed M q.1) (fun q => [(Str.ofString "place", .int (q.2.1 : Int) q.2.2)]) [] (fun i q => SOk w prog M q.1 (b + i) ∧ (∀ f ∈ M.fs.take i, f ≠ dots) ∧ foldE (posE M.ts) (M.fs.take i) ((c.us, c.pl), 0) = .ok ((q.1.us, q.1.pl), q.2.1))
      ⟨c, 0, s.toks + 1⟩ rfl (fun q => by simp [mLed]) F2 N2 ?_ ⟨hc, (fun f h => by simp at h), rfl⟩ ?_ ?_
    · intro p hp
      rw [List.mem_singleton.mp hp]
      rfl
    · rintro ⟨⟨uv1, us1, nu1, od1, kvs1, pl1⟩, q1, tq⟩ i v u h tk I oI hv hI hq_ F N
      refine hide fun P_ k_ => ?_
      obtain ⟨hS, hnd, hfo⟩ := hq_
      obtain ⟨nm, tn, rfl, hnm⟩ := hf.item i v hv
      refine k_ ?_; clear k_ P_
      have hi10 : i < M.fs.length := (List.getElem?_eq_some_iff.mp hnm).1
      (try dsimp only at *)
      (try dsimp only [mLed] at N hI)
      clear F2 N2
      (try clear N')
      (try clear F')
      have lI := allNe_of hI
      simp only [AllNe, and_true] at lI
      refine hide fun P_ k_ => ?_
      obtain ⟨_, _, _, _, _, _⟩ := lI
      refine k_ ?_; clear k_ P_
      have hlen := posTake_len hfo
      have hSd := hS.dic
      have hSp := hS.pla
      have hSi := hS.uOk
      have hSl := hS.len
      have hSb := hS.lp
      dsimp only at hlen hSd hSp hSi hSl hSb
      k_steps
      · (rename (nm == _) = true => hx)
        have hx : nm = dots := by simpa [dots] using hx
        subst hx
        (rename Fr _ _ _ _ => F3)
        (rename News _ _ _ _ => N3)
        refine ⟨_, _, _, _, _, rfl, F3, kst_newsOf N3 (fun p hp => .tail _ hp), rfl, ⟨uv1, us1, nu1, od1, kvs1, pl1⟩, rfl, ⟨hSi, hSd, hSp, hSl, by dsimp only; omega⟩, ?_⟩
        rw [ahead_at hnm hnd]
        exact posE_all hfo
      · (rename (nm == _) = false => hx)
        have hx : nm ≠ dots := by simpa [dots] using hx
        (rename hasP pl1 nm = true => hh)
        (rename Fr _ _ _ _ => F3)
        (rename News _ _ _ _ => N3)
        refine LoopEnd.fin ⟨⟨uv1, us1, nu1, od1, kvs1, pl1⟩, q1, tq⟩ (.inl rfl) F3 N3 (fun p hp => .tail _ hp) (.head _) (off_of hI rfl) ?_ ?_ ⟨⟨hSi, hSd, hSp, hSl, by dsimp only; omega⟩, take_snoc_ne hnm hx hnd, ?_⟩
        · intro p hp
          rw [List.mem_singleton.mp hp]
          rfl
        · intro z h1 h2 _
          have h2' := h2 _ (.head _)
          simp at h2'
          simp [h1, h2', kstB]
        · rw [foldE_take_succ hnm hfo]
          simp only [posE, posStep, hh, if_true]
      · (rename (nm == _) = false => hx)
        have hx : nm ≠ dots := by simpa [dots] using hx
        (rename hasP pl1 nm = false => hh)
        unfold Wall
        (rename Fr _ _ _ _ => F3)
        (rename News _ _ _ _ => N3)
        refine ksw_while (σ := Nat × Tok) (fun _ => (I, oI) :: mLed M ⟨uv1, us1, nu1, od1, kvs1, pl1⟩) (fun q => [(Str.ofString "place", .int (q.1 : Int) q.2)]) (fun _ => True) [] (fun q => q.1 ≤ M.ts.length ∧ scanF us1 M.ts q.1 = scanF us1 M.ts q1) (fun q => M.ts.length - q.1) (q1, tq)
          F3 N3 trivial ?_ ⟨hlen.2.2, rfl⟩ ?_
        · intro p hp
          rw [List.mem_singleton.mp hp]
          rfl
        · rintro ⟨q2, tq2⟩ u2 h2 tk2 _ ⟨hq2, hsc⟩ F N
          (try dsimp only at *)
          (try dsimp only [mLed] at N)
          clear F3 N3
          k_steps
          · (rename freeB us1 M.ts q2 = true => hfr)
            (rename Fr _ _ _ _ => F3)
            (rename News _ _ _ _ => N3)
            (rename (q2 : Int) < _ => hlt)
            have hs : scanF us1 M.ts q1 = q2 := hsc.symm.trans (scanF_stop (.inr hfr))
            refine LoopEnd.fin ⟨⟨_, us1.set ((q2 : Int)).toNat 2, _, _, _, pl1 ++ [(nm, q2)]⟩, q2, tq2⟩ (.inl rfl) F3 N3 (fun p hp => .tail _ hp) (.head _) (off_of hI rfl) ?_ ?_ ⟨⟨by assumption, by assumption, by assumption, ?_, ?_⟩, take_snoc_ne hnm hx hnd, ?_⟩
            · intro p hp
              rw [List.mem_singleton.mp hp]
              rfl
            · intro z h1 h2 _
              have h2' := h2 _ (.head _)
              simp at h2'
              simp [h1, h2', kstB]
            · simp [hSl]
            · simp only [List.length_append, List.length_cons, List.length_nil]; omega
            · rw [foldE_take_succ hnm hfo]
              simp only [posE, posStep, hh, hs, toNat_nat]
              rw [if_neg (by decide), if_pos (by omega)]
          · (rename freeB us1 M.ts q2 = false => hfr)
            (rename Fr _ _ _ _ => F3)
            (rename News _ _ _ _ => N3)
            (rename (q2 : Int) < _ => hlt)
            refine' ksw_end (q2 + 1, ?tt) F3 N3 (fun p hp => hp) trivial ?ca ?cb ?cc ?cd
            case ca =>
              intro p hp
              rw [List.mem_singleton.mp hp]
              rfl
            case cb =>
              intro z h2 _
              have h2' := h2 _ (.head _)
              simp at h2'
              simp [h2', kstB]
            case cc =>
              dsimp only
              exact ⟨by omega, by rw [← hsc]; exact (scanF_step (by omega) hfr).symm⟩
            case cd =>
              dsimp only; omega
          · (rename Fr _ _ _ _ => F3)
            (rename News _ _ _ _ => N3)
            (rename ¬ (q2 : Int) < _ => hlt)
            have hs : scanF us1 M.ts q1 = q2 := hsc.symm.trans (scanF_stop (.inl (by omega)))
            refine LoopEnd.fin ⟨⟨uv1, us1, nu1, od1, kvs1, pl1⟩, q2, tq2⟩ (.inl rfl) F3 N3 (fun p hp => .tail _ hp) (.head _) (off_of hI rfl) ?_ ?_ ⟨⟨hSi, hSd, hSp, hSl, by dsimp only; omega⟩, take_snoc_ne hnm hx hnd, ?_⟩
            · intro p hp
              rw [List.mem_singleton.mp hp]
              rfl
            · intro z h1 h2 _
              have h2' := h2 _ (.head _)
              simp at h2'
              simp [h1, h2', kstB]
            · rw [foldE_take_succ hnm hfo]
              simp only [posE, posStep, hh, hs]
              rw [if_neg (by decide), if_neg (by omega)]
    · rintro ⟨⟨uv1, us1, nu1, od1, kvs1, pl1⟩, q1, tq⟩ u h tk hq_ F N
      refine hide fun P_ k_ => ?_
      obtain ⟨hS, hnd, hfo⟩ := hq_
      refine k_ ?_; clear k_ P_
      (try dsimp only at *)
      (try dsimp only [mLed] at N)
      clear F2 N2
      rw [lenF] at hS hnd hfo
      rw [List.take_length] at hnd hfo
      k_steps
      (rename Fr _ _ _ _ => F3)
      (rename News _ _ _ _ => N3)
      refine ⟨_, _, _, _, _, rfl, F3, N3, rfl, ⟨uv1, us1, nu1, od1, kvs1, pl1⟩, rfl, ⟨hS.uOk, hS.dic, hS.pla, hS.len, Nat.le_trans hS.lp (by omega)⟩, ?_⟩
      rw [ahead_all hnd]
      exact posE_all hfo
end
theorem cleanG313 : True := by
  w_top off
  k_with_none
  exact trivial
theorem fillG3 : (PySem.Challenge.rw_no0499_01 = PySem.Challenge.rw_no0499_01) ∧ hd.heap_39 = hd.heap_39 := by
  k_fill
  exact ⟨rfl, rfl⟩
theorem cleanG314 : True := by
  k_with "z_k_ne" => (((try dsimp only); first | assumption | exact Ne.symm (by assumption)))
  k_with "z:exec For Name Call cons nil" => (refine wall ?_)
  k_with "z:exec For Name Attribute cons nil" => (refine wall ?_)
  k_with "z:exec For Name Name cons nil" => (refine wall ?_)
  k_with "z:pyIter ref" => (refine wall ?_)
  k_with "z:call builtin:len" => (((with_reducible show wpAny _ _ (call (Value.builtin _) [Value.ref _]) _ _ _); k_dflt (apply len_led; (case N => k_asm); (case hm => k_mem); (case hn => k_asm); (case hs => omega))))
  k_with "z_item_tag_subscriptTail_Name_Name_ref_int" => ((with_reducible show wpAny _ _ (subscriptTail _ _ (Value.ref _) (Value.int _ _)) _ _ _); apply item_tag; (case hs => with_unfolding_all rfl); (case N => k_asm); (case hm => k_mem); (case ht => assumption); (case h0 => omega); (case hhi => omega); (case hk => omega))
  k_with "z_item_int_subscriptTail_Name_Name_ref_int" => ((with_reducible show wpAny _ _ (subscriptTail _ _ (Value.ref _) (Value.int _ _)) _ _ _); apply item_int; (case hs => with_unfolding_all rfl); (case N => k_asm); (case hm => k_mem); (case ht => assumption); (case h0 => omega); (case hhi => omega); (case hk => omega))
  k_with "z:compareOp In str ref" => ((k_dflt (apply in_pl; (case N => k_asm); (case hm => k_mem); (case hd => assumption); (case hp => assumption); (case lo => assumption))))
  k_with "z:compareOp NotIn str ref" => ((k_dflt (apply notin_pl; (case N => k_asm); (case hm => k_mem); (case hd => assumption); (case hp => assumption); (case lo => assumption))))
  k_with "z_set_pl_setItem_ref_str" => (apply set_pl; (case F => k_asm); (case N => k_asm); (case U => k_updF); (case hd => assumption); (case hp => assumption); (case hk => assumption); (case hsz => omega))
  k_with "z:exec Raise some none" => ((k_dflt (apply raise_stmt; (case hh => exact rfl); (case G => assumption))))
  k_with "z:call ref" => (((with_reducible show wpAny _ _ (call (Value.ref 44) [_]) _ _ _); k_dflt (apply refusal_raise; (case G => assumption); (case kE => assumption); (case B => assumption); (case F => k_asm); (case N => k_asm); (case X => assumption); (case rm => (exact RoomUp.use (by assumption) (by omega))); (case hf => exact rfl); (case hk => exact rfl); refine wall ?_)))
  k_with "z:joinParts" => (((first | (with_reducible show wpAny _ _ (joinParts _ []) _ _ _) | (with_reducible show wpAny _ _ (joinParts _ (evalEach [] _)) _ _ _)); k_dflt ((try refine joinParts_nilE ?_); refine joinParts_nil ?_ ?_; rotate_left; exact argText_len (by omega))))
  k_with "z_use_dbl_call_ref" => ((with_reducible show wpAny _ _ (call (Value.ref 114) [_]) _ _ _); apply use_dbl; (case G => assumption); (case B => assumption); (case F => k_asm); (case N => k_asm); (case rm => (exact RoomUp.use (by assumption) (by omega))); (case hf => exact rfl); (case hk => exact rfl); (case hl => first | assumption | omega))
  k_with "z:exec While BoolOp cons nil" => (refine wall ?_)
  k_with "z:exec While BoolOp" => (refine wall ?_)
  k_with "z_use_free_call_ref" => ((with_reducible show wpAny _ _ (call (Value.ref 95) [_, _]) _ _ _); apply use_free; (case G => assumption); (case B => assumption); (case hM => assumption); (case hc => assumption); (case F => k_asm); (case N => k_asm); (case rm => (exact RoomUp.use (by assumption) (by omega))); (case hT => (intro p hp; simp only [mLed, List.mem_cons, List.not_mem_nil, or_false] at hp ⊢; simp [hp])); (case hj => omega); (case hf => exact rfl); (case hk => exact rfl))
  exact trivial
section
variable {w : World} {mean : ExcName → Option Value} {mg mb : Str → Option Value} {base : Heap} {envs : List Env} {s : Shared} {A : Around} {prog : Program} {R : Result → Shared → Prop} {M : MO} {c : LS}
theorem partial_of_m {b : Nat} {nm : Str} {tn : Tok} (G : Gr w mean mg mb base) (a : At base envs s.heap (mLed M c)) (hM : MOk M) (hc : SOk w prog M c b) (hb : b ≤ 500) (rm : Room A envs 6) (hnml : nm.length ≤ 1000)
   (k : ∀ v h' tk', Left s (mLed M c) (fun v T' => v = .none ∧ ∃ c', T' = mLed M c' ∧ SOk w prog M c' (b + 10) ∧ paOf M.ts nm (c.us, c.pl) = .ok (c'.us, c'.pl)) v h' → R (.ok (.ret v)) { s with heap := h', toks := tk' }) 
   (kr : ∀ e v h' tk', (∃ m t, v = .str m t ∧ paOf M.ts nm (c.us, c.pl) = .error m) → Flown base envs s (mLed M c) v e h' → R (.error (.ref e)) { s with heap := h', toks := tk' }) :
   codeAny (model prog w) A (.call (.ref 81) ⟨[.ref M.x, .str nm tn], []⟩) R s := by
  refine hide fun P_ k_ => ?_
  obtain ⟨dp', un, gd, rfl, hdp, hun⟩ := rm.of
  refine k_ ?_; clear k_ P_
  have rmU := rm.up
  have nn := hM.nn
  have hsys := hM.sys
  have hf := hM.fsv
  have ht := hM.tsv
  have lenT := hM.lenT
  have lenF := hM.lenF
  have hfl := hM.hfl
  have htl := hM.htl
  simp only [List.nodup_cons, List.mem_cons, List.not_mem_nil, or_false, not_or, List.nodup_nil, and_true, not_false_eq_true] at nn
  refine hide fun P_ k_ => ?_
  obtain ⟨⟨_, _, _, _, _⟩, ⟨_, _, _, _⟩, ⟨_, _, _⟩, ⟨_, _⟩, _⟩ := nn
  refine k_ ?_; clear k_ P_
  refine enterR (P := fun v => ∃ m t, v = .str m t ∧ paOf M.ts nm (c.us, c.pl) = .error m) (binds := [(Str.ofString "self", .ref M.x), (Str.ofString "name", .str nm tn)]) G a rfl ?_ (by k_is) (by k_is) (BindsTo.of_eq rfl) (locs rfl) ?_ k kr rfl rfl rfl (by decide)
  · show dp' < recursionLimit
    omega
  · intro g L' h₁ E F' N' B' X' T' l1 hE kE
    (try k_lt l1)
    (try dsimp only)
    (try dsimp only [mLed] at N')
    k_steps
    unfold Wall
    refine For_invV g rfl rfl ?_
    k_steps
    unfold Wall
    (rename Fr _ _ _ _ => F2)
    (rename News _ _ _ _ => N2)
    (rename IsRange _ _ _ _ _ _ _ _ => R2)
    refine loop_range (n := M.ts.length) (fun q : LS => mLed M q) (fun _ => []) [Str.ofString "tag"] (fun i q => SOk w prog M q (b + i) ∧ foldE (paStep M.ts nm) (List.range i) (c.us, c.pl) = .ok (q.us, q.pl))
      c rfl R2 (small_zero (by omega)) F2 N2 (fun _ h => nomatch h) ⟨hc, rfl⟩ ?_ ?_
    · rintro ⟨uv1, us1, nu1, od1, kvs1, pl1⟩ j tj u h tk I oI hj hI ⟨hS, hfo⟩ F N
      (try dsimp only at *)
      (try dsimp only [mLed] at N hI)
      clear F2 N2 R2
      (try clear N')
      (try clear F')
      have lI := allNe_of hI
      simp only [AllNe, and_true] at lI
      refine hide fun P_ k_ => ?_
      obtain ⟨_, _, _, _, _, _⟩ := lI
      refine k_ ?_; clear k_ P_
      have hSd := hS.dic
      have hSp := hS.pla
      have hSi := hS.uOk
      have hSl := hS.len
      have hSb := hS.lp
      dsimp only at hSd hSp hSi hSl hSb
      k_steps
      · (rename (_ != _) = true => hx)
        (rename Txt.startswith nm _ = true => hs)
        (rename List.getD us1 _ _ = 1 => h1)
        (rename M.ts[j]? = _ => he)
        have hh : paHit nm (M.ts.getD j none) = true := by rw [paHit_at he]; unfold emp; rw [hx, hs]; rfl
        unfold Wall
        exact ⟨_, _, rfl, foldE_range_err hj hfo (paStep_one hh h1)⟩
      · (rename (_ != _) = true => hx)
        (rename Txt.startswith nm _ = true => hs)
        (rename List.getD us1 _ _ ≠ 1 => h1)
        (rename List.getD us1 _ _ ≠ 2 => h2)
        (rename hasP pl1 nm = true => hp)
        (rename M.ts[j]? = _ => he)
        have hh : paHit nm (M.ts.getD j none) = true := by rw [paHit_at he]; unfold emp; rw [hx, hs]; rfl
        unfold Wall
        exact ⟨_, _, rfl, foldE_range_err hj hfo (paStep_dbl hh h2 h1 hp)⟩
      · (rename (_ != _) = true => hx)
        (rename Txt.startswith nm _ = true => hs)
        (rename List.getD us1 _ _ ≠ 1 => h1)
        (rename List.getD us1 _ _ ≠ 2 => h2)
        (rename hasP pl1 nm = false => hp)
        (rename M.ts[j]? = _ => he)
        have hh : paHit nm (M.ts.getD j none) = true := by rw [paHit_at he]; unfold emp; rw [hx, hs]; rfl
        (rename Fr _ _ _ _ => F3)
        (rename News _ _ _ _ => N3)
        refine LoopEnd.fin ⟨_, us1.set ((j : Int)).toNat 1, _, _, _, pl1 ++ [(nm, j)]⟩ (.inl rfl) F3 N3 (fun p hp => .tail _ hp) (.head _) (off_of hI rfl) (fun _ h => nomatch h) ?_ ⟨⟨by assumption, by assumption, by assumption, ?_, ?_⟩, ?_⟩
        · intro z h1 _ h3
          simp at h3
          simp [h1, h3, kstB]
        · simp [hSl]
        · simp only [List.length_append, List.length_cons, List.length_nil]; omega
        · rw [foldE_range_succ hfo, paStep_ok hh h2 h1 hp]
      all_goals (
        (rename Fr _ _ _ _ => F3)
        (rename News _ _ _ _ => N3)
        refine LoopEnd.fin ⟨uv1, us1, nu1, od1, kvs1, pl1⟩ (.inl rfl) F3 N3 (fun p hp => .tail _ hp) (.head _) (off_of hI rfl) (fun _ h => nomatch h) (by intro z h1 _ h3; simp at h3; simp [h1, h3, kstB]) ⟨⟨hSi, hSd, hSp, hSl, by dsimp only; omega⟩, ?_⟩
        rw [foldE_range_succ hfo]
        first
        | ((rename List.getD us1 _ _ = 2 => h2); exact paStep_two h2)
        | ((rename M.ts[j]? = some none => he); exact paStep_miss (paHit_none he))
        | ((rename Txt.startswith nm _ = false => hs); (rename M.ts[j]? = _ => he); exact paStep_miss (by rw [paHit_at he, hs, Bool.and_false]))
        | ((rename (_ != _) = false => hx); (rename M.ts[j]? = _ => he); exact paStep_miss (by rw [paHit_at he]; unfold emp; rw [hx]; rfl)))
    · rintro ⟨uv1, us1, nu1, od1, kvs1, pl1⟩ u h tk ⟨hS, hfo⟩ F N
      (try dsimp only at *)
      (try dsimp only [mLed] at N)
      clear F2 N2 R2
      k_steps
      (rename Fr _ _ _ _ => F3)
      (rename News _ _ _ _ => N3)
      exact ⟨_, _, _, _, _, rfl, F3, N3, rfl, ⟨uv1, us1, nu1, od1, kvs1, pl1⟩, rfl, ⟨hS.uOk, hS.dic, hS.pla, hS.len, Nat.le_trans hS.lp (by omega)⟩, hfo⟩
end
theorem cleanG415 : True := by
  w_top off
  k_with_none
  exact trivial
theorem fillG4 : (PySem.Challenge.rw_no0499_01 = PySem.Challenge.rw_no0499_01) ∧ hd.heap_39 = hd.heap_39 := by
  k_fill
  exact ⟨rfl, rfl⟩
theorem cleanG416 : True := by
  k_with "z_k_ne" => (((try dsimp only); first | assumption | exact Ne.symm (by assumption)))
  k_with "z:exec For Name Call cons nil" => (refine wall ?_)
  k_with "z:exec For Name Attribute cons nil" => (refine wall ?_)
  k_with "z:exec For Name Name cons nil" => (refine wall ?_)
  k_with "z:pyIter ref" => (refine wall ?_)
  k_with "z:call builtin:len" => (((with_reducible show wpAny _ _ (call (Value.builtin _) [Value.ref _]) _ _ _); k_dflt (apply len_led; (case N => k_asm); (case hm => k_mem); (case hn => k_asm); (case hs => omega))))
  k_with "z_item_tag_subscriptTail_Name_Name_ref_int" => ((with_reducible show wpAny _ _ (subscriptTail _ _ (Value.ref _) (Value.int _ _)) _ _ _); apply item_tag; (case hs => with_unfolding_all rfl); (case N => k_asm); (case hm => k_mem); (case ht => assumption); (case h0 => omega); (case hhi => omega); (case hk => omega))
  k_with "z_item_int_subscriptTail_Name_Name_ref_int" => ((with_reducible show wpAny _ _ (subscriptTail _ _ (Value.ref _) (Value.int _ _)) _ _ _); apply item_int; (case hs => with_unfolding_all rfl); (case N => k_asm); (case hm => k_mem); (case ht => assumption); (case h0 => omega); (case hhi => omega); (case hk => omega))
  k_with "z:compareOp In str ref" => ((k_dflt (apply in_pl; (case N => k_asm); (case hm => k_mem); (case hd => assumption); (case hp => assumption); (case lo => assumption))))
  k_with "z:compareOp NotIn str ref" => ((k_dflt (apply notin_pl; (case N => k_asm); (case hm => k_mem); (case hd => assumption); (case hp => assumption); (case lo => assumption))))
  k_with "z_set_pl_setItem_ref_str" => (apply set_pl; (case F => k_asm); (case N => k_asm); (case U => k_updF); (case hd => assumption); (case hp => assumption); (case hk => assumption); (case hsz => omega))
  k_with "z:exec Raise some none" => ((k_dflt (apply raise_stmt; (case hh => exact rfl); (case G => assumption))))
  k_with "z:call ref" => (((with_reducible show wpAny _ _ (call (Value.ref 44) [_]) _ _ _); k_dflt (apply refusal_raise; (case G => assumption); (case kE => assumption); (case B => assumption); (case F => k_asm); (case N => k_asm); (case X => assumption); (case rm => (exact RoomUp.use (by assumption) (by omega))); (case hf => exact rfl); (case hk => exact rfl); refine wall ?_)))
  k_with "z:joinParts" => (((first | (with_reducible show wpAny _ _ (joinParts _ []) _ _ _) | (with_reducible show wpAny _ _ (joinParts _ (evalEach [] _)) _ _ _)); k_dflt ((try refine joinParts_nilE ?_); refine joinParts_nil ?_ ?_; rotate_left; exact argText_len (by omega))))
  k_with "z_use_dbl_call_ref" => ((with_reducible show wpAny _ _ (call (Value.ref 114) [_]) _ _ _); apply use_dbl; (case G => assumption); (case B => assumption); (case F => k_asm); (case N => k_asm); (case rm => (exact RoomUp.use (by assumption) (by omega))); (case hf => exact rfl); (case hk => exact rfl); (case hl => first | assumption | omega))
  k_with "z:exec While BoolOp cons nil" => (refine wall ?_)
  k_with "z:exec While BoolOp" => (refine wall ?_)
  k_with "z_use_free_call_ref" => ((with_reducible show wpAny _ _ (call (Value.ref 95) [_, _]) _ _ _); apply use_free; (case G => assumption); (case B => assumption); (case hM => assumption); (case hc => assumption); (case F => k_asm); (case N => k_asm); (case rm => (exact RoomUp.use (by assumption) (by omega))); (case hT => (intro p hp; simp only [mLed, List.mem_cons, List.not_mem_nil, or_false] at hp ⊢; simp [hp])); (case hj => omega); (case hf => exact rfl); (case hk => exact rfl))
  k_with "z:call ref" => (((with_reducible show wpAny _ _ (call (Value.ref 81) [_, _]) _ _ _); refine wall ?_))
  exact trivial
theorem paRange_take {ts : List Tag} {fs : List Str} {st st' : St} {n : Nat} (h : foldE (paName ts) (fs.take n) st = .ok st') : st'.2.length ≤ st.2.length + n * ts.length := by
  have := foldE_inv (f := paName ts) (fun (s : St) i => s.2.length ≤ st.2.length + i * ts.length) (s := st) (by omega) (fun s a s' i hi hs => by
    unfold paName at hs
    split at hs
    · cases hs; rw [Nat.add_mul]; omega
    · have := paRange_len hs
      rw [Nat.add_mul]; omega) _ _ h
  have e : (fs.take n).length ≤ n := by rw [List.length_take]; omega
  exact Nat.le_trans this (Nat.add_le_add_left (Nat.mul_le_mul_right _ e) _)
section
variable {w : World} {mean : ExcName → Option Value} {mg mb : Str → Option Value} {base : Heap} {envs : List Env} {s : Shared} {A : Around} {prog : Program} {R : Result → Shared → Prop} {M : MO} {c : LS}
theorem partial_m {b : Nat} (G : Gr w mean mg mb base) (a : At base envs s.heap (mLed M c)) (hM : MOk M) (hc : SOk w prog M c b) (hb : b ≤ 300) (rm : Room A envs 8)
   (k : ∀ v h' tk', Left s (mLed M c) (fun v T' => v = .none ∧ ∃ c', T' = mLed M c' ∧ SOk w prog M c' (b + 100) ∧ paAll M.ts (ahead M.fs) (c.us, c.pl) = .ok (c'.us, c'.pl)) v h' → R (.ok (.ret v)) { s with heap := h', toks := tk' }) 
   (kr : ∀ e v h' tk', (∃ m t, v = .str m t ∧ paAll M.ts (ahead M.fs) (c.us, c.pl) = .error m) → Flown base envs s (mLed M c) v e h' → R (.error (.ref e)) { s with heap := h', toks := tk' }) :
   codeAny (model prog w) A (.call (.ref 74) ⟨[.ref M.x], []⟩) R s := by
  refine hide fun P_ k_ => ?_
  obtain ⟨dp', un, gd, rfl, hdp, hun⟩ := rm.of
  refine k_ ?_; clear k_ P_
  have rmU := rm.up
  have nn := hM.nn
  have hsys := hM.sys
  have hf := hM.fsv
  have ht := hM.tsv
  have lenT := hM.lenT
  have lenF := hM.lenF
  have hfl := hM.hfl
  have htl := hM.htl
  simp only [List.nodup_cons, List.mem_cons, List.not_mem_nil, or_false, not_or, List.nodup_nil, and_true, not_false_eq_true] at nn
  refine hide fun P_ k_ => ?_
  obtain ⟨⟨_, _, _, _, _⟩, ⟨_, _, _, _⟩, ⟨_, _, _⟩, ⟨_, _⟩, _⟩ := nn
  refine k_ ?_; clear k_ P_
  refine enterR (P := fun v => ∃ m t, v = .str m t ∧ paAll M.ts (ahead M.fs) (c.us, c.pl) = .error m) (binds := [(Str.ofString "self", .ref M.x)]) G a rfl ?_ (by k_is) (by k_is) (BindsTo.of_eq rfl) (locs rfl) ?_ k kr rfl rfl rfl (by decide)
  · show dp' < recursionLimit
    omega
  · intro g L' h₁ E F' N' B' X' T' l1 hE kE
    (try k_lt l1)
    (try dsimp only)
    (try dsimp only [mLed] at N')
    k_steps
    unfold Wall
    refine For_invV g rfl rfl ?_
    k_steps
    unfold Wall
    (rename Fr _ _ _ _ => F2)
    (rename News _ _ _ _ => N2)
    refine loop_list (vs := M.fv) (nn := M.nf) (fun q : LS => mLed M q) (fun _ => []) [] (fun i q => SOk w prog M q (b + i * 10) ∧ (∀ f ∈ M.fs.take i, f ≠ dots) ∧ foldE (paName M.ts) (M.fs.take i) (c.us, c.pl) = .ok (q.us, q.pl))
      c rfl (fun q => by simp [mLed]) F2 N2 (fun _ h => nomatch h) ⟨hc, (fun f h => by simp at h), rfl⟩ ?_ ?_
    · rintro ⟨uv1, us1, nu1, od1, kvs1, pl1⟩ i v u h tk I oI hv hI hq_ F N
      refine hide fun P_ k_ => ?_
      obtain ⟨hS, hnd, hfo⟩ := hq_
      obtain ⟨nm, tn, rfl, hnm⟩ := hf.item i v hv
      refine k_ ?_; clear k_ P_
      have hi10 : i < M.fs.length := (List.getElem?_eq_some_iff.mp hnm).1
      (try dsimp only at *)
      (try dsimp only [mLed] at N hI)
      clear F2 N2
      (try clear N')
      (try clear F')
      have lI := allNe_of hI
      simp only [AllNe, and_true] at lI
      refine hide fun P_ k_ => ?_
      obtain ⟨_, _, _, _, _, _⟩ := lI
      refine k_ ?_; clear k_ P_
      have hSd := hS.dic
      have hSp := hS.pla
      have hSi := hS.uOk
      have hSl := hS.len
      have hSb := hS.lp
      have hnml : nm.length ≤ 1000 := Nat.le_trans (hM.hfn nm (List.mem_of_getElem? hnm)) (by omega)
      dsimp only at hSd hSp hSi hSl hSb
      k_steps
      · (rename (nm == _) = true => hx)
        have hx : nm = dots := by simpa [dots] using hx
        subst hx
        (rename Fr _ _ _ _ => F3)
        (rename News _ _ _ _ => N3)
        refine ⟨_, _, _, _, _, rfl, F3, kst_newsOf N3 (fun p hp => .tail _ hp), rfl, ⟨uv1, us1, nu1, od1, kvs1, pl1⟩, rfl, ⟨hSi, hSd, hSp, hSl, by dsimp only; omega⟩, ?_⟩
        rw [ahead_at hnm hnd]
        exact hfo
      · (rename (nm == _) = false => hx)
        have hx : nm ≠ dots := by simpa [dots] using hx
        (rename hasP pl1 nm = true => hh)
        (rename Fr _ _ _ _ => F3)
        (rename News _ _ _ _ => N3)
        refine LoopEnd.fin ⟨uv1, us1, nu1, od1, kvs1, pl1⟩ (.inl rfl) F3 N3 (fun p hp => .tail _ hp) (.head _) (off_of hI rfl) (fun _ h => nomatch h) ?_ ⟨⟨hSi, hSd, hSp, hSl, by dsimp only; omega⟩, take_snoc_ne hnm hx hnd, ?_⟩
        · intro z h1 _ h3
          simp at h3
          simp [h1, h3, kstB]
        · rw [foldE_take_succ hnm hfo]
          unfold paName
          rw [if_pos hh]
      · (rename (nm == _) = false => hx)
        have hx : nm ≠ dots := by simpa [dots] using hx
        (rename hasP pl1 nm = false => hh)
        have hrw : paName M.ts (us1, pl1) nm = paOf M.ts nm (us1, pl1) := by unfold paName; rw [if_neg]; dsimp only; rw [hh]; decide
        obtain ⟨post, hpost⟩ := ahead_take hnm hx hnd
        unfold Wall
        (rename Fr _ _ _ _ => F3)
        (rename News _ _ _ _ => N3)
        have hI2 : ∀ p ∈ mLed M ⟨uv1, us1, nu1, od1, kvs1, pl1⟩, p.1 ≠ I := off_of hI rfl
        refine use_raise (T := mLed M ⟨uv1, us1, nu1, od1, kvs1, pl1⟩) (rest := [(I, oI)]) (P' := fun v => ∃ m t, v = .str m t ∧ paOf M.ts nm (us1, pl1) = .error m)
          (D := fun v T' => v = .none ∧ ∃ c', T' = mLed M c' ∧ SOk w prog M c' (b + i * 10 + 10) ∧ paOf M.ts nm (us1, pl1) = .ok (c'.us, c'.pl)) (args := ⟨[.ref M.x, .str nm tn], []⟩)
          B' F3 N3 rfl rfl (fun p hp => .tail _ hp) ?_ (fun R a k kr => partial_of_m (c := ⟨uv1, us1, nu1, od1, kvs1, pl1⟩) G a hM hS (by omega) ((rmU _).less (by omega)) hnml k kr) kE ?_ (fun _ _ => rfl) ?_
        · intro p hp
          rw [List.mem_singleton.mp hp]
          refine ⟨.head _, fun q => ?_⟩
          obtain ⟨p', hp', e'⟩ := List.mem_map.mp q
          exact hI2 p' hp' e'
        · rintro v hq_
          refine hide fun P_ k_ => ?_
          obtain ⟨m, t, rfl, he⟩ := hq_
          refine k_ ?_; clear k_ P_
          refine ⟨m, t, rfl, ?_⟩
          unfold paAll
          rw [hpost]
          exact foldE_err hfo (hrw.trans he)
        · rintro v h' tk' T' F4 N4 hq_ _
          refine hide fun P_ k_ => ?_
          obtain ⟨rfl, ⟨uv2, us2, nu2, od2, kvs2, pl2⟩, rfl, hS2, hok⟩ := hq_
          refine k_ ?_; clear k_ P_
          (try dsimp only)
          clear F3 N3
          (try clear F)
          (try clear N)
          k_steps
          (rename Fr _ _ _ _ => F3)
          (rename News _ _ _ _ => N3)
          refine LoopEnd.fin ⟨uv2, us2, nu2, od2, kvs2, pl2⟩ (.inl rfl) F3 N3 (fun p hp => List.mem_append_left _ hp) (List.mem_append_right _ (.head _)) (off_of hI rfl) (fun _ h => nomatch h) ?_ ⟨⟨hS2.uOk, hS2.dic, hS2.pla, hS2.len, Nat.le_trans hS2.lp (by omega)⟩, take_snoc_ne hnm hx hnd, ?_⟩
          · intro z h1 _ h3
            simp at h3
            simp [h1, h3, kstB]
          · rw [foldE_take_succ hnm hfo, hrw]; exact hok
    · rintro ⟨uv1, us1, nu1, od1, kvs1, pl1⟩ u h tk hq_ F N
      refine hide fun P_ k_ => ?_
      obtain ⟨hS, hnd, hfo⟩ := hq_
      refine k_ ?_; clear k_ P_
      (try dsimp only at *)
      (try dsimp only [mLed] at N)
      clear F2 N2
      rw [lenF] at hS hnd hfo
      rw [List.take_length] at hnd hfo
      k_steps
      (rename Fr _ _ _ _ => F3)
      (rename News _ _ _ _ => N3)
      exact ⟨_, _, _, _, _, rfl, F3, N3, rfl, ⟨uv1, us1, nu1, od1, kvs1, pl1⟩, rfl, ⟨hS.uOk, hS.dic, hS.pla, hS.len, Nat.le_trans hS.lp (by omega)⟩, (ahead_all hnd).symm ▸ hfo⟩
end
theorem cleanG517 : True := by
  w_top off
  k_with_none
  exact trivial
theorem fillG5 : (PySem.Challenge.rw_no0499_01 = PySem.Challenge.rw_no0499_01) ∧ hd.heap_39 = hd.heap_39 := by
  k_fill
  exact ⟨rfl, rfl⟩
theorem cleanG518 : True := by
  k_with "z_k_ne" => (((try dsimp only); first | assumption | exact Ne.symm (by assumption)))
  k_with "z:exec For Name Call cons nil" => (refine wall ?_)
  k_with "z:exec For Name Attribute cons nil" => (refine wall ?_)
  k_with "z:exec For Name Name cons nil" => (refine wall ?_)
  k_with "z:pyIter ref" => (refine wall ?_)
  k_with "z:call builtin:len" => (((with_reducible show wpAny _ _ (call (Value.builtin _) [Value.ref _]) _ _ _); k_dflt (apply len_led; (case N => k_asm); (case hm => k_mem); (case hn => k_asm); (case hs => omega))))
  k_with "z_item_tag_subscriptTail_Name_Name_ref_int" => ((with_reducible show wpAny _ _ (subscriptTail _ _ (Value.ref _) (Value.int _ _)) _ _ _); apply item_tag; (case hs => with_unfolding_all rfl); (case N => k_asm); (case hm => k_mem); (case ht => assumption); (case h0 => omega); (case hhi => omega); (case hk => omega))
  k_with "z_item_int_subscriptTail_Name_Name_ref_int" => ((with_reducible show wpAny _ _ (subscriptTail _ _ (Value.ref _) (Value.int _ _)) _ _ _); apply item_int; (case hs => with_unfolding_all rfl); (case N => k_asm); (case hm => k_mem); (case ht => assumption); (case h0 => omega); (case hhi => omega); (case hk => omega))
  k_with "z:compareOp In str ref" => ((k_dflt (apply in_pl; (case N => k_asm); (case hm => k_mem); (case hd => assumption); (case hp => assumption); (case lo => assumption))))
  k_with "z:compareOp NotIn str ref" => ((k_dflt (apply notin_pl; (case N => k_asm); (case hm => k_mem); (case hd => assumption); (case hp => assumption); (case lo => assumption))))
  k_with "z_set_pl_setItem_ref_str" => (apply set_pl; (case F => k_asm); (case N => k_asm); (case U => k_updF); (case hd => assumption); (case hp => assumption); (case hk => assumption); (case hsz => omega))
  k_with "z:exec Raise some none" => ((k_dflt (apply raise_stmt; (case hh => exact rfl); (case G => assumption))))
  k_with "z:call ref" => (((with_reducible show wpAny _ _ (call (Value.ref 44) [_]) _ _ _); k_dflt (apply refusal_raise; (case G => assumption); (case kE => assumption); (case B => assumption); (case F => k_asm); (case N => k_asm); (case X => assumption); (case rm => (exact RoomUp.use (by assumption) (by omega))); (case hf => exact rfl); (case hk => exact rfl); refine wall ?_)))
  k_with "z:joinParts" => (((first | (with_reducible show wpAny _ _ (joinParts _ []) _ _ _) | (with_reducible show wpAny _ _ (joinParts _ (evalEach [] _)) _ _ _)); k_dflt ((try refine joinParts_nilE ?_); refine joinParts_nil ?_ ?_; rotate_left; exact argText_len (by omega))))
  k_with "z_use_dbl_call_ref" => ((with_reducible show wpAny _ _ (call (Value.ref 114) [_]) _ _ _); apply use_dbl; (case G => assumption); (case B => assumption); (case F => k_asm); (case N => k_asm); (case rm => (exact RoomUp.use (by assumption) (by omega))); (case hf => exact rfl); (case hk => exact rfl); (case hl => first | assumption | omega))
  k_with "z:exec While BoolOp cons nil" => (refine wall ?_)
  k_with "z:exec While BoolOp" => (refine wall ?_)
  k_with "z_use_free_call_ref" => ((with_reducible show wpAny _ _ (call (Value.ref 95) [_, _]) _ _ _); apply use_free; (case G => assumption); (case B => assumption); (case hM => assumption); (case hc => assumption); (case F => k_asm); (case N => k_asm); (case rm => (exact RoomUp.use (by assumption) (by omega))); (case hT => (intro p hp; simp only [mLed, List.mem_cons, List.not_mem_nil, or_false] at hp ⊢; simp [hp])); (case hj => omega); (case hf => exact rfl); (case hk => exact rfl))
  k_with "z:eval ListComp" => (refine wall ?_)
  k_with "z:CompSrcT" => (refine wall ?_)
  k_with "z:CompSrc" => (refine wall ?_)
  k_with "z:CompEnd" => (refine wall ?_)
  k_with "z:FinE" => (refine wall ?_)
  exact trivial
def restTo (us : List Int) (n : Nat) : List Nat := (List.range n).filter fun j => decide (us.getD j 0 = 0)
abbrev natsI (l : List Nat) : List Int := l.map fun (j : Nat) => (j : Int)
theorem intsAre_snoc {vs : List Value} {ns : List Int} {k : Int} {t : Tok} (h : IntsAre vs ns) : IntsAre (vs ++ [.int k t]) (ns ++ [k]) := by
  induction h with
  | nil => exact .cons k t .nil
  | cons z u r ih => exact .cons z u ih
theorem restTo_succ {us : List Int} {i : Nat} : restTo us (i + 1) = restTo us i ++ (if us.getD i 0 = 0 then [i] else []) := by
  unfold restTo
  rw [List.range_succ, List.filter_append]
  congr 1
  rw [List.filter_cons]
  by_cases h : us.getD i 0 = 0
  · rw [if_pos h, if_pos (decide_eq_true h)]; rfl
  · rw [if_neg h, if_neg (by rw [decide_eq_false h]; decide)]; rfl
theorem natsI_snoc {l : List Nat} {i : Nat} : natsI (l ++ [i]) = natsI l ++ [(i : Int)] := by simp [natsI]
section
variable {w : World} {mean : ExcName → Option Value} {mg mb : Str → Option Value} {base : Heap} {envs : List Env} {s : Shared} {A : Around} {prog : Program} {R : Result → Shared → Prop} {M : MO} {c : LS}
theorem rest_m {b : Nat} (G : Gr w mean mg mb base) (a : At base envs s.heap (mLed M c)) (hM : MOk M) (hc : SOk w prog M c b) (rm : Room A envs 2)
   (k : ∀ v h' tk', Left s (mLed M c) (fun v T' => ∃ r rv, v = .ref r ∧ T' = (r, LCg.lst rv) :: mLed M c ∧ IntsAre rv (natsI (restTo c.us M.ts.length))) v h' → R (.ok (.ret v)) { s with heap := h', toks := tk' }) :
   codeAny (model prog w) A (.call (.ref 100) ⟨[.ref M.x], []⟩) R s := by
  refine hide fun P_ k_ => ?_
  obtain ⟨dp', un, gd, rfl, hdp, hun⟩ := rm.of
  refine k_ ?_; clear k_ P_
  have rmU := rm.up
  have nn := hM.nn
  have hsys := hM.sys
  have hf := hM.fsv
  have ht := hM.tsv
  have lenT := hM.lenT
  have lenF := hM.lenF
  have hfl := hM.hfl
  have htl := hM.htl
  have hSd := hc.dic
  have hSp := hc.pla
  have hSi := hc.uOk
  have hSl := hc.len
  have hSb := hc.lp
  simp only [List.nodup_cons, List.mem_cons, List.not_mem_nil, or_false, not_or, List.nodup_nil, and_true, not_false_eq_true] at nn
  refine hide fun P_ k_ => ?_
  obtain ⟨⟨_, _, _, _, _⟩, ⟨_, _, _, _⟩, ⟨_, _, _⟩, ⟨_, _⟩, _⟩ := nn
  refine k_ ?_; clear k_ P_
  refine enterX (P := fun _ => False) (binds := [(Str.ofString "self", .ref M.x)]) G a rfl ?_ (by k_is) (by k_is) (BindsTo.of_eq rfl) rfl (by decide +kernel) ?_ k (fun _ _ _ _ h => h.elim) rfl rfl rfl
  · show dp' < recursionLimit
    omega
  · intro g L' h₁ tk cells E F' N' Y' B' X' T' l1 KG hE kE
    (try k_lt l1)
    k_cells Y'
    (try simp only [List.cons_append, List.nil_append] at N')
    (try dsimp only)
    (try dsimp only [mLed] at N')
    k_steps
    unfold Wall
    refine LCt.ListComp_T (F₀ := by k_asm) (by with_unfolding_all rfl) (by decide) (by rfl) (by decide) (by rfl) ?_
    k_steps
    unfold Wall
    (rename Fr _ _ _ _ => F2)
    (rename News _ _ _ _ => N2)
    (rename IsRange _ _ _ _ _ _ _ _ => R2)
    refine LCt.CompSrcT.range (n := M.ts.length) (by rfl) F2 N2 R2 (small_zero (by omega)) (by simpa using rangeSize_nat 0 M.ts.length) (by rw [sizeLine_eq]; omega) fun g' => ?_
    refine compT_inv (fun _ : Unit => (L' + 1, _) :: mLed M c) (fun i ys _ => IntsAre ys (natsI (restTo c.us i))) () (by exact .nil) ?_ ?_
    · rintro i ys ⟨⟩ v I oI C oC D m₂ h tk2 E' hi ⟨t0, rfl⟩ hys hC hx F3 N3 off ne
      (try dsimp only at *)
      (try dsimp only [mLed] at N3)
      clear F2 N2 R2
      (try clear N')
      (try clear F')
      rw [Int.zero_add] at hx
      k_steps
      · unfold Wall
        (rename List.getD _ _ _ = 0 => hz)
        rw [toNat_nat] at hz
        refine LCg.CompEnd.intro F3 N3 _ (fun p hp => hp) off trivial ⟨(), rfl, ?_⟩
        rw [restTo_succ, if_pos hz, natsI_snoc]
        exact intsAre_snoc hys
      · unfold Wall
        (rename List.getD _ _ _ ≠ 0 => hz)
        rw [toNat_nat] at hz
        refine LCg.CompEnd.intro F3 N3 _ (fun p hp => hp) off trivial ⟨(), rfl, ?_⟩
        rw [restTo_succ, if_neg hz, List.append_nil]
        exact hys
    · rintro ys ⟨⟩ hys
      intro D h tk2 F3 N3 off
      exact ⟨_, _, _, _, _, rfl, F3, kst_newsOf N3 (fun p hp => (List.mem_cons.mp hp).elim (fun e => e ▸ .head _) fun hp => .tail _ (.tail _ hp)), _, _, rfl, rfl, hys⟩
end
theorem cleanG619 : True := by
  w_top off
  k_with_none
  exact trivial
theorem fillG6 : (PySem.Challenge.rw_no0499_01 = PySem.Challenge.rw_no0499_01) ∧ hd.heap_39 = hd.heap_39 := by
  k_fill
  exact ⟨rfl, rfl⟩
theorem cleanG620 : True := by
  k_with "z_k_ne" => (((try dsimp only); first | assumption | exact Ne.symm (by assumption)))
  k_with "z:exec For Name Call cons nil" => (refine wall ?_)
  k_with "z:exec For Name Attribute cons nil" => (refine wall ?_)
  k_with "z:exec For Name Name cons nil" => (refine wall ?_)
  k_with "z:pyIter ref" => (refine wall ?_)
  k_with "z:call builtin:len" => (((with_reducible show wpAny _ _ (call (Value.builtin _) [Value.ref _]) _ _ _); k_dflt (apply len_led; (case N => k_asm); (case hm => k_mem); (case hn => k_asm); (case hs => omega))))
  k_with "z_item_tag_subscriptTail_Name_Name_ref_int" => ((with_reducible show wpAny _ _ (subscriptTail _ _ (Value.ref _) (Value.int _ _)) _ _ _); apply item_tag; (case hs => with_unfolding_all rfl); (case N => k_asm); (case hm => k_mem); (case ht => assumption); (case h0 => omega); (case hhi => omega); (case hk => omega))
  k_with "z_item_int_subscriptTail_Name_Name_ref_int" => ((with_reducible show wpAny _ _ (subscriptTail _ _ (Value.ref _) (Value.int _ _)) _ _ _); apply item_int; (case hs => with_unfolding_all rfl); (case N => k_asm); (case hm => k_mem); (case ht => assumption); (case h0 => omega); (case hhi => omega); (case hk => omega))
  k_with "z:compareOp In str ref" => ((k_dflt (apply in_pl; (case N => k_asm); (case hm => k_mem); (case hd => assumption); (case hp => assumption); (case lo => assumption))))
  k_with "z:compareOp NotIn str ref" => ((k_dflt (apply notin_pl; (case N => k_asm); (case hm => k_mem); (case hd => assumption); (case hp => assumption); (case lo => assumption))))
  k_with "z_set_pl_setItem_ref_str" => (apply set_pl; (case F => k_asm); (case N => k_asm); (case U => k_updF); (case hd => assumption); (case hp => assumption); (case hk => assumption); (case hsz => omega))
  k_with "z:exec Raise some none" => ((k_dflt (apply raise_stmt; (case hh => exact rfl); (case G => assumption))))
  k_with "z:call ref" => (((with_reducible show wpAny _ _ (call (Value.ref 44) [_]) _ _ _); k_dflt (apply refusal_raise; (case G => assumption); (case kE => assumption); (case B => assumption); (case F => k_asm); (case N => k_asm); (case X => assumption); (case rm => (exact RoomUp.use (by assumption) (by omega))); (case hf => exact rfl); (case hk => exact rfl); refine wall ?_)))
  k_with "z:joinParts" => (((first | (with_reducible show wpAny _ _ (joinParts _ []) _ _ _) | (with_reducible show wpAny _ _ (joinParts _ (evalEach [] _)) _ _ _)); k_dflt ((try refine joinParts_nilE ?_); refine joinParts_nil ?_ ?_; rotate_left; exact argText_len (by omega))))
  k_with "z_use_dbl_call_ref" => ((with_reducible show wpAny _ _ (call (Value.ref 114) [_]) _ _ _); apply use_dbl; (case G => assumption); (case B => assumption); (case F => k_asm); (case N => k_asm); (case rm => (exact RoomUp.use (by assumption) (by omega))); (case hf => exact rfl); (case hk => exact rfl); (case hl => first | assumption | omega))
  k_with "z:exec While BoolOp cons nil" => (refine wall ?_)
  k_with "z:exec While BoolOp" => (refine wall ?_)
  k_with "z_use_free_call_ref" => ((with_reducible show wpAny _ _ (call (Value.ref 95) [_, _]) _ _ _); apply use_free; (case G => assumption); (case B => assumption); (case hM => assumption); (case hc => assumption); (case F => k_asm); (case N => k_asm); (case rm => (exact RoomUp.use (by assumption) (by omega))); (case hT => (intro p hp; simp only [mLed, List.mem_cons, List.not_mem_nil, or_false] at hp ⊢; simp [hp])); (case hj => omega); (case hf => exact rfl); (case hk => exact rfl))
  k_with "z:eval ListComp" => (refine wall ?_)
  k_with "z:CompSrcT" => (refine wall ?_)
  k_with "z:CompSrc" => (refine wall ?_)
  k_with "z:CompEnd" => (refine wall ?_)
  k_with "z:FinE" => (refine wall ?_)
  exact trivial
section
variable {w : World} {mean : ExcName → Option Value} {mg mb : Str → Option Value} {base : Heap} {envs : List Env} {s : Shared} {A : Around} {prog : Program} {R : Result → Shared → Prop} {la : Addr} {av : List Value} {qs : List (Tag × Value)}
theorem cleanG621 : True := by
  k_with "z_item_arg_subscriptTail_Name_Name_ref_int_w" => ((with_reducible show wpAny _ _ (subscriptTail _ _ (Value.ref _) (Value.int _ _)) _ _ _); apply item_arg; (case hs => with_unfolding_all rfl); (case F => k_asm); (case hl₀ => assumption); (case ht => assumption); (case h0 => omega); (case hhi => omega); (case hk => omega))
  k_with "z_wall" => (refine wall ?_)
  exact trivial
theorem argtext_c {j : Nat} {tj : Tok} (G : Gr w mean mg mb base) (a : At base envs s.heap []) (hla : s.heap.IsList la av.toArray) (hav : ArgsAre s.heap av qs) (hj : j < qs.length) (hq : qs.length ≤ 1000) (rm : Room A envs 2)
   (k : ∀ v h' tk', Left s [] (fun v T' => T' = [] ∧ ∃ t, v = .str (showTag (qs.map (·.1)) j) t) v h' → R (.ok (.ret v)) { s with heap := h', toks := tk' }) :
   codeAny (model prog w) A (.call (.ref 121) ⟨[.ref la, .int (j : Int) tj, .none], []⟩) R s := by
  refine hide fun P_ k_ => ?_
  obtain ⟨dp', un, gd, rfl, hdp, hun⟩ := rm.of
  refine k_ ?_; clear k_ P_
  have rmU := rm.up
  refine enterX (P := fun _ => False) (binds := [(Str.ofString "args", .ref la), (Str.ofString "place", .int (j : Int) tj), (Str.ofString "show", .none)]) G a rfl ?_ (by k_is) (by k_is) (BindsTo.of_eq rfl) rfl (by decide +kernel) ?_ k (fun _ _ _ _ h => h.elim) rfl rfl rfl
  · show dp' < recursionLimit
    omega
  · intro g L' h₁ tk cells E F' N' Y' B' X' T' l1 KG hE kE
    have KG' : ∀ b o, s.heap.get? b = some o → g.get? b = some o := fun b o e => KG b o e (by simp)
    replace hla := hla.at fun o e => KG' _ o e
    replace hav := hav.up KG'
    have Y2 : cells = [] := by cases Y'; rfl
    subst Y2
    clear Y'
    (try simp only [List.cons_append, List.nil_append] at N')
    (try dsimp only)
    k_steps
    unfold Wall
    (rename IsTup _ _ _ => hT)
    (rename IsTag _ _ => hg)
    (rename Prod _ _ => q)
    (rename qs[_]? = _ => eq)
    obtain ⟨tag, val⟩ := q
    cases tag with
    | none =>
      cases hg
      (try dsimp only at hT)
      k_steps
      exact ⟨_, _, _, _, _, rfl, by assumption, by assumption, rfl, _, congrArg (Value.str · _) (showTag_none eq).symm⟩
    | some x =>
      obtain ⟨tx, rfl⟩ := hg
      (try dsimp only at hT)
      k_steps
      · (rename (x == _) = true => hx)
        exact ⟨_, _, _, _, _, rfl, by assumption, by assumption, rfl, _, congrArg (Value.str · _) ((showTag_str eq).trans (if_pos (eq_of_beq hx))).symm⟩
      · (rename (x == _) = false => hx)
        exact ⟨_, _, _, _, _, rfl, by assumption, by assumption, rfl, _, congrArg (Value.str · _) ((showTag_str eq).trans (if_neg (ne_of_beq_false hx))).symm⟩
theorem use_argtext {outer : List Env} {A₀ : Around} {g : Heap} {L : Addr} {m : Str → Option Value} {env : Env} {news : List (Addr × Obj)} {Q : Value → Shared → Prop} {E : Value → Shared → Prop}
   {j : Nat} {tj : Tok} (G : Gr w mean mg mb base) (B : Below A₀ base outer g) (F : Fr g L s.heap m) (N : News g L s.heap news) (rm : Room A (env :: outer) 2) (hf : env.frame = some L) (hk : env.scope.kind = .function)
   (hla : g.IsList la av.toArray) (hav : ArgsAre g av qs) (hj : j < qs.length) (hq : qs.length ≤ 1000)
   (k : ∀ t h' tk', Fr g L h' m → News g L h' news → Q (.str (showTag (qs.map (·.1)) j) t) { s with heap := h', toks := tk' }) :
   wpAny (model prog w) A (call (.ref 121) [.ref la, .int (j : Int) tj, .none]) Q E s := by
  refine use_same (T := []) (Dv := fun v => ∃ t, v = .str (showTag (qs.map (·.1)) j) t) (args := ⟨[.ref la, .int (j : Int) tj, .none], []⟩) B F N hf hk (fun _ h => nomatch h)
    (fun R a k => argtext_c G a (hla.at fun o e => F.keep _ _ e) (hav.up F.keep) hj hq rm k) ?_
  rintro v h' tk' F' N' ⟨t, rfl⟩
  exact k t h' tk' F' N'
end
theorem cleanG722 : True := by
  w_top off
  k_with_none
  exact trivial
theorem fillG7 : (PySem.Challenge.rw_no0499_01 = PySem.Challenge.rw_no0499_01) ∧ hd.heap_39 = hd.heap_39 := by
  k_fill
  exact ⟨rfl, rfl⟩
theorem cleanG723 : True := by
  k_with "z_k_ne" => (((try dsimp only); first | assumption | exact Ne.symm (by assumption)))
  k_with "z:exec For Name Call cons nil" => (refine wall ?_)
  k_with "z:exec For Name Attribute cons nil" => (refine wall ?_)
  k_with "z:exec For Name Name cons nil" => (refine wall ?_)
  k_with "z:pyIter ref" => (refine wall ?_)
  k_with "z:call builtin:len" => (((with_reducible show wpAny _ _ (call (Value.builtin _) [Value.ref _]) _ _ _); k_dflt (apply len_led; (case N => k_asm); (case hm => k_mem); (case hn => k_asm); (case hs => omega))))
  k_with "z_item_tag_subscriptTail_Name_Name_ref_int" => ((with_reducible show wpAny _ _ (subscriptTail _ _ (Value.ref _) (Value.int _ _)) _ _ _); apply item_tag; (case hs => with_unfolding_all rfl); (case N => k_asm); (case hm => k_mem); (case ht => assumption); (case h0 => omega); (case hhi => omega); (case hk => omega))
  k_with "z_item_int_subscriptTail_Name_Name_ref_int" => ((with_reducible show wpAny _ _ (subscriptTail _ _ (Value.ref _) (Value.int _ _)) _ _ _); apply item_int; (case hs => with_unfolding_all rfl); (case N => k_asm); (case hm => k_mem); (case ht => assumption); (case h0 => omega); (case hhi => omega); (case hk => omega))
  k_with "z:compareOp In str ref" => ((k_dflt (apply in_pl; (case N => k_asm); (case hm => k_mem); (case hd => assumption); (case hp => assumption); (case lo => assumption))))
  k_with "z:compareOp NotIn str ref" => ((k_dflt (apply notin_pl; (case N => k_asm); (case hm => k_mem); (case hd => assumption); (case hp => assumption); (case lo => assumption))))
  k_with "z_set_pl_setItem_ref_str" => (apply set_pl; (case F => k_asm); (case N => k_asm); (case U => k_updF); (case hd => assumption); (case hp => assumption); (case hk => assumption); (case hsz => omega))
  k_with "z:exec Raise some none" => ((k_dflt (apply raise_stmt; (case hh => exact rfl); (case G => assumption))))
  k_with "z:call ref" => (((with_reducible show wpAny _ _ (call (Value.ref 44) [_]) _ _ _); k_dflt (apply refusal_raise; (case G => assumption); (case kE => assumption); (case B => assumption); (case F => k_asm); (case N => k_asm); (case X => assumption); (case rm => (exact RoomUp.use (by assumption) (by omega))); (case hf => exact rfl); (case hk => exact rfl); refine wall ?_)))
  k_with "z:joinParts" => (((first | (with_reducible show wpAny _ _ (joinParts _ []) _ _ _) | (with_reducible show wpAny _ _ (joinParts _ (evalEach [] _)) _ _ _)); k_dflt ((try refine joinParts_nilE ?_); refine joinParts_nil ?_ ?_; rotate_left; exact argText_len (by omega))))
  k_with "z_use_dbl_call_ref" => ((with_reducible show wpAny _ _ (call (Value.ref 114) [_]) _ _ _); apply use_dbl; (case G => assumption); (case B => assumption); (case F => k_asm); (case N => k_asm); (case rm => (exact RoomUp.use (by assumption) (by omega))); (case hf => exact rfl); (case hk => exact rfl); (case hl => first | assumption | omega))
  k_with "z:exec While BoolOp cons nil" => (refine wall ?_)
  k_with "z:exec While BoolOp" => (refine wall ?_)
  k_with "z_use_free_call_ref" => ((with_reducible show wpAny _ _ (call (Value.ref 95) [_, _]) _ _ _); apply use_free; (case G => assumption); (case B => assumption); (case hM => assumption); (case hc => assumption); (case F => k_asm); (case N => k_asm); (case rm => (exact RoomUp.use (by assumption) (by omega))); (case hT => (intro p hp; simp only [mLed, List.mem_cons, List.not_mem_nil, or_false] at hp ⊢; simp [hp])); (case hj => omega); (case hf => exact rfl); (case hk => exact rfl))
  k_with "z:eval ListComp" => (refine wall ?_)
  k_with "z:CompSrcT" => (refine wall ?_)
  k_with "z:CompSrc" => (refine wall ?_)
  k_with "z:CompEnd" => (refine wall ?_)
  k_with "z:FinE" => (refine wall ?_)
  k_with "z:exec Assign cons ListComp" => (refine wall ?_)
  k_with "z:FinA" => (refine wall ?_)
  k_with "z_join_led_call_builtin_str_join" => (apply join_led; (case N => k_asm); (case hm => k_mem); (case hi => assumption); (case hsep => decide +kernel); (case hw => omega))
  k_with "z_use_argtext_call_ref" => ((with_reducible show wpAny _ _ (call (Value.ref 121) [_, _, _]) _ _ _); apply use_argtext; (case G => assumption); (case B => assumption); (case hla => assumption); (case hav => assumption); (case F => k_asm); (case N => k_asm); (case rm => (exact RoomUp.use (by assumption) (by omega))); (case hj => first | assumption | omega); (case hq => omega); (case hf => exact rfl); (case hk => exact rfl))
  exact trivial
section
variable {w : World} {mean : ExcName → Option Value} {mg mb : Str → Option Value} {base : Heap} {envs : List Env} {s : Shared} {A : Around} {prog : Program} {R : Result → Shared → Prop} {la lr : Addr} {av rv : List Value} {qs : List (Tag × Value)} {rest : List Nat}
theorem unused_c (G : Gr w mean mg mb base) (a : At base envs s.heap []) (hla : s.heap.IsList la av.toArray) (hav : ArgsAre s.heap av qs) (hlr : s.heap.IsList lr rv.toArray) (hrv : IntsAre rv (natsI rest))
   (hj : ∀ j ∈ rest, j < qs.length) (hq : qs.length ≤ 10) (hr : rest.length ≤ 10) (htag : ∀ x, some x ∈ qs.map (·.1) → x.length ≤ 10) (rm : Room A envs 4)
   (k : ∀ v h' tk', Left s [] (fun v T' => T' = [] ∧ ∃ t, v = .str (unusedText (qs.map (·.1)) rest) t) v h' → R (.ok (.ret v)) { s with heap := h', toks := tk' }) :
   codeAny (model prog w) A (.call (.ref 126) ⟨[.ref la, .ref lr, .none], []⟩) R s := by
  refine hide fun P_ k_ => ?_
  obtain ⟨dp', un, gd, rfl, hdp, hun⟩ := rm.of
  refine k_ ?_; clear k_ P_
  have rmU := rm.up
  refine enterX (P := fun _ => False) (binds := [(Str.ofString "args", .ref la), (Str.ofString "rest", .ref lr), (Str.ofString "show", .none)]) G a rfl ?_ (by k_is) (by k_is) (BindsTo.of_eq rfl) rfl (by decide +kernel) ?_ k (fun _ _ _ _ h => h.elim) rfl rfl rfl
  · show dp' < recursionLimit
    omega
  · intro g L' h₁ tk cells E F' N' Y' B' X' T' l1 KG hE kE
    have KG' : ∀ b o, s.heap.get? b = some o → g.get? b = some o := fun b o e => KG b o e (by simp)
    replace hla := hla.at fun o e => KG' _ o e
    replace hlr := hlr.at fun o e => KG' _ o e
    replace hav := hav.up KG'
    refine hide fun P_ k_ => ?_
    obtain ⟨o1, o2, hcells, d1, d2⟩ := CellsAre.two Y'
    refine k_ ?_; clear k_ P_
    subst hcells
    clear Y'
    (try simp only [List.cons_append, List.nil_append] at N')
    (try dsimp only)
    k_steps
    unfold Wall
    refine LCg.Assign_ListComp_U (F₀ := by k_asm) (by rfl) (by with_unfolding_all rfl) (by with_unfolding_all rfl) (by decide) (by rfl) (by decide) (by rfl) (by rfl) (by rfl) ?_
    k_steps
    unfold Wall
    refine LCg.CompSrc.base (by rfl) F' N' hlr ?_ fun g' => ?_
    · rw [List.size_toArray, hrv.length, List.length_map, sizeLine_eq]; omega
    refine comp_inv (fun _ : Unit => [(L' + 1 + 1, o1), (L' + 1, o2)]) (fun i ys _ => StrsAre ys ((rest.take i).map (showTag (qs.map (·.1))))) () (by exact .nil) ?_ ?_
    · rintro i ys ⟨⟩ v I oI C oC D m₂ h tk2 E' hi hv hys hC hx F3 N3 off ne
      refine hide fun P_ k_ => ?_
      obtain ⟨j, tj, hji, rfl⟩ := intsAre_at hrv hv
      refine k_ ?_; clear k_ P_
      have hjm := hj j (List.mem_of_getElem? hji)
      (try dsimp only at *)
      clear F' N'
      k_steps
      unfold Wall
      (rename Fr _ _ _ _ => F4)
      (rename News _ _ _ _ => N4)
      refine LCg.CompEnd.intro F4 N4 [(L' + 1 + 1, o1), (L' + 1, o2)] (fun p hp => hp) off (.inl hlr) ⟨(), rfl, ?_⟩
      rw [List.take_add_one, hji]
      simpa using strsAre_snoc hys
    · rintro ys ⟨⟩ hys D h tk2 F3 N3 off
      rw [List.size_toArray, hrv.length, List.length_map, List.take_length] at hys
      have hlen : ys.length = rest.length := by rw [hys.length, List.length_map]
      have hjl := joinTags_len hr (fun j hj' => by have := hj j hj'; omega) htag
      (try dsimp only)
      clear F' N'
      obtain ⟨hjs, hjl⟩ := hjl
      k_steps
      · (rename 1 < _ => hlt)
        exact ⟨_, _, _, _, _, rfl, by assumption, News.nil, rfl, _, by unfold unusedText; rw [if_pos (show 1 < rest.length by omega)]⟩
      · (rename ¬ 1 < _ => hlt)
        exact ⟨_, _, _, _, _, rfl, by assumption, News.nil, rfl, _, by unfold unusedText; rw [if_neg (show ¬ 1 < rest.length by omega)]⟩
end
theorem cleanH024 : True := by
  w_top off
  k_with_none
  exact trivial
theorem fillH0 : (PySem.Challenge.rw_no0499_01 = PySem.Challenge.rw_no0499_01) ∧ hd.heap_39 = hd.heap_39 := by
  k_fill
  exact ⟨rfl, rfl⟩
theorem cleanH025 : True := by
  k_with "z_k_ne" => (((try dsimp only); first | assumption | exact Ne.symm (by assumption)))
  k_with "z:exec For Name Call cons nil" => (refine wall ?_)
  k_with "z:exec For Name Attribute cons nil" => (refine wall ?_)
  k_with "z:exec For Name Name cons nil" => (refine wall ?_)
  k_with "z:pyIter ref" => (refine wall ?_)
  k_with "z:call builtin:len" => (((with_reducible show wpAny _ _ (call (Value.builtin _) [Value.ref _]) _ _ _); k_dflt (apply len_led; (case N => k_asm); (case hm => k_mem); (case hn => k_asm); (case hs => omega))))
  k_with "z_item_tag_subscriptTail_Name_Name_ref_int" => ((with_reducible show wpAny _ _ (subscriptTail _ _ (Value.ref _) (Value.int _ _)) _ _ _); apply item_tag; (case hs => with_unfolding_all rfl); (case N => k_asm); (case hm => k_mem); (case ht => assumption); (case h0 => omega); (case hhi => omega); (case hk => omega))
  k_with "z_item_int_subscriptTail_Name_Name_ref_int" => ((with_reducible show wpAny _ _ (subscriptTail _ _ (Value.ref _) (Value.int _ _)) _ _ _); apply item_int; (case hs => with_unfolding_all rfl); (case N => k_asm); (case hm => k_mem); (case ht => assumption); (case h0 => omega); (case hhi => omega); (case hk => omega))
  k_with "z:compareOp In str ref" => ((k_dflt (apply in_pl; (case N => k_asm); (case hm => k_mem); (case hd => assumption); (case hp => assumption); (case lo => assumption))))
  k_with "z:compareOp NotIn str ref" => ((k_dflt (apply notin_pl; (case N => k_asm); (case hm => k_mem); (case hd => assumption); (case hp => assumption); (case lo => assumption))))
  k_with "z_set_pl_setItem_ref_str" => (apply set_pl; (case F => k_asm); (case N => k_asm); (case U => k_updF); (case hd => assumption); (case hp => assumption); (case hk => assumption); (case hsz => omega))
  k_with "z:exec Raise some none" => ((k_dflt (apply raise_stmt; (case hh => exact rfl); (case G => assumption))))
  k_with "z:call ref" => (((with_reducible show wpAny _ _ (call (Value.ref 44) [_]) _ _ _); k_dflt (apply refusal_raise; (case G => assumption); (case kE => assumption); (case B => assumption); (case F => k_asm); (case N => k_asm); (case X => assumption); (case rm => (exact RoomUp.use (by assumption) (by omega))); (case hf => exact rfl); (case hk => exact rfl); refine wall ?_)))
  k_with "z:joinParts" => (((first | (with_reducible show wpAny _ _ (joinParts _ []) _ _ _) | (with_reducible show wpAny _ _ (joinParts _ (evalEach [] _)) _ _ _)); k_dflt ((try refine joinParts_nilE ?_); refine joinParts_nil ?_ ?_; rotate_left; exact argText_len (by omega))))
  k_with "z_use_dbl_call_ref" => ((with_reducible show wpAny _ _ (call (Value.ref 114) [_]) _ _ _); apply use_dbl; (case G => assumption); (case B => assumption); (case F => k_asm); (case N => k_asm); (case rm => (exact RoomUp.use (by assumption) (by omega))); (case hf => exact rfl); (case hk => exact rfl); (case hl => first | assumption | omega))
  k_with "z:exec While BoolOp cons nil" => (refine wall ?_)
  k_with "z:exec While BoolOp" => (refine wall ?_)
  k_with "z_use_free_call_ref" => ((with_reducible show wpAny _ _ (call (Value.ref 95) [_, _]) _ _ _); apply use_free; (case G => assumption); (case B => assumption); (case hM => assumption); (case hc => assumption); (case F => k_asm); (case N => k_asm); (case rm => (exact RoomUp.use (by assumption) (by omega))); (case hT => (intro p hp; simp only [mLed, List.mem_cons, List.not_mem_nil, or_false] at hp ⊢; simp [hp])); (case hj => omega); (case hf => exact rfl); (case hk => exact rfl))
  exact trivial
section
variable {w : World} {mean : ExcName → Option Value} {mg mb : Str → Option Value} {base : Heap} {envs : List Env} {s : Shared} {A : Around} {prog : Program} {R : Result → Shared → Prop} {x dx lf lt : Addr} {tv : List Value} {nt n : Nat}
def initD (w : World) (prog : Program) (x dx lf lt : Addr) (tv : List Value) (nt n : Nat) (v : Value) (T' : List (Addr × Obj)) : Prop :=
  v = .none ∧ ∃ e1 e2 e3 e4 k1 k2 k3 k4 lu dp nd nu uv od, T' = [(x, instObj 103 dx), (dx, mDict e1 e2 e3 e4 k1 k2 k3 k4 lf lt lu dp nd), (lt, PySem.W.listOf tv.toArray nt), (lu, PySem.W.listOf uv.toArray nu), (dp, od)] ∧ IntsAre uv (List.replicate n 0) ∧ od.IsDictOf (PySem.strKind prog w) [] ∧ (dp == sysModules) = false ∧
    (@Ne Nat lu dp) ∧ ((@Ne Nat lu x) ∧ (@Ne Nat lu dx) ∧ (@Ne Nat lu lt)) ∧ (@Ne Nat dp x) ∧ (@Ne Nat dp dx) ∧ (@Ne Nat dp lt)
theorem initD_of {g h : Heap} {L : Addr} {m : Str → Option Value} {tk : Nat} {n nt : Nat} {e1 e2 e3 e4 : Int} {k1 k2 k3 k4 : Tok} {lu dp : Addr} {nd nu : Nat} {uv : List Value} {od : Obj} {l0 : Addr × Obj} (F : Fr g L h m)
   (N : News g L h [(dp, od), (lu, PySem.W.listOf uv.toArray nu), l0, (x, instObj 103 dx), (dx, mDict e1 e2 e3 e4 k1 k2 k3 k4 lf lt lu dp nd), (lt, PySem.W.listOf tv.toArray nt)]) (hi : IntsAre uv (List.replicate ((n : Int)).toNat [(0 : Int)]).flatten) (hd : od.IsDictOf (PySem.strKind prog w) []) (hs : (dp == sysModules) = false)
   (ho : (@Ne Nat lu dp) ∧ ((@Ne Nat lu x) ∧ (@Ne Nat lu dx) ∧ (@Ne Nat lu lt)) ∧ (@Ne Nat dp x) ∧ (@Ne Nat dp dx) ∧ (@Ne Nat dp lt)) : Back g s (initD w prog x dx lf lt tv nt n) .none { s with heap := h, toks := tk } := by
  refine ⟨_, _, [(x, instObj 103 dx), (dx, mDict e1 e2 e3 e4 k1 k2 k3 k4 lf lt lu dp nd), (lt, PySem.W.listOf tv.toArray nt), (lu, PySem.W.listOf uv.toArray nu), (dp, od)], _, _, rfl, F, kst_newsOf N ?_, rfl, _, _, _, _, _, _, _, _, _, _, _, _, _, _, rfl, ?_, hd, hs, ho⟩
  · first | ((repeat (first | (with_reducible exact sub_nil) | (with_reducible exact sub_refl) | (with_reducible (refine sub_cons ?_ ?_; focus ((repeat (first | exact List.mem_cons_self | refine List.mem_cons_of_mem _ ?_)); done))) | (with_reducible refine sub_tail ?_))); done) | ((repeat (first | (exact sub_nil) | (exact sub_refl) | ((refine sub_cons ?_ ?_; focus ((repeat (first | exact List.mem_cons_self | refine List.mem_cons_of_mem _ ?_)); done))) | (refine sub_tail ?_))); done)
  · have e : (List.replicate ((n : Int)).toNat [(0 : Int)]).flatten = List.replicate n 0 := by rw [toNat_nat, lm_rep_flat_one]
    rw [e] at hi
    exact hi
theorem init60 (G : Gr w mean mg mb base) (a : At base envs s.heap [(x, instObj 103 dx), (dx, dictOf [] 0), (lt, PySem.W.listOf tv.toArray nt)]) (nn : List.Nodup [x, dx, lt]) (hn : tv.length = n) (htl : n ≤ 10) (rm : Room A envs 2)
   (k : ∀ v h' tk', Left s [(x, instObj 103 dx), (dx, dictOf [] 0), (lt, PySem.W.listOf tv.toArray nt)] (initD w prog x dx lf lt tv nt n) v h' → R (.ok (.ret v)) { s with heap := h', toks := tk' }) :
   codeAny (model prog w) A (.call (.ref 60) ⟨[.ref x, .ref lf, .ref lt], []⟩) R s := by
  refine hide fun P_ k_ => ?_
  obtain ⟨dp', un, gd, rfl, hdp, hun⟩ := rm.of
  refine k_ ?_; clear k_ P_
  have rmU := rm.up
  simp only [List.nodup_cons, List.mem_cons, List.not_mem_nil, or_false, not_or, List.nodup_nil, and_true, not_false_eq_true] at nn
  obtain ⟨⟨_, _⟩, _⟩ := nn
  refine enter (binds := [(Str.ofString "self", .ref x), (Str.ofString "formals", .ref lf), (Str.ofString "tags", .ref lt)]) G a rfl ?_ (by k_is) (by k_is) (BindsTo.of_eq rfl) (locs rfl) ?_ k rfl rfl rfl (by decide)
  · show dp' < recursionLimit
    omega
  · intro g L' h₁ F' N' B' X' T' l1
    (try k_lt l1)
    (try dsimp only)
    k_steps
    (rename Fr _ _ _ _ => F3)
    (rename News _ _ _ _ => N3)
    (rename IntsAre _ _ => hi)
    refine initD_of F3 N3 hi (by assumption) (by assumption) ?_
    refine ⟨?_, ⟨?_, ?_, ?_⟩, ?_, ?_, ?_⟩ <;> (show ¬ (_ = _); omega)
end
section
variable {w : World} {mean : ExcName → Option Value} {mg mb : Str → Option Value} {base : Heap} {outer : List Env} {s : Shared} {A A₀ : Around} {prog : Program} {g : Heap} {L : Addr} {m : Str → Option Value} {env : Env} {rest : List (Addr × Obj)} {lf lt : Addr} {tv : List Value} {nt n : Nat}
  {Q : Value → Shared → Prop} {E : Value → Shared → Prop}
theorem make_matching (G : Gr w mean mg mb base) (B : Below A₀ base outer g) (F : Fr g L s.heap m) (N : News g L s.heap ((lt, PySem.W.listOf tv.toArray nt) :: rest)) (X : (hd.heap_39 w.params).In g) (rm : Room A (env :: outer) 3) (hf : env.frame = some L) (hk : env.scope.kind = .function)
   (hn : tv.length = n) (htl : n ≤ 10) (hr : ∀ p ∈ rest, p.1 ≠ lt)
   (k : ∀ x dx e1 e2 e3 e4 k1 k2 k3 k4 lu dp nd nu uv od h' tk', Fr g L h' m →
      News g L h' ((x, instObj 103 dx) :: (dx, mDict e1 e2 e3 e4 k1 k2 k3 k4 lf lt lu dp nd) :: (lt, PySem.W.listOf tv.toArray nt) :: (lu, PySem.W.listOf uv.toArray nu) :: (dp, od) :: rest) →
      IntsAre uv (List.replicate n 0) → od.IsDictOf (PySem.strKind prog w) [] → (dp == sysModules) = false → List.Nodup [x, dx, lt, lu, dp] → (∀ p ∈ rest, p.1 ∉ [x, dx, lt, lu, dp]) → Q (.ref x) { s with heap := h', toks := tk' }) :
   wpAny (model prog w) A (call (.ref 103) [.ref lf, .ref lt]) Q E s := by
  refine call_cls F X N (by k_is) (by k_is) (by k_is) fun x dx h₁ F₁ N₁ l1 l2 => ?_
  have hlt1 : lt < dx := l1 _ (.head _)
  have nn : List.Nodup [x, dx, lt] := by
    simp only [List.nodup_cons, List.mem_cons, List.not_mem_nil, or_false, not_or, List.nodup_nil, and_true, not_false_eq_true]
    exact ⟨⟨Nat.ne_of_gt l2, Nat.ne_of_gt (Nat.lt_trans hlt1 l2)⟩, Nat.ne_of_gt hlt1⟩
  refine init60 (s := { s with heap := h₁ }) (envs := env :: outer) (nt := nt) G (at_of B F₁ N₁ hf hk ?_) nn hn htl (rm.make _ _) fun v h' tk' l => ?_
  · first | ((repeat (first | (with_reducible exact sub_nil) | (with_reducible exact sub_refl) | (with_reducible (refine sub_cons ?_ ?_; focus ((repeat (first | exact List.mem_cons_self | refine List.mem_cons_of_mem _ ?_)); done))) | (with_reducible refine sub_tail ?_))); done) | ((repeat (first | (exact sub_nil) | (exact sub_refl) | ((refine sub_cons ?_ ?_; focus ((repeat (first | exact List.mem_cons_self | refine List.mem_cons_of_mem _ ?_)); done))) | (refine sub_tail ?_))); done)
  · have hfresh : ∀ p ∈ (lt, PySem.W.listOf tv.toArray nt) :: rest, h₁.get? p.1 = some p.2 := fun p hp => (N₁ p (.tail _ (.tail _ hp))).1
    obtain ⟨F', T', ⟨rfl, e1, e2, e3, e4, k1, k2, k3, k4, lu, dp, nd, nu, uv, od, rfl, hi, hd, hs, hne⟩, N', hx⟩ := left_back (s := { s with heap := h₁ }) (rest := rest) F₁ N₁ (by
      first | ((repeat (first | (with_reducible exact sub_nil) | (with_reducible exact sub_refl) | (with_reducible (refine sub_cons ?_ ?_; focus ((repeat (first | exact List.mem_cons_self | refine List.mem_cons_of_mem _ ?_)); done))) | (with_reducible refine sub_tail ?_))); done) | ((repeat (first | (exact sub_nil) | (exact sub_refl) | ((refine sub_cons ?_ ?_; focus ((repeat (first | exact List.mem_cons_self | refine List.mem_cons_of_mem _ ?_)); done))) | (refine sub_tail ?_))); done)) (by
      intro p hp
      refine ⟨.tail _ (.tail _ (.tail _ hp)), ?_⟩
      have hp1 := l1 p (.tail _ hp)
      simp only [List.map_cons, List.map_nil, List.mem_cons, List.not_mem_nil, or_false, not_or]
      exact ⟨Nat.ne_of_lt (Nat.lt_trans hp1 l2), Nat.ne_of_lt hp1, hr p hp⟩) l
    refine hide fun P_ k_ => ?_
    obtain ⟨o1, ⟨o2, o3, o4⟩, o5, o6, o7⟩ := hne
    refine k_ ?_; clear k_ P_
    refine ⟨rfl, k x dx e1 e2 e3 e4 k1 k2 k3 k4 lu dp nd nu uv od h' tk' F' N' hi hd hs ?_ ?_⟩
    · simp only [List.nodup_cons, List.mem_cons, List.not_mem_nil, or_false, not_or, List.nodup_nil, and_true, not_false_eq_true]
      exact ⟨⟨Nat.ne_of_gt l2, Nat.ne_of_gt (Nat.lt_trans hlt1 l2), o2.symm, o5.symm⟩, ⟨Nat.ne_of_gt hlt1, o3.symm, o6.symm⟩, ⟨o4.symm, o7.symm⟩, o1⟩
    · intro p hp
      have hp1 := l1 p (.tail _ hp)
      have old : ∀ b, (b ∈ List.map (·.1) [(x, instObj 103 dx), (dx, dictOf [] 0), (lt, PySem.W.listOf tv.toArray nt)] ∨ (h₁.objs.size ≤ b ∨ h₁.get? b = none)) → b ∉ [x, dx, lt] → p.1 ≠ b := by
        intro b hb hnb e
        rcases hb with hb | hb | hb
        · exact hnb hb
        · have := Heap.lt_size (hfresh p (.tail _ hp))
          rw [e] at this; exact absurd this (Nat.not_lt.mpr hb)
        · have := hfresh p (.tail _ hp)
          rw [e, hb] at this; cases this
      simp only [List.mem_cons, List.not_mem_nil, or_false, not_or]
      refine ⟨Nat.ne_of_lt (Nat.lt_trans hp1 l2), Nat.ne_of_lt hp1, hr p hp, old lu (hx (lu, _) (.tail _ (.tail _ (.tail _ (.head _))))) ?_, old dp (hx (dp, _) (.tail _ (.tail _ (.tail _ (.tail _ (.head _)))))) ?_⟩
      · simp only [List.mem_cons, List.not_mem_nil, or_false, not_or]; exact ⟨o2, o3, o4⟩
      · simp only [List.mem_cons, List.not_mem_nil, or_false, not_or]; exact ⟨o5, o6, o7⟩
theorem make_matchM {fv : List Value} {nf : Nat} {fs : List Str} {ts : List Tag} (G : Gr w mean mg mb base) (B : Below A₀ base outer g) (F : Fr g L s.heap m) (N : News g L s.heap [(lt, PySem.W.listOf tv.toArray nt), (lf, PySem.W.listOf fv.toArray nf)]) (X : (hd.heap_39 w.params).In g) (rm : Room A (env :: outer) 3) (hf : env.frame = some L) (hk : env.scope.kind = .function)
   (hfv : StrsAre fv fs) (htv : TagsAre tv ts) (hr : fs.length ≤ 10) (hq : ts.length ≤ 10) (hfn : ∀ f ∈ fs, f.length ≤ 10) (hne : lf ≠ lt)
   (k : ∀ M c h' tk', Fr g L h' m → News g L h' (mLed M c) → MOk M → SOk w prog M c 100 → M.lf = lf → M.fv = fv → M.nf = nf → M.fs = fs → M.ts = ts → c.us = List.replicate ts.length 0 → c.pl = [] → Q (.ref M.x) { s with heap := h', toks := tk' }) :
   wpAny (model prog w) A (call (.ref 103) [.ref lf, .ref lt]) Q E s := by
  refine make_matching (rest := [(lf, PySem.W.listOf fv.toArray nf)]) G B F N X rm hf hk htv.length hq (fun p hp => by rw [List.mem_singleton.mp hp]; exact hne) ?_
  intro x dx e1 e2 e3 e4 k1 k2 k3 k4 lu dp nd nu uv od h' tk' F5 N5 hi hdc hsys hnd hndl
  have hndl := hndl _ (.head _)
  (try dsimp only at hndl)
  refine k ⟨x, dx, lf, lt, lu, dp, e1, e2, e3, e4, k1, k2, k3, k4, nd, nf, nt, fv, tv, fs, ts⟩ ⟨uv, List.replicate ts.length 0, nu, od, [], []⟩ h' tk' F5 (kst_newsOf N5 fun p hp => ?_) ?_ ⟨hi, hdc, .nil, by rw [List.length_replicate], Nat.zero_le _⟩ rfl rfl rfl rfl rfl rfl rfl
  · simp only [mLed, List.mem_cons, List.not_mem_nil, or_false] at hp ⊢
    rcases hp with rfl | rfl | rfl | rfl | rfl | rfl <;> simp
  · simp only [List.nodup_cons, List.mem_cons, List.not_mem_nil, or_false, not_or, List.nodup_nil, and_true, not_false_eq_true] at hnd hndl
    refine ⟨?_, hsys, hfv, htv, htv.length, hfv.length, hr, hq, hfn⟩
    simp only [List.nodup_cons, List.mem_cons, List.not_mem_nil, or_false, not_or, List.nodup_nil, and_true, not_false_eq_true]
    refine hide fun P_ k_ => ?_
    obtain ⟨⟨a1, a2, a3, a4⟩, ⟨a5, a6, a7⟩, ⟨a8, a9⟩, a10⟩ := hnd
    obtain ⟨b1, b2, b3, b4, b5⟩ := hndl
    refine k_ ?_; clear k_ P_
    exact ⟨⟨a1, Ne.symm b1, a2, a3, a4⟩, ⟨Ne.symm b2, a5, a6, a7⟩, ⟨b3, b4, b5⟩, ⟨a8, a9⟩, a10⟩
end
theorem cleanH126 : True := by
  w_top off
  k_with_none
  exact trivial
theorem fillH1 : (PySem.Challenge.rw_no0499_01 = PySem.Challenge.rw_no0499_01) ∧ hd.heap_39 = hd.heap_39 := by
  k_fill
  exact ⟨rfl, rfl⟩
theorem cleanH127 : True := by
  k_with "z_k_ne" => (((try dsimp only); first | assumption | exact Ne.symm (by assumption)))
  k_with "z:exec For Name Call cons nil" => (refine wall ?_)
  k_with "z:exec For Name Attribute cons nil" => (refine wall ?_)
  k_with "z:exec For Name Name cons nil" => (refine wall ?_)
  k_with "z:pyIter ref" => (refine wall ?_)
  k_with "z:call builtin:len" => (((with_reducible show wpAny _ _ (call (Value.builtin _) [Value.ref _]) _ _ _); k_dflt (apply len_led; (case N => k_asm); (case hm => k_mem); (case hn => k_asm); (case hs => omega))))
  k_with "z_item_tag_subscriptTail_Name_Name_ref_int" => ((with_reducible show wpAny _ _ (subscriptTail _ _ (Value.ref _) (Value.int _ _)) _ _ _); apply item_tag; (case hs => with_unfolding_all rfl); (case N => k_asm); (case hm => k_mem); (case ht => assumption); (case h0 => omega); (case hhi => omega); (case hk => omega))
  k_with "z_item_int_subscriptTail_Name_Name_ref_int" => ((with_reducible show wpAny _ _ (subscriptTail _ _ (Value.ref _) (Value.int _ _)) _ _ _); apply item_int; (case hs => with_unfolding_all rfl); (case N => k_asm); (case hm => k_mem); (case ht => assumption); (case h0 => omega); (case hhi => omega); (case hk => omega))
  k_with "z:compareOp In str ref" => ((k_dflt (apply in_pl; (case N => k_asm); (case hm => k_mem); (case hd => assumption); (case hp => assumption); (case lo => assumption))))
  k_with "z:compareOp NotIn str ref" => ((k_dflt (apply notin_pl; (case N => k_asm); (case hm => k_mem); (case hd => assumption); (case hp => assumption); (case lo => assumption))))
  k_with "z_set_pl_setItem_ref_str" => (apply set_pl; (case F => k_asm); (case N => k_asm); (case U => k_updF); (case hd => assumption); (case hp => assumption); (case hk => assumption); (case hsz => omega))
  k_with "z:exec Raise some none" => ((k_dflt (apply raise_stmt; (case hh => exact rfl); (case G => assumption))))
  k_with "z:call ref" => (((with_reducible show wpAny _ _ (call (Value.ref 44) [_]) _ _ _); k_dflt (apply refusal_raise; (case G => assumption); (case kE => assumption); (case B => assumption); (case F => k_asm); (case N => k_asm); (case X => assumption); (case rm => (exact RoomUp.use (by assumption) (by omega))); (case hf => exact rfl); (case hk => exact rfl); refine wall ?_)))
  k_with "z:joinParts" => (((first | (with_reducible show wpAny _ _ (joinParts _ []) _ _ _) | (with_reducible show wpAny _ _ (joinParts _ (evalEach [] _)) _ _ _)); k_dflt ((try refine joinParts_nilE ?_); refine joinParts_nil ?_ ?_; rotate_left; exact argText_len (by omega))))
  k_with "z_use_dbl_call_ref" => ((with_reducible show wpAny _ _ (call (Value.ref 114) [_]) _ _ _); apply use_dbl; (case G => assumption); (case B => assumption); (case F => k_asm); (case N => k_asm); (case rm => (exact RoomUp.use (by assumption) (by omega))); (case hf => exact rfl); (case hk => exact rfl); (case hl => first | assumption | omega))
  k_with "z:exec While BoolOp cons nil" => (refine wall ?_)
  k_with "z:exec While BoolOp" => (refine wall ?_)
  k_with "z_use_free_call_ref" => ((with_reducible show wpAny _ _ (call (Value.ref 95) [_, _]) _ _ _); apply use_free; (case G => assumption); (case B => assumption); (case hM => assumption); (case hc => assumption); (case F => k_asm); (case N => k_asm); (case rm => (exact RoomUp.use (by assumption) (by omega))); (case hT => (intro p hp; simp only [mLed, List.mem_cons, List.not_mem_nil, or_false] at hp ⊢; simp [hp])); (case hj => omega); (case hf => exact rfl); (case hk => exact rfl))
  k_with "z:eval ListComp" => (refine wall ?_)
  k_with "z:CompSrcT" => (refine wall ?_)
  k_with "z:CompSrc" => (refine wall ?_)
  k_with "z:CompEnd" => (refine wall ?_)
  k_with "z:FinE" => (refine wall ?_)
  k_with "z:exec Assign cons ListComp" => (refine wall ?_)
  k_with "z:FinA" => (refine wall ?_)
  k_with "z:call ref" => (((with_reducible show wpAny _ _ (call (Value.ref 103) [_, _]) _ _ _); refine wall ?_))
  k_with "z:call ref" => (((with_reducible show wpAny _ _ (call (Value.ref 67) [_]) _ _ _); refine wall ?_))
  k_with "z:call ref" => (((with_reducible show wpAny _ _ (call (Value.ref 74) [_]) _ _ _); refine wall ?_))
  k_with "z:call ref" => (((with_reducible show wpAny _ _ (call (Value.ref 88) [_]) _ _ _); refine wall ?_))
  k_with "z:call ref" => (((with_reducible show wpAny _ _ (call (Value.ref 100) [_]) _ _ _); refine wall ?_))
  k_with "z:call ref" => (((with_reducible show wpAny _ _ (call (Value.ref 126) [_, _, _]) _ _ _); refine wall ?_))
  exact trivial
theorem notin_strs {prog : Program} {w : World} {A : Around} {E : Value → Shared → Prop} {s : Shared} {h₀ : Heap} {L : Addr} {news : List (Addr × Obj)} {l : Addr} {vs : List Value} {ys : List Str} {nn : Nat} {x : Str} {t : Tok} {Q : Value → Shared → Prop}
   (N : News h₀ L s.heap news) (hm : (l, PySem.W.listOf vs.toArray nn) ∈ news) (hi : StrsAre vs ys) (h : Q (.bool (!decide (x ∈ ys))) s) : wpAny (model prog w) A (compareOp .NotIn (.str x t) (.ref l)) Q E s := by
  refine notin_list_strs ⟨_, (N _ hm).1, rfl, nn, rfl⟩ hi ?_
  have e : ys.any (· == x) = decide (x ∈ ys) := by
    rw [Bool.eq_iff_iff]
    simp only [List.any_eq_true, decide_eq_true_eq]
    exact ⟨fun ⟨y, hy, e⟩ => eq_of_beq e ▸ hy, fun hy => ⟨x, hy, beq_self_eq_true x⟩⟩
  rw [e]; exact h
theorem cleanH128 : True := by
  k_with "z:compareOp NotIn str ref" => ((k_dflt (apply notin_strs; (case N => k_asm); (case hm => k_mem); (case hi => assumption))))
  exact trivial
def matchP (ts : List Tag) (fs : List Str) : Except Str (Pl × List Nat) :=
  match exAll ts fs (List.replicate ts.length 0, []) with
  | .error m => .error m
  | .ok st => match paAll ts (ahead fs) st with
    | .error m => .error m
    | .ok st => let st := posAll ts (ahead fs) st
      let r := restTo st.1 ts.length
      if r ≠ [] ∧ dots ∉ fs then .error (unusedText ts r) else .ok (st.2, r)
theorem matchP_err1 {ts : List Tag} {fs : List Str} {m : Str} (h : exAll ts fs (List.replicate ts.length 0, []) = .error m) : matchP ts fs = .error m := by
  unfold matchP; rw [h]
theorem matchP_err2 {ts : List Tag} {fs : List Str} {m : Str} {st : St} (h : exAll ts fs (List.replicate ts.length 0, []) = .ok st) (h2 : paAll ts (ahead fs) st = .error m) : matchP ts fs = .error m := by
  unfold matchP; rw [h]; dsimp only; rw [h2]
theorem matchP_fin {ts : List Tag} {fs : List Str} {st st2 : St} (h : exAll ts fs (List.replicate ts.length 0, []) = .ok st) (h2 : paAll ts (ahead fs) st = .ok st2) {us : List Int} {pl : Pl} (h3 : (us, pl) = posAll ts (ahead fs) st2) :
    matchP ts fs = if restTo us ts.length ≠ [] ∧ dots ∉ fs then .error (unusedText ts (restTo us ts.length)) else .ok (pl, restTo us ts.length) := by
  unfold matchP; rw [h]; dsimp only; rw [h2]; dsimp only; rw [← h3]
theorem IsTup.upT {h h' : Heap} (k : ∀ b o, h.get? b = some o → o.cls = .type "tuple" → h'.get? b = some o) {a : Addr} {it : Array Value} (x : IsTup h a it) : IsTup h' a it := by
  refine hide fun P_ k_ => ?_
  obtain ⟨o, h1, h2, h3⟩ := x
  refine k_ ?_; clear k_ P_
  exact ⟨o, k _ _ h1 h2, h2, h3⟩
theorem ArgsAre.upT {h h' : Heap} (k : ∀ b o, h.get? b = some o → o.cls = .type "tuple" → h'.get? b = some o) {av : List Value} {qs : List (Tag × Value)} (x : ArgsAre h av qs) : ArgsAre h' av qs := by
  induction x with
  | nil => exact .nil
  | cons r _ ih =>
    refine hide fun P_ k_ => ?_
    obtain ⟨T, tv, e, ht, hg⟩ := r
    refine k_ ?_; clear k_ P_
    exact .cons ⟨T, tv, e, IsTup.upT k ht, hg⟩ ih
def matchD (w : World) (prog : Program) (lf : Addr) (fv : List Value) (nf : Nat) (ts : List Tag) (fs : List Str) (v : Value) (T' : List (Addr × Obj)) : Prop :=
  ∃ t dp od r rv kvs pl rest, v = .ref t ∧ T' = [(t, { cls := .type "tuple", data := .seq #[.ref dp, .ref r] 0}), (dp, od), (r, LCg.lst rv), (lf, PySem.W.listOf fv.toArray nf)] ∧ od.IsDictOf (PySem.strKind prog w) kvs ∧ PlAre kvs pl ∧ IntsAre rv (natsI rest) ∧ matchP ts fs = .ok (pl, rest) ∧ (dp == sysModules) = false
section
variable {w : World} {mean : ExcName → Option Value} {mg mb : Str → Option Value} {base : Heap} {envs : List Env} {s : Shared} {A : Around} {prog : Program} {R : Result → Shared → Prop} {la lf : Addr} {av fv : List Value} {nf : Nat} {qs : List (Tag × Value)} {fs : List Str}
def matchE (ts : List Tag) (fs : List Str) (v : Value) : Prop := ∃ m t, v = .str m t ∧ matchP ts fs = .error m
theorem matchD_of {g h : Heap} {L : Addr} {m : Str → Option Value} {tk : Nat} {t dp r lf : Addr} {od : Obj} {rv fv : List Value} {nf : Nat} {kvs : List (Str × Value)} {pl : Pl} {rest : List Nat} {ts : List Tag} {fs : List Str} {b1 b2 b4 b5 : Addr × Obj} (F : Fr g L h m)
   (N : News g L h [(t, { cls := .type "tuple", data := .seq #[.ref dp, .ref r] 0}), (r, LCg.lst rv), b1, b2, (lf, PySem.W.listOf fv.toArray nf), b4, b5, (dp, od)])
   (hd : od.IsDictOf (PySem.strKind prog w) kvs) (hp : PlAre kvs pl) (hr : IntsAre rv (natsI rest)) (hm : matchP ts fs = .ok (pl, rest)) (hs : (dp == sysModules) = false) : Back g s (matchD w prog lf fv nf ts fs) (.ref t) { s with heap := h, toks := tk } := by
  refine ⟨_, _, [(t, { cls := .type "tuple", data := .seq #[.ref dp, .ref r] 0}), (dp, od), (r, LCg.lst rv), (lf, PySem.W.listOf fv.toArray nf)], _, _, rfl, F, kst_newsOf N ?_, _, _, _, _, _, _, _, _, rfl, rfl, hd, hp, hr, hm, hs⟩
  first | ((repeat (first | (with_reducible exact sub_nil) | (with_reducible exact sub_refl) | (with_reducible (refine sub_cons ?_ ?_; focus ((repeat (first | exact List.mem_cons_self | refine List.mem_cons_of_mem _ ?_)); done))) | (with_reducible refine sub_tail ?_))); done) | ((repeat (first | (exact sub_nil) | (exact sub_refl) | ((refine sub_cons ?_ ?_; focus ((repeat (first | exact List.mem_cons_self | refine List.mem_cons_of_mem _ ?_)); done))) | (refine sub_tail ?_))); done)
theorem match_c {args : Args} (hargs : args = ⟨[.ref lf, .ref la, .none], []⟩ ∨ args = ⟨[.ref lf, .ref la], []⟩) (G : Gr w mean mg mb base) (a : At base envs s.heap [(lf, PySem.W.listOf fv.toArray nf)]) (hla : s.heap.IsList la av.toArray) (hal : la ≠ lf) (hav : ArgsAre s.heap av qs) (hf : StrsAre fv fs)
   (hq : qs.length ≤ 10) (hr : fs.length ≤ 10) (hfn : ∀ f ∈ fs, f.length ≤ 10) (htag : ∀ x, some x ∈ qs.map (·.1) → x.length ≤ 10) (rm : Room A envs 12)
   (k : ∀ v h' tk', Left s [(lf, PySem.W.listOf fv.toArray nf)] (matchD w prog lf fv nf (qs.map (·.1)) fs) v h' → R (.ok (.ret v)) { s with heap := h', toks := tk' })
   (kr : ∀ e v h' tk', matchE (qs.map (·.1)) fs v → Flown base envs s [(lf, PySem.W.listOf fv.toArray nf)] v e h' → R (.error (.ref e)) { s with heap := h', toks := tk' }) :
   codeAny (model prog w) A (.call (.ref 132) args) R s := by
  refine hide fun P_ k_ => ?_
  obtain ⟨dp', un, gd, rfl, hdp, hun⟩ := rm.of
  refine k_ ?_; clear k_ P_
  have rmU := rm.up
  refine enterX (P := matchE (qs.map (·.1)) fs) (binds := [(Str.ofString "formals", .ref lf), (Str.ofString "args", .ref la), (Str.ofString "show", .none)]) G a rfl ?_ (by k_is) (by k_is) ?_ rfl (by decide +kernel) ?_ k kr rfl rfl rfl
  · show dp' < recursionLimit
    omega
  · rcases hargs with rfl | rfl <;> exact binds_K (G.kin.keeps a.stays) rfl (by k_is) rfl rfl rfl
  · intro g L' h₁ tk cells E F' N' Y' B' X' T' l1 KG hE kE
    replace hla := hla.at fun o e => KG _ o e (by simpa using hal)
    replace hav := hav.upT (h' := g) fun b o e ec => KG b o e (by
      simp only [List.map_cons, List.map_nil, List.mem_singleton]
      rintro rfl
      rw [(a.news _ (.head _)).1] at e
      cases e; exact absurd ec (by simp))
    have Y2 : cells = [] := by cases Y'; rfl
    subst Y2
    clear Y'
    (try simp only [List.nil_append] at N')
    (try dsimp only)
    k_steps
    unfold Wall
    refine LCg.ListComp_U (F₀ := by k_asm) (by with_unfolding_all rfl) (by decide) (by rfl) (by decide) (by rfl) ?_
    k_steps
    unfold Wall
    refine LCg.CompSrc.base (by rfl) F' N' hla ?_ fun g' => ?_
    · rw [List.size_toArray, hav.length, sizeLine_eq]; omega
    refine comp_inv (fun _ : Unit => [(lf, PySem.W.listOf fv.toArray nf)]) (fun i ys _ => TagsAre ys ((qs.map (·.1)).take i)) () (by exact .nil) ?_ ?_
    · rintro i ys ⟨⟩ v I oI C oC D m₂ h tk2 E' hi hv hys hC hx F3 N3 off ne
      refine hide fun P_ k_ => ?_
      obtain ⟨⟨tg, vl⟩, hqi, T, tv, rfl, hT, hg⟩ := hav.get (by simpa using hv)
      refine k_ ?_; clear k_ P_
      (try dsimp only at *)
      clear F' N'
      k_steps
      unfold Wall
      (rename Fr _ _ _ _ => F4)
      (rename News _ _ _ _ => N4)
      refine LCg.CompEnd.intro F4 N4 [(lf, PySem.W.listOf fv.toArray nf)] (fun p hp => hp) off (.inl hla) ⟨(), rfl, ?_⟩
      rw [List.take_add_one, List.getElem?_map, hqi]
      exact hys.snoc hg
    · rintro ys ⟨⟩ hys D h tk2 F3 N3 off
      rw [List.size_toArray, hav.length, List.take_of_length_le (by rw [List.length_map]; exact Nat.le_refl _)] at hys
      (try dsimp only)
      clear F' N'
      have hyl : ys.length = qs.length := by rw [hys.length, List.length_map]
      have hDlf : lf ≠ D := off.1
      k_steps
      unfold Wall
      (rename Fr _ _ _ _ => F4)
      (rename News _ _ _ _ => N4)
      refine make_matchM (ts := qs.map (·.1)) G B' F4 N4 X' ((rmU _).less (by omega)) rfl rfl hf hys hr (by rw [List.length_map]; exact hq) hfn hDlf ?_
      clear F4 N4
      intro M c0 h' tk' F5 N5 hMO hS M1 M2 M3 M4 M5 c1 c2
      subst M1 M2 M3 M4
      (try dsimp only [mLed] at N5)
      k_steps
      (rename Fr _ _ _ _ => F6)
      (rename News _ _ _ _ => N6)
      show wpAny _ _ (call (Value.ref 67) [Value.ref M.x] []) _ _ _
      refine use_raise (T := mLed M c0) (rest := []) (P' := fun v => ∃ m t, v = .str m t ∧ exAll M.ts M.fs (c0.us, c0.pl) = .error m)
        (D := fun v T' => v = .none ∧ ∃ c', T' = mLed M c' ∧ SOk w prog M c' 200 ∧ exAll M.ts M.fs (c0.us, c0.pl) = .ok (c'.us, c'.pl)) (args := ⟨[.ref M.x], []⟩)
        B' F6 N6 rfl rfl (fun p hp => hp) (fun _ h => nomatch h) (fun R a k kr => exact_m G a hMO hS ((rmU _).less (by omega)) k kr) kE ?_ (fun _ _ => rfl) ?_
      · rintro v hq_
        refine hide fun P_ k_ => ?_
        obtain ⟨m, t, rfl, he⟩ := hq_
        refine k_ ?_; clear k_ P_
        refine ⟨m, t, rfl, ?_⟩
        rw [M5, c1, c2] at he
        exact matchP_err1 he
      clear F6 N6
      rintro v h6 tk6 T6 F6 N6 hq_ _
      refine hide fun P_ k_ => ?_
      obtain ⟨rfl, q1, rfl, hS1, hx1⟩ := hq_
      refine k_ ?_; clear k_ P_
      (try dsimp only)
      (try simp only [List.append_nil] at N6)
      (try dsimp only [mLed] at N6)
      k_steps
      show wpAny _ _ (call (Value.ref 74) [Value.ref M.x] []) _ _ _
      refine use_raise (T := mLed M q1) (rest := []) (P' := fun v => ∃ m t, v = .str m t ∧ paAll M.ts (ahead M.fs) (q1.us, q1.pl) = .error m)
        (D := fun v T' => v = .none ∧ ∃ c', T' = mLed M c' ∧ SOk w prog M c' 300 ∧ paAll M.ts (ahead M.fs) (q1.us, q1.pl) = .ok (c'.us, c'.pl)) (args := ⟨[.ref M.x], []⟩)
        B' F6 N6 rfl rfl (fun p hp => hp) (fun _ h => nomatch h) (fun R a k kr => partial_m G a hMO hS1 (by omega) ((rmU _).less (by omega)) k kr) kE ?_ (fun _ _ => rfl) ?_
      · rintro v hq_
        refine hide fun P_ k_ => ?_
        obtain ⟨m, t, rfl, he⟩ := hq_
        refine k_ ?_; clear k_ P_
        refine ⟨m, t, rfl, ?_⟩
        rw [M5] at he
        rw [M5, c1, c2] at hx1
        exact matchP_err2 hx1 he
      clear F6 N6
      rintro v h6 tk6 T6 F6 N6 hq_ _
      refine hide fun P_ k_ => ?_
      obtain ⟨rfl, q2, rfl, hS2, hx2⟩ := hq_
      refine k_ ?_; clear k_ P_
      (try dsimp only)
      (try simp only [List.append_nil] at N6)
      (try dsimp only [mLed] at N6)
      k_steps
      show wpAny _ _ (call (Value.ref 88) [Value.ref M.x] []) _ _ _
      refine use_plain (T := mLed M q2) (rest := []) (D := fun v T' => v = .none ∧ ∃ c', T' = mLed M c' ∧ SOk w prog M c' 310 ∧ (c'.us, c'.pl) = posAll M.ts (ahead M.fs) (q2.us, q2.pl)) (args := ⟨[.ref M.x], []⟩)
        B' F6 N6 rfl rfl (fun p hp => hp) (fun _ h => nomatch h) (fun R a k => positional_m G a hMO hS2 (by omega) ((rmU _).less (by omega)) k) ?_
      clear F6 N6
      rintro v h6 tk6 T6 F6 N6 hq_ _
      refine hide fun P_ k_ => ?_
      obtain ⟨rfl, q3, rfl, hS3, hx3⟩ := hq_
      refine k_ ?_; clear k_ P_
      (try dsimp only)
      (try simp only [List.append_nil] at N6)
      (try dsimp only [mLed] at N6)
      k_steps
      show wpAny _ _ (call (Value.ref 100) [Value.ref M.x] []) _ _ _
      refine use_plain (T := mLed M q3) (rest := []) (D := fun v T' => ∃ r rv, v = .ref r ∧ T' = (r, LCg.lst rv) :: mLed M q3 ∧ IntsAre rv (natsI (restTo q3.us M.ts.length))) (args := ⟨[.ref M.x], []⟩)
        B' F6 N6 rfl rfl (fun p hp => hp) (fun _ h => nomatch h) (fun R a k => rest_m G a hMO hS3 ((rmU _).less (by omega)) k) ?_
      clear F6 N6
      rintro v h6 tk6 T6 F6 N6 hq_ _
      refine hide fun P_ k_ => ?_
      obtain ⟨r, rv, rfl, rfl, hrv⟩ := hq_
      refine k_ ?_; clear k_ P_
      (try dsimp only)
      (try simp only [List.append_nil] at N6)
      (try dsimp only [mLed] at N6)
      rw [M5, c1, c2] at hx1
      rw [M5] at hx2 hx3
      have hfin := matchP_fin hx1 hx2 hx3
      rw [M5] at hrv
      generalize hrest : restTo q3.us (List.map (·.1) qs).length = rest at hrv hfin
      have hrl : rest.length ≤ 10 := by
        rw [← hrest]
        unfold restTo
        refine Nat.le_trans (List.length_filter_le _ _) ?_
        rw [List.length_range, List.length_map]; exact hq
      have hrj : ∀ j ∈ rest, j < qs.length := by
        intro j hj
        rw [← hrest] at hj
        unfold restTo at hj
        have := List.mem_range.mp (List.mem_filter.mp hj).1
        rwa [List.length_map] at this
      have hrvl : rv.length = rest.length := by rw [hrv.length, List.length_map]
      k_steps
      · (rename Fr _ _ _ _ => F6)
        (rename News _ _ _ _ => N6)
        (rename _ ∈ M.fs => hin)
        refine matchD_of F6 N6 hS3.dic hS3.pla hrv ?_ hMO.sys
        rw [hfin, if_neg (fun q => q.2 hin)]
      · unfold Wall
        (rename Fr _ _ _ _ => F6)
        (rename News _ _ _ _ => N6)
        (rename ¬ (_ ∈ M.fs) => hin)
        (rename 0 < _ => hlt)
        refine use_plain (T := []) (D := fun v T' => T' = [] ∧ ∃ t, v = .str (unusedText (qs.map (·.1)) rest) t) (args := ⟨[.ref la, .ref r, .none], []⟩) B' F6 N6 rfl rfl (fun _ h => nomatch h) (fun p hp => ⟨hp, fun h => nomatch h⟩)
          (fun R a k => unused_c G a (hla.at fun o e => F6.keep _ _ e) (hav.up F6.keep) ⟨_, (N6 _ (.head _)).1, rfl, _, rfl⟩ hrv hrj hq hrl htag ((rmU _).less (by omega)) k) ?_
        rintro v h6 tk6 T6 F7 N7 hq_ _
        refine hide fun P_ k_ => ?_
        obtain ⟨rfl, t, rfl⟩ := hq_
        refine k_ ?_; clear k_ P_
        (try dsimp only)
        (try simp only [List.nil_append] at N7)
        clear F6 N6
        k_steps
        unfold Wall
        refine ⟨_, _, rfl, ?_⟩
        exact hfin.trans (if_pos ⟨fun q => absurd hlt (by rw [q]; decide), hin⟩)
      · (rename Fr _ _ _ _ => F6)
        (rename News _ _ _ _ => N6)
        (rename ¬ (0 < _) => hlt)
        refine matchD_of F6 N6 hS3.dic hS3.pla hrv ?_ hMO.sys
        rw [hfin, if_neg]
        rintro ⟨q, _⟩
        exact q (List.eq_nil_of_length_eq_zero (by omega))
end
/-! the places lie in the row -/
theorem exStep_lt {ts : List Tag} {nm : Str} {st st' : St} {j : Nat} (h : exStep ts nm st j = .ok st') (hs : ∀ p ∈ st.2, p.2 < ts.length) : ∀ p ∈ st'.2, p.2 < ts.length := by
  unfold exStep at h
  split at h
  · rename_i hc
    have hj : j < ts.length := (List.getElem?_eq_some_iff.mp hc.1).1
    split at h
    · cases h
    · cases h
      intro p hp
      rcases List.mem_append.mp hp with hp | hp
      · exact hs p hp
      · rw [List.mem_singleton.mp hp]; exact hj
  · cases h; exact hs
theorem paStep_lt {ts : List Tag} {nm : Str} {st st' : St} {j : Nat} (h : paStep ts nm st j = .ok st') (hs : ∀ p ∈ st.2, p.2 < ts.length) : ∀ p ∈ st'.2, p.2 < ts.length := by
  unfold paStep at h
  split at h
  · rename_i hc
    have hj : j < ts.length := by
      rcases Nat.lt_or_ge j ts.length with q | q
      · exact q
      · have e : ts.getD j none = none := by rw [List.getD_eq_getElem?_getD, List.getElem?_eq_none q]; rfl
        rw [e] at hc
        exact absurd hc.2 (by simp [paHit])
    split at h
    · cases h
    · split at h
      · cases h
      · cases h
        intro p hp
        rcases List.mem_append.mp hp with hp | hp
        · exact hs p hp
        · rw [List.mem_singleton.mp hp]; exact hj
  · cases h; exact hs
theorem exAll_lt {ts : List Tag} {fs : List Str} {st st' : St} (h : exAll ts fs st = .ok st') (hs : ∀ p ∈ st.2, p.2 < ts.length) : ∀ p ∈ st'.2, p.2 < ts.length := by
  refine foldE_inv (f := exName ts) (fun (s : St) _ => ∀ p ∈ s.2, p.2 < ts.length) hs (fun s a s' i hi e => ?_) _ _ h
  unfold exName at e
  split at e
  · cases e; exact hi
  · exact foldE_inv (f := exStep ts a) (fun (s : St) _ => ∀ p ∈ s.2, p.2 < ts.length) hi (fun s b s' i hi e => exStep_lt e hi) _ _ e
theorem paAll_lt {ts : List Tag} {fs : List Str} {st st' : St} (h : paAll ts fs st = .ok st') (hs : ∀ p ∈ st.2, p.2 < ts.length) : ∀ p ∈ st'.2, p.2 < ts.length := by
  refine foldE_inv (f := paName ts) (fun (s : St) _ => ∀ p ∈ s.2, p.2 < ts.length) hs (fun s a s' i hi e => ?_) _ _ h
  unfold paName at e
  split at e
  · cases e; exact hi
  · exact foldE_inv (f := paStep ts a) (fun (s : St) _ => ∀ p ∈ s.2, p.2 < ts.length) hi (fun s b s' i hi e => paStep_lt e hi) _ _ e
theorem posAll_lt {ts : List Tag} {fs : List Str} {st : St} (hs : ∀ p ∈ st.2, p.2 < ts.length) : ∀ p ∈ (posAll ts fs st).2, p.2 < ts.length := by
  unfold posAll
  have : ∀ (fs : List Str) (q : St × Nat), (∀ p ∈ q.1.2, p.2 < ts.length) → ∀ p ∈ (fs.foldl (posStep ts) q).1.2, p.2 < ts.length := by
    intro fs
    induction fs with
    | nil => intro q h; exact h
    | cons f r ih =>
      intro q h
      refine ih _ ?_
      unfold posStep
      split
      · exact h
      · dsimp only
        split
        · rename_i hlt
          intro p hp
          rcases List.mem_append.mp hp with hp | hp
          · exact h p hp
          · rw [List.mem_singleton.mp hp]; exact hlt
        · exact h
  exact this fs _ hs
theorem matchP_lt {ts : List Tag} {fs : List Str} {pl : Pl} {rest : List Nat} (h : matchP ts fs = .ok (pl, rest)) : (∀ p ∈ pl, p.2 < ts.length) ∧ (∀ j ∈ rest, j < ts.length) ∧ rest.length ≤ ts.length := by
  unfold matchP at h
  split at h
  · cases h
  · rename_i st he
    split at h
    · cases h
    · rename_i st2 hp
      dsimp only at h
      split at h
      · cases h
      · cases h
        refine ⟨posAll_lt (paAll_lt hp (exAll_lt he fun p hp => nomatch hp)), fun j hj => ?_, ?_⟩
        · unfold restTo at hj
          exact List.mem_range.mp (List.mem_filter.mp hj).1
        · unfold restTo
          exact Nat.le_trans (List.length_filter_le _ _) (by rw [List.length_range]; exact Nat.le_refl _)
theorem cleanH229 : True := by
  w_top off
  k_with_none
  exact trivial
theorem fillH2 : (PySem.Challenge.rw_no0499_01 = PySem.Challenge.rw_no0499_01) ∧ hd.heap_39 = hd.heap_39 := by
  k_fill
  exact ⟨rfl, rfl⟩
theorem cleanH230 : True := by
  k_with "z_k_ne" => (((try dsimp only); first | assumption | exact Ne.symm (by assumption)))
  k_with "z:exec For Name Call cons nil" => (refine wall ?_)
  k_with "z:exec For Name Attribute cons nil" => (refine wall ?_)
  k_with "z:exec For Name Name cons nil" => (refine wall ?_)
  k_with "z:pyIter ref" => (refine wall ?_)
  k_with "z:call builtin:len" => (((with_reducible show wpAny _ _ (call (Value.builtin _) [Value.ref _]) _ _ _); k_dflt (apply len_led; (case N => k_asm); (case hm => k_mem); (case hn => k_asm); (case hs => omega))))
  k_with "z_item_tag_subscriptTail_Name_Name_ref_int" => ((with_reducible show wpAny _ _ (subscriptTail _ _ (Value.ref _) (Value.int _ _)) _ _ _); apply item_tag; (case hs => with_unfolding_all rfl); (case N => k_asm); (case hm => k_mem); (case ht => assumption); (case h0 => omega); (case hhi => omega); (case hk => omega))
  k_with "z_item_int_subscriptTail_Name_Name_ref_int" => ((with_reducible show wpAny _ _ (subscriptTail _ _ (Value.ref _) (Value.int _ _)) _ _ _); apply item_int; (case hs => with_unfolding_all rfl); (case N => k_asm); (case hm => k_mem); (case ht => assumption); (case h0 => omega); (case hhi => omega); (case hk => omega))
  k_with "z:compareOp In str ref" => ((k_dflt (apply in_pl; (case N => k_asm); (case hm => k_mem); (case hd => assumption); (case hp => assumption); (case lo => assumption))))
  k_with "z:compareOp NotIn str ref" => ((k_dflt (apply notin_pl; (case N => k_asm); (case hm => k_mem); (case hd => assumption); (case hp => assumption); (case lo => assumption))))
  k_with "z_set_pl_setItem_ref_str" => (apply set_pl; (case F => k_asm); (case N => k_asm); (case U => k_updF); (case hd => assumption); (case hp => assumption); (case hk => assumption); (case hsz => omega))
  k_with "z:exec Raise some none" => ((k_dflt (apply raise_stmt; (case hh => exact rfl); (case G => assumption))))
  k_with "z:call ref" => (((with_reducible show wpAny _ _ (call (Value.ref 44) [_]) _ _ _); k_dflt (apply refusal_raise; (case G => assumption); (case kE => assumption); (case B => assumption); (case F => k_asm); (case N => k_asm); (case X => assumption); (case rm => (exact RoomUp.use (by assumption) (by omega))); (case hf => exact rfl); (case hk => exact rfl); refine wall ?_)))
  k_with "z:joinParts" => (((first | (with_reducible show wpAny _ _ (joinParts _ []) _ _ _) | (with_reducible show wpAny _ _ (joinParts _ (evalEach [] _)) _ _ _)); k_dflt ((try refine joinParts_nilE ?_); refine joinParts_nil ?_ ?_; rotate_left; exact argText_len (by omega))))
  k_with "z_use_dbl_call_ref" => ((with_reducible show wpAny _ _ (call (Value.ref 114) [_]) _ _ _); apply use_dbl; (case G => assumption); (case B => assumption); (case F => k_asm); (case N => k_asm); (case rm => (exact RoomUp.use (by assumption) (by omega))); (case hf => exact rfl); (case hk => exact rfl); (case hl => first | assumption | omega))
  k_with "z:exec While BoolOp cons nil" => (refine wall ?_)
  k_with "z:exec While BoolOp" => (refine wall ?_)
  k_with "z_use_free_call_ref" => ((with_reducible show wpAny _ _ (call (Value.ref 95) [_, _]) _ _ _); apply use_free; (case G => assumption); (case B => assumption); (case hM => assumption); (case hc => assumption); (case F => k_asm); (case N => k_asm); (case rm => (exact RoomUp.use (by assumption) (by omega))); (case hT => (intro p hp; simp only [mLed, List.mem_cons, List.not_mem_nil, or_false] at hp ⊢; simp [hp])); (case hj => omega); (case hf => exact rfl); (case hk => exact rfl))
  k_with "z:eval ListComp" => (refine wall ?_)
  k_with "z:CompSrcT" => (refine wall ?_)
  k_with "z:CompSrc" => (refine wall ?_)
  k_with "z:CompEnd" => (refine wall ?_)
  k_with "z:FinE" => (refine wall ?_)
  k_with "z:exec Assign cons ListComp" => (refine wall ?_)
  k_with "z:FinA" => (refine wall ?_)
  k_with "z:call ref" => (((with_reducible show wpAny _ _ (call (Value.ref 132) [_, _, _]) _ _ _); refine wall ?_))
  k_with "z:call builtin:list.append" => (((with_reducible show wpAny _ _ (call (Value.builtin _) [Value.ref _, _]) _ _ _); refine wall ?_))
  exact trivial
def plAt (pl : Pl) (k : Str) : Option Nat := (pl.find? fun p => decide (p.1 = k)).map (·.2)
theorem plAt_some {kvs : List (Str × Value)} {pl : Pl} (h : PlAre kvs pl) {k : Str} (hk : hasP pl k = true) : ∃ j t, plAt pl k = some j ∧ valueAt kvs k = some (.int (j : Int) t) := by
  induction h with
  | nil => simp [hasP] at hk
  | @cons a b as bs r _ ih =>
    obtain ⟨r1, tk, r2⟩ := r
    by_cases e : b.1 = k
    · refine ⟨b.2, tk, ?_, ?_⟩
      · simp [plAt, e]
      · simp [valueAt, r1, e, r2]
    · simp only [hasP, List.any_cons, e, decide_false, Bool.false_or] at hk
      refine hide fun P_ k_ => ?_
      obtain ⟨j, t, h1, h2⟩ := ih hk
      refine k_ ?_; clear k_ P_
      refine ⟨j, t, ?_, ?_⟩
      · simpa [plAt, List.find?_cons, e] using h1
      · simpa [valueAt, List.find?_cons, r1, e] using h2
theorem plAt_none {pl : Pl} {k : Str} (hk : hasP pl k = false) : plAt pl k = none := by
  unfold plAt
  have : pl.find? (fun p => decide (p.1 = k)) = none := by
    rw [List.find?_eq_none]
    intro p hp
    unfold hasP at hk
    rw [List.any_eq_false] at hk
    exact hk p hp
  rw [this]; rfl
theorem plAt_mem {pl : Pl} {k : Str} {j : Nat} (h : plAt pl k = some j) : (k, j) ∈ pl := by
  unfold plAt at h
  cases e : pl.find? (fun p => decide (p.1 = k)) with
  | none => rw [e] at h; cases h
  | some p =>
    rw [e] at h
    cases h
    have h1 := List.find?_some e
    have h2 := List.mem_of_find?_eq_some e
    rw [← of_decide_eq_true h1]
    exact h2
section
variable {prog : Program} {w : World} {A : Around} {E : Value → Shared → Prop} {s : Shared} {h₀ : Heap} {L : Addr} {m : Str → Option Value} {news : List (Addr × Obj)}
theorem item_pl {value slice : Expr} {dd : Addr} {o : Obj} {kvs : List (Str × Value)} {pl : Pl} {k : Str} {tk : Tok} {Q : Value → Shared → Prop} (N : News h₀ L s.heap news) (hm : (dd, o) ∈ news) (hd : o.IsDictOf (PySem.strKind prog w) kvs) (hp : PlAre kvs pl) (hk : hasP pl k = true)
    (h : ∀ j t, plAt pl k = some j → Q (.int (j : Int) t) { s with toks := s.toks + 1 })
    (hs : subscripted slice false (.ref dd) (.str k tk) = operate [.ref dd, .str k tk] (getItem (.ref dd) (.str k tk)) := by with_unfolding_all rfl) :
    wpAny (model prog w) A (subscriptTail value slice (.ref dd) (.str k tk)) Q E s := by
  refine hide fun P_ k_ => ?_
  obtain ⟨j, t, h1, h2⟩ := plAt_some hp hk
  refine k_ ?_; clear k_ P_
  exact tail_any (kda_dict N hm hd).typeIs slot_dict_getitem.lookup (kdt_getItem (knd := PySem.strKind _ _) N hm hd (strKind_is _ _ _ _) h2 (h j t h1)) hs
theorem item_arg2 {value slice : Expr} {l : Addr} {vs : List Value} {qs : List (Tag × Value)} {k : Int} {u : Tok} {Q : Value → Shared → Prop}
    (F : Fr h₀ L s.heap m) (hl₀ : h₀.IsList l vs.toArray) (ht : ArgsAre h₀ vs qs) (h0 : 0 ≤ k) (hhi : k < 2 ^ 63) (hk : k < qs.length)
    (h : ∀ T tv q, vs[k.toNat]? = some (.ref T) → qs[k.toNat]? = some q → IsTup h₀ T #[tv, q.2] → IsTag tv q.1 → Q (.ref T) s)
    (hs : subscripted slice false (.ref l) (.int k u) = operate [.ref l, .int k u] (getItem (.ref l) (.int k u)) := by with_unfolding_all rfl) :
    wpAny (model prog w) A (subscriptTail value slice (.ref l) (.int k u)) Q E s := by
  have hl : s.heap.IsList l vs.toArray := hl₀.at fun o e => F.keep _ _ e
  have hlt : k.toNat < qs.length := by omega
  refine hide fun P_ k_ => ?_
  obtain ⟨v, hv, T, tv, rfl, hT, hg⟩ := ht.get' (List.getElem?_eq_getElem hlt)
  refine k_ ?_; clear k_ P_
  refine tail_any hl.typeIs slot_list_getitem.lookup (wpAny_getItem_list hl h0 hhi (by simpa using hv) ?_) hs
  exact h T tv _ hv (List.getElem?_eq_getElem hlt) hT hg
theorem append_led {lv : Addr} {ys : List Value} {x : Value} {tl : List (Addr × Obj)} {Q : Value → Shared → Prop} (F : Fr h₀ L s.heap m) (N : News h₀ L s.heap ((lv, LCg.lst ys) :: tl)) (hne : ∀ p ∈ tl, p.1 ≠ lv) (hsz : ys.length ≤ 1000)
    (h : ∀ h', Fr h₀ L h' m → News h₀ L h' ((lv, LCg.lst (ys ++ [x])) :: tl) → Q .none { s with heap := h' }) : wpAny (model prog w) A (call (.builtin "list.append") [.ref lv, x]) Q E s := by
  refine append_K F N (.head hne) (fun h' F' N' => h h' F' ?_) (by rw [List.size_toArray, sizeLine_eq]; omega)
  have e := LCg.lst_snoc ys x
  rw [← e]
  exact N'
end
theorem cleanH231 : True := by
  k_with "z_item_pl_subscriptTail_Name_Name_ref_str_w" => ((with_reducible show wpAny _ _ (subscriptTail _ _ (Value.ref _) (Value.str _ _)) _ _ _); apply item_pl; (case hs => with_unfolding_all rfl); (case N => k_asm); (case hm => k_mem); (case hd => assumption); (case hp => assumption); (case hk => assumption))
  k_with "z_wall" => (refine wall ?_)
  k_with "z_item_arg2_subscriptTail_Name_Subscript_ref_int" => ((with_reducible show wpAny _ _ (subscriptTail _ _ (Value.ref _) (Value.int _ _)) _ _ _); apply item_arg2; (case hs => with_unfolding_all rfl); (case F => k_asm); (case hl₀ => assumption); (case ht => assumption); (case h0 => omega); (case hhi => omega); (case hk => omega))
  k_with "z_item_arg2_subscriptTail_Name_Name_ref_int_w" => ((with_reducible show wpAny _ _ (subscriptTail _ _ (Value.ref _) (Value.int _ _)) _ _ _); apply item_arg2; (case hs => with_unfolding_all rfl); (case F => k_asm); (case hl₀ => assumption); (case ht => assumption); (case h0 => omega); (case hhi => omega); (case hk => omega))
  k_with "z_wall" => (refine wall ?_)
  exact trivial
def IsVal (av : List Value) (ext : List (Addr × Obj)) (pl : Pl) (rest : List Nat) (v : Value) (name : Str) : Prop :=
  if name = dots then ∃ D dv, v = .ref D ∧ (D, LCg.lst dv) ∈ ext ∧ All2 (fun v j => av[j]? = some v) dv rest
  else match plAt pl name with
    | some j => ∃ t, v = .int (100 + (j : Int)) t
    | none => v = .none
def takeD (av : List Value) (lf : Addr) (fv : List Value) (nf : Nat) (ts : List Tag) (fs : List Str) (v : Value) (T' : List (Addr × Obj)) : Prop :=
  ∃ lv vals ext pl rest, v = .ref lv ∧ T' = (lv, LCg.lst vals) :: (lf, PySem.W.listOf fv.toArray nf) :: ext ∧ matchP ts fs = .ok (pl, rest) ∧ All2 (IsVal av ext pl rest) vals fs
theorem IsVal.ext {av : List Value} {ext ext' : List (Addr × Obj)} {pl : Pl} {rest : List Nat} {v : Value} {nm : Str} (h : IsVal av ext pl rest v nm) (k : ∀ p ∈ ext, p ∈ ext') : IsVal av ext' pl rest v nm := by
  unfold IsVal at h ⊢
  split at h
  · rename_i e
    rw [if_pos e]
    refine hide fun P_ k_ => ?_
    obtain ⟨D, dv, h1, h2, h3⟩ := h
    refine k_ ?_; clear k_ P_
    exact ⟨D, dv, h1, k _ h2, h3⟩
  · rename_i e
    rw [if_neg e]; exact h
theorem isVals_ext {av : List Value} {ext ext' : List (Addr × Obj)} {pl : Pl} {rest : List Nat} {vs : List Value} {fs : List Str} (h : All2 (IsVal av ext pl rest) vs fs) (k : ∀ p ∈ ext, p ∈ ext') : All2 (IsVal av ext' pl rest) vs fs := by
  induction h with
  | nil => exact .nil
  | cons r _ ih => exact .cons (r.ext k) ih
theorem take_snoc {α : Type} {l : List α} {i : Nat} {a : α} (h : l[i]? = some a) : l.take (i + 1) = l.take i ++ [a] := by
  rw [List.take_add_one, h]; rfl
structure TS where
  vals : List Value
  ext : List (Addr × Obj)
section
variable {w : World} {mean : ExcName → Option Value} {mg mb : Str → Option Value} {base : Heap} {envs : List Env} {s : Shared} {A : Around} {prog : Program} {R : Result → Shared → Prop} {la lf : Addr} {av fv : List Value} {nf : Nat} {qs : List (Tag × Value)} {fs : List Str}
theorem take_c (G : Gr w mean mg mb base) (a : At base envs s.heap [(lf, PySem.W.listOf fv.toArray nf)]) (hla : s.heap.IsList la av.toArray) (hal : la ≠ lf) (hav : ArgsAre s.heap av qs) (hf : StrsAre fv fs)
   (hval : ∀ (j : Nat) q, qs[j]? = some q → ∃ t, q.2 = .int (100 + (j : Int)) t)
   (hq : qs.length ≤ 10) (hr : fs.length ≤ 10) (hfn : ∀ f ∈ fs, f.length ≤ 10) (htag : ∀ x, some x ∈ qs.map (·.1) → x.length ≤ 10) (rm : Room A envs 14)
   (k : ∀ v h' tk', Left s [(lf, PySem.W.listOf fv.toArray nf)] (takeD av lf fv nf (qs.map (·.1)) fs) v h' → R (.ok (.ret v)) { s with heap := h', toks := tk' })
   (kr : ∀ e v h' tk', matchE (qs.map (·.1)) fs v → Flown base envs s [(lf, PySem.W.listOf fv.toArray nf)] v e h' → R (.error (.ref e)) { s with heap := h', toks := tk' }) :
   codeAny (model prog w) A (.call (.ref 138) ⟨[.ref la, .ref lf], []⟩) R s := by
  refine hide fun P_ k_ => ?_
  obtain ⟨dp', un, gd, rfl, hdp, hun⟩ := rm.of
  refine k_ ?_; clear k_ P_
  have rmU := rm.up
  refine enterX (P := matchE (qs.map (·.1)) fs) (binds := [(Str.ofString "args", .ref la), (Str.ofString "formals", .ref lf), (Str.ofString "show", .none)]) G a rfl ?_ (by k_is) (by k_is) ?_ rfl (by decide +kernel) ?_ k kr rfl rfl rfl
  · show dp' < recursionLimit
    omega
  · exact binds_K (G.kin.keeps a.stays) rfl (by k_is) rfl rfl rfl
  · intro g L' h₁ tk cells E F' N' Y' B' X' T' l1 KG hE kE
    replace hla := hla.at fun o e => KG _ o e (by simpa using hal)
    replace hav := hav.upT (h' := g) fun b o e ec => KG b o e (by
      simp only [List.map_cons, List.map_nil, List.mem_singleton]
      rintro rfl
      rw [(a.news _ (.head _)).1] at e
      cases e; exact absurd ec (by simp))
    obtain ⟨oC, hE', dC⟩ := CellsAre.one Y'
    subst hE'
    clear Y'
    (try simp only [List.cons_append, List.nil_append] at N')
    (try dsimp only)
    k_steps
    unfold Wall
    (rename Fr _ _ _ _ => F6)
    (rename News _ _ _ _ => N6)
    rename_i D1 c1 h6 l6
    have hlaD : la ≠ D1 := by
      rintro rfl
      obtain ⟨o, e, _⟩ := hla
      rw [(N6 _ (.head _)).2.2] at e; cases e
    refine use_raise (T := [(D1, PySem.W.listOf fv.toArray c1)]) (rest := [(L' + 1, oC), (lf, PySem.W.listOf fv.toArray nf)]) (P' := matchE (qs.map (·.1)) fs) (D := matchD w prog D1 fv c1 (qs.map (·.1)) fs) (args := ⟨[.ref D1, .ref la, .none], []⟩)
      B' F6 N6 rfl rfl (fun p hp => by rw [List.mem_singleton.mp hp]; exact .head _) (fun p hp => ⟨.tail _ hp, ?_⟩)
      (fun R a k kr => match_c (.inl rfl) G a (hla.at fun o e => F6.keep _ _ e) hlaD (hav.up F6.keep) hf hq hr hfn htag ((rmU _).less (by omega)) k kr) kE (fun _ h => h) (fun _ _ => rfl) ?_
    · simp only [List.map_cons, List.map_nil, List.mem_singleton]
      obtain ⟨l61, l62⟩ := l6
      simp only [List.mem_cons, List.not_mem_nil, or_false] at hp
      rcases hp with rfl | rfl
      · exact Nat.ne_of_lt l61
      · exact Nat.ne_of_lt l62
    rintro v h' tk6 T6 F7 N7 hq_ hnew
    refine hide fun P_ k_ => ?_
    obtain ⟨t, dp, od, r, rv, kvs, pl, rest, rfl, rfl, hd1, hpl, hrv, hmat, hsys⟩ := hq_
    refine k_ ?_; clear k_ P_
    (try dsimp only)
    (try simp only [List.cons_append, List.nil_append] at N7)
    clear F6 N6
    k_steps
    unfold Wall
    rename_i lv h8 l2 h7 F6 N6
    have hst : dp ≠ lv ∧ r ≠ lv ∧ L' + 1 ≠ lv ∧ lf ≠ lv := ⟨Nat.ne_of_lt l2.2.1, Nat.ne_of_lt l2.2.2.1, Nat.ne_of_lt l2.2.2.2.2.1, Nat.ne_of_lt l2.2.2.2.2.2⟩
    obtain ⟨hpj, hrj, hrl⟩ := matchP_lt hmat
    rw [List.length_map] at hpj hrj hrl
    refine For_invV g rfl rfl ?_
    k_steps
    unfold Wall
    refine loop_list (vs := fv) (nn := nf) (fun q : TS => (lv, LCg.lst q.vals) :: (dp, od) :: (r, LCg.lst rv) :: (L' + 1, oC) :: (lf, PySem.W.listOf fv.toArray nf) :: q.ext) (fun _ => []) []
      (fun i q => (∀ p ∈ q.ext, p.1 ≠ lv) ∧ All2 (IsVal av q.ext pl rest) q.vals (fs.take i)) ⟨[], []⟩ rfl (fun q => by simp) F6 (kst_newsOf N6 ?_) (fun _ h => nomatch h) ⟨(fun _ h => nomatch h), .nil⟩ ?_ ?_
    · first | ((repeat (first | (with_reducible exact sub_nil) | (with_reducible exact sub_refl) | (with_reducible (refine sub_cons ?_ ?_; focus ((repeat (first | exact List.mem_cons_self | refine List.mem_cons_of_mem _ ?_)); done))) | (with_reducible refine sub_tail ?_))); done) | ((repeat (first | (exact sub_nil) | (exact sub_refl) | ((refine sub_cons ?_ ?_; focus ((repeat (first | exact List.mem_cons_self | refine List.mem_cons_of_mem _ ?_)); done))) | (refine sub_tail ?_))); done)
    · rintro ⟨vals, ext⟩ i v u h tk I oI hv hI ⟨hext, hvals⟩ F N
      refine hide fun P_ k_ => ?_
      obtain ⟨nm, tn, rfl, hnm⟩ := hf.item i v hv
      refine k_ ?_; clear k_ P_
      have hi10 : i < fs.length := (List.getElem?_eq_some_iff.mp hnm).1
      (try dsimp only at *)
      clear F6 N6
      have hI0 : I ≠ lv := fun e => hI _ (.head _) e.symm
      have hne : ∀ p ∈ (I, oI) :: (dp, od) :: (r, LCg.lst rv) :: (L' + 1, oC) :: (lf, PySem.W.listOf fv.toArray nf) :: ext, p.1 ≠ lv := by
        intro p hp
        simp only [List.mem_cons] at hp
        rcases hp with rfl | rfl | rfl | rfl | rfl | hp
        · exact hI0
        · exact hst.1
        · exact hst.2.1
        · exact hst.2.2.1
        · exact hst.2.2.2
        · exact hext p hp
      have hvl : vals.length ≤ 10 := by
        rw [hvals.length, List.length_take]; omega
      have reord : ∀ {h : Heap}, News g L' h ((I, oI) :: (lv, LCg.lst vals) :: (dp, od) :: (r, LCg.lst rv) :: (L' + 1, oC) :: (lf, PySem.W.listOf fv.toArray nf) :: ext) → News g L' h ((lv, LCg.lst vals) :: (I, oI) :: (dp, od) :: (r, LCg.lst rv) :: (L' + 1, oC) :: (lf, PySem.W.listOf fv.toArray nf) :: ext) := fun N => kst_newsOf N fun p hp => by
        simp only [List.mem_cons] at hp ⊢
        rcases hp with rfl | rfl | hp
        · exact .inr (.inl rfl)
        · exact .inl rfl
        · exact .inr (.inr hp)
      k_steps
      · unfold Wall
        (rename (nm == _) = true => hx)
        have hx : nm = dots := by simpa [dots] using hx
        (rename Fr _ _ _ _ => F6)
        (rename News _ _ _ _ => N6)
        refine LCg.ListComp_U (F₀ := F6) (by with_unfolding_all rfl) (by decide) (by rfl) (by decide) (by rfl) ?_
        k_steps
        unfold Wall
        refine LCg.CompSrc.ledger (by rfl) F6 N6 (.tail _ (.tail _ (.tail _ (.head _)))) ?_ fun g' => ?_
        · rw [List.size_toArray, hrv.length, List.length_map, sizeLine_eq]; omega
        refine comp_inv (fun _ : Unit => (I, oI) :: (lv, LCg.lst vals) :: (dp, od) :: (r, LCg.lst rv) :: (L' + 1, oC) :: (lf, PySem.W.listOf fv.toArray nf) :: ext) (fun i ys _ => All2 (fun v j => av[j]? = some v) ys (rest.take i)) () (by exact .nil) ?_ ?_
        · rintro i2 ys ⟨⟩ v I2 oI2 C oC2 D m₂ h tk2 E' hi2 hv2 hys hC hx2 F3 N3 off ne
          refine hide fun P_ k_ => ?_
          obtain ⟨j, tj, hji, rfl⟩ := intsAre_at hrv hv2
          refine k_ ?_; clear k_ P_
          have hjm := hrj j (List.mem_of_getElem? hji)
          (try dsimp only at *)
          clear F6 N6
          k_steps
          unfold Wall
          (rename Fr _ _ _ _ => F4)
          (rename News _ _ _ _ => N4)
          (rename av[_]? = some _ => hav1)
          refine LCg.CompEnd.intro F4 N4 _ (fun p hp => hp) off (.inr ⟨_, .tail _ (.tail _ (.tail _ (.head _))), rfl, _, rfl⟩) ⟨(), rfl, ?_⟩
          rw [take_snoc hji]
          exact hys.snoc hav1
        · rintro ys ⟨⟩ hys D h tk2 F3 N3 off
          rw [List.size_toArray, hrv.length, List.length_map, List.take_length] at hys
          (try dsimp only)
          clear F6 N6
          have hDn : D ≠ lv ∧ D ≠ I := ⟨fun e => off.2.1 e.symm, fun e => off.1 e.symm⟩
          k_steps
          unfold Wall
          refine append_led (ys := vals) (tl := (D, LCg.lst ys) :: (I, oI) :: (dp, od) :: (r, LCg.lst rv) :: (L' + 1, oC) :: (lf, PySem.W.listOf fv.toArray nf) :: ext) F3 (kst_newsOf N3 ?_) ?_ (by omega) fun h8 F8 N8 => ?_
          · intro p hp
            simp only [List.mem_cons] at hp ⊢
            rcases hp with rfl | rfl | rfl | hp
            · exact .inr (.inr (.inl rfl))
            · exact .inl rfl
            · exact .inr (.inl rfl)
            · exact .inr (.inr (.inr hp))
          · intro p hp
            rcases List.mem_cons.mp hp with rfl | hp
            · exact hDn.1
            · exact hne p hp
          (try dsimp only)
          clear F3 N3
          k_steps
          refine LoopEnd.fin ⟨vals ++ [.ref D], (D, LCg.lst ys) :: ext⟩ (.inl rfl) F8 N8 ?_ (.tail _ (.tail _ (.head _))) ?_ (fun _ h => nomatch h) ?_ ⟨?_, ?_⟩
          · intro p hp
            simp only [List.mem_cons] at hp ⊢
            rcases hp with rfl | rfl | rfl | rfl | rfl | rfl | hp
            · exact .inl rfl
            · exact .inr (.inr (.inr (.inl rfl)))
            · exact .inr (.inr (.inr (.inr (.inl rfl))))
            · exact .inr (.inr (.inr (.inr (.inr (.inl rfl)))))
            · exact .inr (.inr (.inr (.inr (.inr (.inr (.inl rfl))))))
            · exact .inr (.inl rfl)
            · exact .inr (.inr (.inr (.inr (.inr (.inr (.inr hp))))))
          · intro p hp
            simp only [List.mem_cons] at hp
            rcases hp with rfl | rfl | rfl | rfl | rfl | rfl | hp
            · exact hI0.symm
            · exact hI _ (.tail _ (.head _))
            · exact hI _ (.tail _ (.tail _ (.head _)))
            · exact hI _ (.tail _ (.tail _ (.tail _ (.head _))))
            · exact hI _ (.tail _ (.tail _ (.tail _ (.tail _ (.head _)))))
            · exact hDn.2
            · exact hI _ (.tail _ (.tail _ (.tail _ (.tail _ (.tail _ hp)))))
          · intro z h1 _ h3
            simp [h1, kstB]
          · intro p hp
            rcases List.mem_cons.mp hp with rfl | hp
            · exact hDn.1
            · exact hext p hp
          · rw [take_snoc hnm]
            refine (isVals_ext hvals fun p hp => .tail _ hp).snoc ?_
            unfold IsVal
            rw [if_pos hx]
            exact ⟨D, ys, rfl, .head _, hys⟩
      · unfold Wall
        (rename (nm == _) = false => hx)
        have hx : nm ≠ dots := by simpa [dots] using hx
        (rename hasP pl nm = true => hh)
        (rename plAt pl nm = some _ => hj)
        rename_i j1 tj1
        have hjm := hpj _ (plAt_mem hj)
        (try dsimp only at hjm)
        k_steps
        unfold Wall
        (rename Fr _ _ _ _ => F6)
        (rename News _ _ _ _ => N6)
        (rename qs[_]? = some _ => hq2)
        obtain ⟨t2, hq3⟩ := hval _ _ hq2
        rw [hq3]
        refine append_led F6 (reord N6) hne (by omega) fun h8 F8 N8 => ?_
        (try dsimp only)
        clear F6 N6
        k_steps
        refine LoopEnd.fin ⟨vals ++ [.int (100 + (j1 : Int)) t2], ext⟩ (.inl rfl) F8 N8 ?_ (.tail _ (.head _)) (off_of hI rfl) (fun _ h => nomatch h) ?_ ⟨hext, ?_⟩
        · intro p hp
          simp only [List.mem_cons] at hp ⊢
          rcases hp with rfl | hp
          · exact .inl rfl
          · exact .inr (.inr hp)
        · intro z h1 _ h3
          simp [h1, kstB]
        · rw [take_snoc hnm]
          refine hvals.snoc ?_
          unfold IsVal
          rw [if_neg hx, hj]
          exact ⟨_, rfl⟩
      · unfold Wall
        (rename (nm == _) = false => hx)
        have hx : nm ≠ dots := by simpa [dots] using hx
        (rename hasP pl nm = false => hh)
        (rename Fr _ _ _ _ => F6)
        (rename News _ _ _ _ => N6)
        refine append_led F6 (reord N6) hne (by omega) fun h8 F8 N8 => ?_
        (try dsimp only)
        clear F6 N6
        k_steps
        refine LoopEnd.fin ⟨vals ++ [.none], ext⟩ (.inl rfl) F8 N8 ?_ (.tail _ (.head _)) (off_of hI rfl) (fun _ h => nomatch h) ?_ ⟨hext, ?_⟩
        · intro p hp
          simp only [List.mem_cons] at hp ⊢
          rcases hp with rfl | hp
          · exact .inl rfl
          · exact .inr (.inr hp)
        · intro z h1 _ h3
          simp [h1, kstB]
        · rw [take_snoc hnm]
          refine hvals.snoc ?_
          unfold IsVal
          rw [if_neg hx, plAt_none hh]
    · rintro ⟨vals, ext⟩ u h tk ⟨hext, hvals⟩ F N
      rw [hf.length, List.take_length] at hvals
      (try dsimp only at *)
      clear F6 N6
      k_steps
      refine ⟨_, _, (lv, LCg.lst vals) :: (lf, PySem.W.listOf fv.toArray nf) :: ext, _, _, rfl, F, kst_newsOf N ?_, lv, vals, ext, pl, rest, rfl, rfl, hmat, hvals⟩
      intro p hp
      simp only [List.mem_cons] at hp ⊢
      rcases hp with rfl | rfl | hp
      · exact .inl rfl
      · exact .inr (.inr (.inr (.inr (.inl rfl))))
      · exact .inr (.inr (.inr (.inr (.inr hp))))
end
theorem cleanK132 : True := by
  w_top off
  k_with_none
  exact trivial
theorem fillK1 : (PySem.Challenge.rw_no0499_01 = PySem.Challenge.rw_no0499_01) ∧ hd.heap_39 = hd.heap_39 := by
  k_fill
  exact ⟨rfl, rfl⟩
abbrev poolO (x y : Int) (tx ty : Tok) (lc : Addr) (n : Nat) : Obj := PySem.W.listOf #[.int x tx, .int y ty, .ref lc] n
def drawD (pa lc : Addr) (n : Nat) (y most : Int) (v : Value) (T' : List (Addr × Obj)) : Prop :=
  ∃ d t x' tx' y' ty', v = .int d t ∧ T' = [(pa, poolO x' y' tx' ty' lc n)] ∧ 0 ≤ d ∧ d < most ∧ 0 ≤ x' ∧ x' < 10 ^ 60 ∧ 0 ≤ y' ∧ y' ≤ y + 1
section
variable {w : World} {mean : ExcName → Option Value} {mg mb : Str → Option Value} {base : Heap} {envs : List Env} {s : Shared} {A : Around} {prog : Program} {R : Result → Shared → Prop} {pa lc : Addr} {cv : List Value} {cs : List Int} {x y most : Int} {tx ty tm : Tok} {n : Nat}
theorem drawD_fin {g h : Heap} {L : Addr} {m : Str → Option Value} {tk : Nat} {X y' : Int} {t t1 t2 : Tok} (F : Fr g L h m) (N : News g L h [(pa, PySem.W.listOf #[.int (X.fdiv most) t1, .int y' t2, .ref lc] n)])
   (h0 : 0 ≤ X) (h1 : X < 10 ^ 60) (hm : 0 < most) (hy0 : 0 ≤ y') (hy1 : y' ≤ y + 1) : Back g s (drawD pa lc n y most) (.int (X.fmod most) t) { s with heap := h, toks := tk } := by
  refine ⟨_, _, _, _, _, rfl, F, N, _, _, _, _, _, _, rfl, rfl, Int.fmod_nonneg_of_pos _ hm, Int.fmod_lt_of_pos _ hm, ?_, ?_, hy0, hy1⟩
  · rw [Int.fdiv_eq_ediv_of_nonneg _ (Int.le_of_lt hm)]
    exact Int.ediv_nonneg h0 (Int.le_of_lt hm)
  · rw [Int.fdiv_eq_ediv_of_nonneg _ (Int.le_of_lt hm)]
    exact Int.lt_of_le_of_lt (Int.ediv_le_self _ h0) h1
theorem drawD_zero {g h : Heap} {L : Addr} {m : Str → Option Value} {tk : Nat} {y' : Int} {t t1 t2 : Tok} (F : Fr g L h m) (N : News g L h [(pa, PySem.W.listOf #[.int x t1, .int y' t2, .ref lc] n)])
   (h0 : 0 ≤ x) (h1 : x < 10 ^ 60) (hm : 0 < most) (hy0 : 0 ≤ y') (hy1 : y' ≤ y + 1) : Back g s (drawD pa lc n y most) (.int 0 t) { s with heap := h, toks := tk } :=
  ⟨_, _, _, _, _, rfl, F, N, _, _, _, _, _, _, rfl, rfl, Int.le_refl _, hm, h0, h1, hy0, hy1⟩
theorem draw_c (G : Gr w mean mg mb base) (a : At base envs s.heap [(pa, poolO x y tx ty lc n)]) (hlc : s.heap.IsList lc cv.toArray) (hne : lc ≠ pa) (hcs : IntsAre cv cs) (hc1 : 1 ≤ cs.length) (hc2 : cs.length ≤ 40)
   (hx0 : 0 ≤ x) (hx1 : x < 10 ^ 60) (hy0 : 0 ≤ y) (hy1 : y ≤ 100) (hm0 : 0 < most) (hm1 : most ≤ 100) (rm : Room A envs 2)
   (k : ∀ v h' tk', Left s [(pa, poolO x y tx ty lc n)] (drawD pa lc n y most) v h' → R (.ok (.ret v)) { s with heap := h', toks := tk' }) :
   codeAny (model prog w) A (.call (.ref 145) ⟨[.ref pa, .int most tm], []⟩) R s := by
  refine hide fun P_ k_ => ?_
  obtain ⟨dp', un, gd, rfl, hdp, hun⟩ := rm.of
  refine k_ ?_; clear k_ P_
  have rmU := rm.up
  refine enterX (P := fun _ => False) (binds := [(Str.ofString "pool", .ref pa), (Str.ofString "most", .int most tm)]) G a rfl ?_ (by k_is) (by k_is) (BindsTo.of_eq rfl) rfl (by decide +kernel) ?_ k (fun _ _ _ _ h => h.elim) rfl rfl rfl
  · show dp' < recursionLimit
    omega
  · intro g L' h₁ tk cells E F' N' Y' B' X' T' l1 KG hE kE
    replace hlc := hlc.at fun o e => KG _ o e (by simpa using hne)
    have Y2 : cells = [] := by cases Y'; rfl
    subst Y2
    clear Y'
    (try simp only [List.nil_append] at N')
    (try dsimp only)
    k_steps
    all_goals (try dsimp only)
    · (rename Fr _ _ _ _ => F3)
      (rename News _ _ _ _ => N3)
      exact drawD_zero F3 N3 hx0 hx1 hm0 (by omega) (by omega)
    · (rename Fr _ _ _ _ => F3)
      (rename News _ _ _ _ => N3)
      exact drawD_fin F3 N3 (Int.fmod_nonneg_of_pos _ (by decide)) (Int.lt_of_lt_of_le (Int.fmod_lt_of_pos _ (by decide)) (by decide)) hm0 (by omega) (by omega)
    · (rename Fr _ _ _ _ => F3)
      (rename News _ _ _ _ => N3)
      exact drawD_fin F3 N3 (Int.fmod_nonneg_of_pos _ (by decide)) (Int.lt_of_lt_of_le (Int.fmod_lt_of_pos _ (by decide)) (by decide)) hm0 (by omega) (by omega)
    · (rename Fr _ _ _ _ => F3)
      (rename News _ _ _ _ => N3)
      exact drawD_fin F3 N3 (Int.fmod_nonneg_of_pos _ (by decide)) (Int.lt_of_lt_of_le (Int.fmod_lt_of_pos _ (by decide)) (by decide)) hm0 (by omega) (by omega)
    · (rename Fr _ _ _ _ => F3)
      (rename News _ _ _ _ => N3)
      exact drawD_fin F3 N3 hx0 hx1 hm0 (by omega) (by omega)
end
section
variable {prog : Program} {w : World} {A : Around} {E : Value → Shared → Prop} {s : Shared} {env : Env} {h₀ : Heap} {x : Str} {px : Pos} {body : List Stmt} {Q : Flow → Shared → Prop}
  {σ : Type} (Led : σ → List (Addr × Obj)) (ps : σ → List (Str × Value)) (stored : List Str) (P : Nat → σ → Prop)
/-- a turn's end, the target being no name of the frame -/
def LoopEndT (h₀ : Heap) (L : Addr) (m₀ : Str → Option Value) (Led : σ → List (Addr × Obj)) (ps : σ → List (Str × Value)) (stored : List Str) (Pn : σ → Prop) (I : Addr) (oI : Obj) (Q : Flow → Shared → Prop) (s₁ : Shared) (f : Flow) (s₂ : Shared) : Prop :=
  match f with
  | .ret v => Q (.ret v) s₂
  | .brk => Q .next s₂
  | _ => ∃ c h' tk m' news', s₂ = { s₁ with heap := h', toks := tk } ∧ Fr h₀ L h' m' ∧ News h₀ L h' news' ∧ (∀ p ∈ Led c, p ∈ news') ∧ (I, oI) ∈ news' ∧ (∀ p ∈ Led c, p.1 ≠ I) ∧
      (∀ p ∈ ps c, m' p.1 = some p.2) ∧ (∀ z, (∀ p ∈ ps c, z ≠ p.1) → stored.contains z = false → m' z = m₀ z) ∧ Pn c
theorem LoopEndT.fin {L : Addr} {m₀ : Str → Option Value} {Led : σ → List (Addr × Obj)} {ps : σ → List (Str × Value)} {stored : List Str} {Pn : σ → Prop} {I : Addr} {oI : Obj} {s₁ : Shared} {f : Flow} {h' : Heap} {tk : Nat} {m' : Str → Option Value} {news' : List (Addr × Obj)}
    (c : σ) (hf : f = .next ∨ f = .cont) (F : Fr h₀ L h' m') (N : News h₀ L h' news') (h1 : ∀ p ∈ Led c, p ∈ news') (h2 : (I, oI) ∈ news') (h3 : ∀ p ∈ Led c, p.1 ≠ I)
    (h4 : ∀ p ∈ ps c, m' p.1 = some p.2) (h5 : ∀ z, (∀ p ∈ ps c, z ≠ p.1) → stored.contains z = false → m' z = m₀ z) (h6 : Pn c) :
    LoopEndT h₀ L m₀ Led ps stored Pn I oI Q s₁ f { s₁ with heap := h', toks := tk } := by
  rcases hf with rfl | rfl <;> exact ⟨c, h', tk, m', news', rfl, F, N, h1, h2, h3, h4, h5, h6⟩
theorem kstT {L : Addr} {h : Heap} {ps : List (Str × Value)} {stored : List Str} {m₀ m₁ : Str → Option Value} (h1 : ∀ p ∈ ps, m₁ p.1 = some p.2) (h2 : ∀ z, (∀ p ∈ ps, z ≠ p.1) → stored.contains z = false → m₁ z = m₀ z)
    (F : Fr h₀ L h m₁) : Fr h₀ L h (kstB (fun z => if stored.contains z then m₁ z else m₀ z) ps) := by
  have em : kstB (fun z => if stored.contains z then m₁ z else m₀ z) ps = m₁ := by
    funext y
    refine kstB_eq h1 fun hn => ?_
    by_cases hs : stored.contains y = true
    · rw [if_pos hs]
    · have hs' : stored.contains y = false := by simpa using hs
      rw [hs']
      exact (h2 y hn hs').symm
  rw [em]
  exact F
theorem loop_listT {l : Addr} {vs : List Value} {nn : Nat} {m₀ : Str → Option Value} (c₀ : σ) (hE : PassesOwn (model prog w) A env E)
    (hh : A.handled = none) (hl : ∀ c, (l, PySem.W.listOf vs.toArray nn) ∈ Led c) (F : Fr h₀ env.locals s.heap m₀) (N : News h₀ env.locals s.heap (Led c₀)) (hk : ∀ p ∈ ps c₀, m₀ p.1 = some p.2) (hp : P 0 c₀)
    (turn : ∀ (c : σ) (i : Nat) v (u : Str → Option Value) h tk I oI, vs[i]? = some v → (∀ p ∈ Led c, p.1 ≠ I) → P i c →
      Fr h₀ env.locals h (kstB (fun z => if stored.contains z then u z else m₀ z) (ps c)) → News h₀ env.locals h ((I, oI) :: Led c) →
      wpAny (model prog w) A (storeName env x v) (fun _ s₂ => wpAny (model prog w) A (execs body env) (LoopEndT h₀ env.locals m₀ Led ps stored (P (i + 1)) I oI Q s) E s₂) E { s with heap := h, toks := tk })
    (done : ∀ (c : σ) (u : Str → Option Value) h tk, P vs.length c → Fr h₀ env.locals h (kstB (fun z => if stored.contains z then u z else m₀ z) (ps c)) → News h₀ env.locals h (Led c) → Q .next { s with heap := h, toks := tk }) :
    wpAny (model prog w) A (pyIter (.ref l)) (fun it s₂ => codeAny (model prog w) A (.forLoop (.Name x px) it body [] env) (fun r s' => match r with | .ok f => Q f s' | .error e => cameBackBy (model prog w) A env E e s') s₂) E s := by
  have hol : s.heap.get? l = some (PySem.W.listOf vs.toArray nn) := (N _ (hl c₀)).1
  have hls : s.heap.IsList l vs.toArray := ⟨_, hol, rfl, nn, rfl⟩
  have hne : l ≠ s.heap.objs.size := Nat.ne_of_lt (Heap.lt_size hol)
  refine wpAny_pyIter_list hls ?_
  have W := Walks.list (prog := prog) (w := w) hh s.heap.objs.size l hne vs.toArray
  rw [show vs.toArray.size = vs.length by simp] at W
  generalize hI : s.heap.objs.size = I at *
  have hIL : I ≠ env.locals := by
    rw [← hI]; exact Nat.ne_of_gt F.ns.lt
  have hI0 : h₀.get? I = none := by rw [← hI]; exact next_is_new F
  refine codeAny_forLoop
    (fun k s' => ∃ h' tk m' c i, s' = { s with heap := h', toks := tk } ∧ (h'.IsListIter I l i ∧ h'.IsList l vs.toArray) ∧ Fr h₀ env.locals h' m' ∧ News h₀ env.locals h' (Led c) ∧ (∀ p ∈ Led c, p.1 ≠ I) ∧ (∀ p ∈ ps c, m' p.1 = some p.2) ∧
      (∀ z, (∀ p ∈ ps c, z ≠ p.1) → stored.contains z = false → m' z = m₀ z) ∧ P i c ∧ i ≤ vs.length ∧ k = vs.length + 1 - i) ?_ (vs.length + 1) ?_
  · rintro k s' ⟨h', tk, m', c, i, rfl, hst', F', N', hoff, hps, hsto, hP, hi, rfl⟩
    have next : ∀ h₁ : Heap, (∀ b o, b ∉ [I] → h'.get? b = some o → h₁.get? b = some o) → Fr h₀ env.locals h₁ m' ∧ News h₀ env.locals h₁ (Led c) := fun h₁ hk₁ =>
      ⟨⟨F'.ns.at' fun o e => hk₁ _ o (by simpa using hIL.symm) e, fun b o e => hk₁ b o (fun q => by rw [List.mem_singleton.mp q, hI0] at e; cases e) (F'.keep b o e), F'.above⟩,
        fun p hp => ⟨hk₁ _ _ (by simpa using hoff p hp) (N' p hp).1, (N' p hp).2⟩⟩
    by_cases hlt : i < vs.length
    · refine W.item i _ _ _ hlt hst' fun v h₁ tk₁ hPv hst₁ hk₁ => ?_
      obtain ⟨F₁, N₁⟩ := next h₁ hk₁
      obtain ⟨⟨oI, hoI, _⟩, _⟩ := id hst₁
      have NI : News h₀ env.locals h₁ ((I, oI) :: Led c) := fun p hp => by
        rcases List.mem_cons.mp hp with rfl | hp
        · exact ⟨hoI, hIL, hI0⟩
        · exact N₁ p hp
      refine wpAny_assign_Name ?_
      refine wpAny_passesOwn hE (wpAny_mono (turn c i v m' h₁ tk₁ I oI (by simpa using hPv) hoff hP (kstT hps hsto F₁) NI) (fun _ s₂ q => wpAny_passesOwn hE (wpAny_mono q (fun f s₃ h₃ => ?_) fun _ _ e => e)) fun _ _ e => e)
      have fin : (∃ c h' tk m' news', s₃ = { s with heap := h', toks := tk } ∧ Fr h₀ env.locals h' m' ∧ News h₀ env.locals h' news' ∧ (∀ p ∈ Led c, p ∈ news') ∧ (I, oI) ∈ news' ∧ (∀ p ∈ Led c, p.1 ≠ I) ∧
          (∀ p ∈ ps c, m' p.1 = some p.2) ∧ (∀ z, (∀ p ∈ ps c, z ≠ p.1) → stored.contains z = false → m' z = m₀ z) ∧ P (i + 1) c) →
          ∃ m, m < vs.length + 1 - i ∧ ∃ h' tk m' c j, s₃ = { s with heap := h', toks := tk } ∧ (h'.IsListIter I l j ∧ h'.IsList l vs.toArray) ∧ Fr h₀ env.locals h' m' ∧ News h₀ env.locals h' (Led c) ∧ (∀ p ∈ Led c, p.1 ≠ I) ∧ (∀ p ∈ ps c, m' p.1 = some p.2) ∧
            (∀ z, (∀ p ∈ ps c, z ≠ p.1) → stored.contains z = false → m' z = m₀ z) ∧ P j c ∧ j ≤ vs.length ∧ m = vs.length + 1 - j := by
        rintro ⟨c2, h2, tk2, m2, news2, rfl, F2, N2, a1, a2, a3, a4, a5, a6⟩
        refine ⟨vs.length + 1 - (i + 1), by omega, h2, tk2, m2, c2, i + 1, rfl, ⟨?_, ?_⟩, F2, fun p hp => N2 p (a1 p hp), a3, a4, a5, a6, hlt, rfl⟩
        · exact hst₁.1.at fun o e => by rw [hoI] at e; cases e; exact (N2 _ a2).1
        · exact ⟨_, (N2 _ (a1 _ (hl c2))).1, rfl, nn, rfl⟩
      cases f with
      | ret v => exact h₃
      | brk => exact h₃
      | cont => exact fin h₃
      | next => exact fin h₃
    · have hin : i = vs.length := by omega
      subst hin
      refine W.done _ _ _ hst' fun h₁ tk₁ hk₁ => wpAny_execs_nil ?_
      obtain ⟨F₁, N₁⟩ := next h₁ hk₁
      exact done c m' h₁ tk₁ hP (kstT hps hsto F₁) N₁
  · refine ⟨_, _, m₀, c₀, 0, rfl, ⟨⟨_, by rw [← hI]; exact Heap.get?_push_size _ rfl, rfl, rfl⟩, hls.at fun o e => Heap.get?_push_of_some _ e⟩, F.push _, fun p hp => ⟨Heap.get?_push_of_some _ (N p hp).1, (N p hp).2⟩, fun p hp q => ?_, hk, fun _ _ _ => rfl, hp, Nat.zero_le _, rfl⟩
    exact absurd (Heap.lt_size (N p hp).1) (by rw [q, hI]; exact Nat.lt_irrefl _)
end
def sameTo (ts : List Tag) (nm : Str) (n : Nat) : List Nat := (List.range n).filter fun j => decide (nm ≠ dots) && decide (ts[j]? = some (some nm))
def due1Step (ts : List Tag) (pl : Pl) (nm : Str) : Except Str Pl :=
  match sameTo ts nm ts.length with
  | [] => .ok pl
  | [j] => .ok (pl ++ [(nm, j)])
  | _ => .error (dblText nm)
abbrev Pa := List (Nat × Str)
def hasA (pa : Pa) (j : Nat) : Bool := pa.any fun p => decide (p.1 = j)
def hasN (pa : Pa) (nm : Str) : Bool := pa.any fun p => decide (p.2 = nm)
def dHit (nm : Str) : Tag → Bool
  | none => false
  | some x => (x != emp) && (Txt.startswith nm x)
def due2Step (ts : List Tag) (wh : List Nat) (nm : Str) (pa : Pa) (j : Nat) : Except Str Pa :=
  if j ∈ wh ∨ dHit nm (ts.getD j none) = false then .ok pa
  else if hasA pa j = true then .error (argText j)
  else if hasN pa nm = true then .error (dblText nm)
  else .ok (pa ++ [(j, nm)])
def due2Name (ts : List Tag) (pl : Pl) (pa : Pa) (nm : Str) : Except Str Pa :=
  if hasP pl nm = true then .ok pa else foldE (due2Step ts (pl.map (·.2)) nm) (List.range ts.length) pa
def due3 (pl : Pl) (pa : Pa) : Pl := pl ++ pa.map fun p => (p.2, p.1)
def freeTo (ts : List Tag) (n : Nat) : List Nat := (List.range n).filter fun j => tagFree (ts.getD j (some dots))
def due4Step (q : Pl × List Nat) (nm : Str) : Pl × List Nat :=
  if hasP q.1 nm = true then q else
    match q.2 with
    | [] => q
    | j :: r => (q.1 ++ [(nm, j)], r)
def restOf (pl : Pl) (n : Nat) : List Nat := (List.range n).filter fun j => decide (j ∉ pl.map (·.2))
def dueP (ts : List Tag) (fs : List Str) : Except Str (Pl × List Nat) :=
  match foldE (due1Step ts) fs [] with
  | .error m => .error m
  | .ok pl => match foldE (due2Name ts pl) (ahead fs) [] with
    | .error m => .error m
    | .ok pa =>
      let pl := ((ahead fs).foldl due4Step (due3 pl pa, freeTo ts ts.length)).1
      let r := restOf pl ts.length
      if r ≠ [] ∧ dots ∉ fs then .error (unusedText ts r) else .ok (pl, r)
theorem filter_succ {p : Nat → Bool} {i : Nat} : (List.range (i + 1)).filter p = (List.range i).filter p ++ (if p i = true then [i] else []) := by
  rw [List.range_succ, List.filter_append]
  congr 1
  simp [List.filter_cons]
theorem due1_keys {ts : List Tag} {fs : List Str} {i : Nat} {pl : Pl} (h : foldE (due1Step ts) (fs.take i) [] = .ok pl) : (∀ p ∈ pl, p.1 ∈ fs.take i) ∧ (∀ p ∈ pl, p.2 < ts.length) ∧ pl.length ≤ i := by
  have gen : ∀ (l : List Str) (pl0 pl : Pl), foldE (due1Step ts) l pl0 = .ok pl → (∀ p ∈ pl, p ∈ pl0 ∨ (p.1 ∈ l ∧ p.2 < ts.length)) ∧ pl.length ≤ pl0.length + l.length := by
    intro l
    induction l with
    | nil => intro pl0 pl e; cases e; exact ⟨fun p hp => .inl hp, Nat.le_refl _⟩
    | cons a r ih =>
      intro pl0 pl e
      simp only [foldE] at e
      cases hf : due1Step ts pl0 a with
      | error m => rw [hf] at e; cases e
      | ok pl1 =>
        rw [hf] at e
        obtain ⟨h1, h2⟩ := ih pl1 pl e
        have h3 : (∀ p ∈ pl1, p ∈ pl0 ∨ (p.1 = a ∧ p.2 < ts.length)) ∧ pl1.length ≤ pl0.length + 1 := by
          unfold due1Step at hf
          split at hf
          · cases hf; exact ⟨fun p hp => .inl hp, Nat.le_succ _⟩
          · rename_i j ej
            cases hf
            refine ⟨fun p hp => ?_, by simp⟩
            rcases List.mem_append.mp hp with hp | hp
            · exact .inl hp
            · rw [List.mem_singleton.mp hp]
              refine .inr ⟨rfl, ?_⟩
              have : j ∈ sameTo ts a ts.length := by rw [ej]; exact .head _
              unfold sameTo at this
              exact List.mem_range.mp (List.mem_filter.mp this).1
          · cases hf
        refine ⟨fun p hp => ?_, by simp only [List.length_cons]; omega⟩
        rcases h1 p hp with q | ⟨q1, q2⟩
        · rcases h3.1 p q with q | ⟨q1, q2⟩
          · exact .inl q
          · exact .inr ⟨q1 ▸ .head _, q2⟩
        · exact .inr ⟨.tail _ q1, q2⟩
  obtain ⟨h1, h2⟩ := gen _ _ _ h
  refine ⟨fun p hp => ?_, fun p hp => ?_, ?_⟩
  · rcases h1 p hp with q | q
    · cases q
    · exact q.1
  · rcases h1 p hp with q | q
    · cases q
    · exact q.2
  · rw [List.length_take] at h2
    simp only [List.length_nil] at h2
    omega
theorem hasP_false {pl : Pl} {nm : Str} (h : ∀ p ∈ pl, p.1 ≠ nm) : hasP pl nm = false := by
  unfold hasP
  rw [List.any_eq_false]
  intro p hp
  simpa using h p hp
theorem nodup_take {fs : List Str} (hn : fs.Nodup) {i : Nat} {nm : Str} (hi : fs[i]? = some nm) : nm ∉ fs.take i := by
  intro hm
  have e : fs = fs.take i ++ nm :: fs.drop (i + 1) := by
    have hs : fs.take (i + 1) = fs.take i ++ [nm] := by simp [List.take_add_one, hi]
    have ht := List.take_append_drop (i + 1) fs
    rw [hs, List.append_assoc] at ht
    exact ht.symm
  rw [e] at hn
  exact (List.nodup_append.mp hn).2.2 nm hm nm (.head _) rfl
theorem sameTo_hit {ts : List Tag} {nm x : Str} {j : Nat} (hn : nm ≠ dots) (e : ts[j]? = some (some x)) (hx : (x == nm) = true) : sameTo ts nm (j + 1) = sameTo ts nm j ++ [j] := by
  have : x = nm := eq_of_beq hx
  subst this
  unfold sameTo
  rw [filter_succ, if_pos]
  simp [hn, e]
theorem sameTo_miss {ts : List Tag} {nm : Str} {j : Nat} (h : nm = dots ∨ ts[j]? ≠ some (some nm)) : sameTo ts nm (j + 1) = sameTo ts nm j := by
  unfold sameTo
  rw [filter_succ, if_neg, List.append_nil]
  rcases h with h | h <;> simp [h]
theorem tag_ne {ts : List Tag} {nm x : Str} {j : Nat} (e : ts[j]? = some (some x)) (hx : (x == nm) = false) : ts[j]? ≠ some (some nm) := by
  rw [e]
  intro q
  cases q
  simp at hx
theorem tag_ne0 {ts : List Tag} {nm : Str} {j : Nat} (e : ts[j]? = some none) : ts[j]? ≠ some (some nm) := by
  rw [e]
  intro q
  cases q
theorem sameTo_len {ts : List Tag} {nm : Str} {n : Nat} : (sameTo ts nm n).length ≤ n := by
  unfold sameTo
  exact Nat.le_trans (List.length_filter_le _ _) (by rw [List.length_range]; exact Nat.le_refl _)
theorem due1_err {ts : List Tag} {pl : Pl} {nm : Str} (h : 1 < (sameTo ts nm ts.length).length) : due1Step ts pl nm = .error (dblText nm) := by
  unfold due1Step
  split
  · rename_i e; rw [e] at h; simp at h
  · rename_i e; rw [e] at h; simp at h
  · rfl
theorem due1_nil {ts : List Tag} {pl : Pl} {nm : Str} (h : sameTo ts nm ts.length = []) : due1Step ts pl nm = .ok pl := by
  unfold due1Step; rw [h]
theorem due1_one {ts : List Tag} {pl : Pl} {nm : Str} {j : Nat} (h1 : ¬ 1 < (sameTo ts nm ts.length).length) (h2 : (sameTo ts nm ts.length)[0]? = some j) : due1Step ts pl nm = .ok (pl ++ [(nm, j)]) := by
  unfold due1Step
  split
  · rename_i e; rw [e] at h2; cases h2
  · rename_i e; rw [e] at h2; cases h2; rfl
  · rename_i e1 e2
    exfalso
    revert h1 h2 e1 e2
    generalize sameTo ts nm ts.length = l
    intro h1 h2 e1 e2
    match l, h1, h2, e1, e2 with
    | [], _, h2, _, _ => cases h2
    | [a], _, _, _, e2 => exact e2 a rfl
    | a :: b :: r, h1, _, _, _ => simp at h1
theorem due2Step_len {ts : List Tag} {wh : List Nat} {nm : Str} {pa pa' : Pa} {j : Nat} (h : due2Step ts wh nm pa j = .ok pa') : pa'.length ≤ pa.length + 1 := by
  unfold due2Step at h
  split at h
  · cases h; omega
  · split at h
    · cases h
    · split at h
      · cases h
      · cases h; simp
theorem due2Range_len {ts : List Tag} {wh : List Nat} {nm : Str} {pa pa' : Pa} {n : Nat} (h : foldE (due2Step ts wh nm) (List.range n) pa = .ok pa') : pa'.length ≤ pa.length + n := by
  have := foldE_inv (f := due2Step ts wh nm) (fun (s : Pa) i => s.length ≤ pa.length + i) (s := pa) (Nat.le_refl _) (fun s a s' i hi hs => by
    have := due2Step_len hs
    omega) _ _ h
  simpa using this
theorem due2Name_len {ts : List Tag} {pl : Pl} {nm : Str} {pa pa' : Pa} (h : due2Name ts pl pa nm = .ok pa') : pa'.length ≤ pa.length + ts.length := by
  unfold due2Name at h
  split at h
  · cases h; omega
  · exact due2Range_len h
theorem due2Take_len {ts : List Tag} {pl : Pl} {fs : List Str} {pa pa' : Pa} {i : Nat} (h : foldE (due2Name ts pl) (fs.take i) pa = .ok pa') : pa'.length ≤ pa.length + i * ts.length := by
  have := foldE_inv (f := due2Name ts pl) (fun (s : Pa) i => s.length ≤ pa.length + i * ts.length) (s := pa) (by omega) (fun s a s' i hi hs => by
    have := due2Name_len hs
    rw [Nat.add_mul]; omega) _ _ h
  have e : (fs.take i).length ≤ i := by rw [List.length_take]; omega
  exact Nat.le_trans this (Nat.add_le_add_left (Nat.mul_le_mul_right _ e) _)
theorem due2_wh {ts : List Tag} {wh : List Nat} {nm : Str} {pa : Pa} {j : Nat} (h : j ∈ wh) : due2Step ts wh nm pa j = .ok pa := by
  unfold due2Step; rw [if_pos (.inl h)]
theorem due2_miss {ts : List Tag} {wh : List Nat} {nm : Str} {pa : Pa} {j : Nat} (h : dHit nm (ts.getD j none) = false) : due2Step ts wh nm pa j = .ok pa := by
  unfold due2Step; rw [if_pos (.inr h)]
theorem due2_one {ts : List Tag} {wh : List Nat} {nm : Str} {pa : Pa} {j : Nat} (h1 : j ∉ wh) (h2 : dHit nm (ts.getD j none) = true) (h3 : hasA pa j = true) : due2Step ts wh nm pa j = .error (argText j) := by
  unfold due2Step; rw [if_neg, if_pos h3]
  rintro (q | q)
  · exact h1 q
  · rw [h2] at q; cases q
theorem due2_dbl {ts : List Tag} {wh : List Nat} {nm : Str} {pa : Pa} {j : Nat} (h1 : j ∉ wh) (h2 : dHit nm (ts.getD j none) = true) (h3 : hasA pa j = false) (h4 : hasN pa nm = true) : due2Step ts wh nm pa j = .error (dblText nm) := by
  unfold due2Step; rw [if_neg, if_neg (by rw [h3]; decide), if_pos h4]
  rintro (q | q)
  · exact h1 q
  · rw [h2] at q; cases q
theorem due2_ok {ts : List Tag} {wh : List Nat} {nm : Str} {pa : Pa} {j : Nat} (h1 : j ∉ wh) (h2 : dHit nm (ts.getD j none) = true) (h3 : hasA pa j = false) (h4 : hasN pa nm = false) : due2Step ts wh nm pa j = .ok (pa ++ [(j, nm)]) := by
  unfold due2Step; rw [if_neg, if_neg (by rw [h3]; decide), if_neg (by rw [h4]; decide)]
  rintro (q | q)
  · exact h1 q
  · rw [h2] at q; cases q
theorem getD_tag {ts : List Tag} {j : Nat} {y : Tag} (e : ts[j]? = some y) : ts.getD j none = y := by
  rw [List.getD_eq_getElem?_getD, e]; rfl
theorem slice_ne {nm x : Str} (hl : (Txt.slice nm none (some (x.length : Int))).length ≤ nm.length) : (Txt.slice nm none (some (x.length : Int)) != x) = !Txt.startswith nm x := by
  have key : (Txt.slice nm none (some (x.length : Int)) = x) ↔ Txt.startswith nm x = true := by
    unfold Txt.startswith
    rw [StrLaws.subAt_eq]
    by_cases h : x.length ≤ nm.length
    · have e : Txt.slice nm none (some (x.length : Int)) = ⟨((nm.cps.toList.drop (0 : Int).toNat).take ((x.length : Int) - 0).toNat).toArray⟩ := by
        show StrLaws.sliceText nm none (some (x.length : Int)) = _
        exact StrLaws.sliceText_to ⟨by omega, by
          have : nm.length = nm.cps.toList.length := by simp [Str.length]
          omega⟩
      rw [e]
      have h0 : ((x.length : Int) - 0).toNat = x.length := by omega
      rw [h0]
      simp only [Int.toNat_zero, List.drop_zero, Nat.zero_add, h, decide_true, Bool.true_and, beq_iff_eq]
      constructor
      · intro q
        rw [← q]
        simp [Str.length]
      · intro q
        rw [q]
    · have h1 : ¬ (0 + x.length ≤ nm.length) := by omega
      simp only [h1, decide_false, Bool.false_and]
      constructor
      · intro q
        rw [q] at hl
        exact absurd hl h
      · intro q; cases q
  cases hs : Txt.startswith nm x with
  | true =>
    rw [key.mpr hs]; simp
  | false =>
    have : Txt.slice nm none (some (x.length : Int)) ≠ x := fun q => by
      rw [key.mp q] at hs; cases hs
    simpa using this
structure PaOk (ts : List Tag) (pl : Pl) (pa : Pa) : Prop where
  n1 : (pa.map (·.1)).Nodup
  n2 : (pa.map (·.2)).Nodup
  out : ∀ p ∈ pa, hasP pl p.2 = false
  lt : ∀ p ∈ pa, p.1 < ts.length
  free : ∀ p ∈ pa, p.1 ∉ pl.map (·.2)
theorem nodup_snoc {α : Type} {l : List α} {a : α} (h : l.Nodup) (ha : a ∉ l) : (l ++ [a]).Nodup := by
  rw [List.nodup_append]
  refine ⟨h, by simp, ?_⟩
  intro x hx y hy e
  rw [List.mem_singleton.mp hy] at e
  exact ha (e ▸ hx)
theorem hasA_mem {pa : Pa} {j : Nat} (h : hasA pa j = false) : j ∉ pa.map (·.1) := by
  intro hm
  obtain ⟨p, hp, e⟩ := List.mem_map.mp hm
  unfold hasA at h
  rw [List.any_eq_false] at h
  exact h p hp (by simpa using e)
theorem hasN_mem {pa : Pa} {nm : Str} (h : hasN pa nm = false) : nm ∉ pa.map (·.2) := by
  intro hm
  obtain ⟨p, hp, e⟩ := List.mem_map.mp hm
  unfold hasN at h
  rw [List.any_eq_false] at h
  exact h p hp (by simpa using e)
theorem due2Step_ok {ts : List Tag} {pl : Pl} {nm : Str} {pa pa' : Pa} {j : Nat} (hn : hasP pl nm = false) (h : due2Step ts (pl.map (·.2)) nm pa j = .ok pa') (I : PaOk ts pl pa) : PaOk ts pl pa' := by
  unfold due2Step at h
  split at h
  · cases h; exact I
  · rename_i hc
    have hj : j ∉ pl.map (·.2) := fun q => hc (.inl q)
    have hd : j < ts.length := by
      rcases Nat.lt_or_ge j ts.length with q | q
      · exact q
      · exfalso
        refine hc (.inr ?_)
        rw [List.getD_eq_getElem?_getD, List.getElem?_eq_none q]; rfl
    split at h
    · cases h
    · rename_i h1
      split at h
      · cases h
      · rename_i h2
        cases h
        have h1' : hasA pa j = false := by simpa using h1
        have h2' : hasN pa nm = false := by simpa using h2
        refine ⟨?_, ?_, ?_, ?_, ?_⟩
        · rw [List.map_append]; exact nodup_snoc I.n1 (hasA_mem h1')
        · rw [List.map_append]; exact nodup_snoc I.n2 (hasN_mem h2')
        all_goals (
          intro p hp
          rcases List.mem_append.mp hp with hp | hp
          · first | exact I.out p hp | exact I.lt p hp | exact I.free p hp
          · rw [List.mem_singleton.mp hp]; assumption)
theorem due2_facts {ts : List Tag} {pl : Pl} {l : List Str} {pa : Pa} (h : foldE (due2Name ts pl) l [] = .ok pa) : PaOk ts pl pa := by
  refine foldE_inv (f := due2Name ts pl) (fun (s : Pa) _ => PaOk ts pl s) (s := []) (by constructor <;> simp) (fun s a s' i hi e => ?_) _ _ h
  unfold due2Name at e
  split at e
  · cases e; exact hi
  · rename_i hc
    have hc' : hasP pl a = false := by simpa using hc
    exact foldE_inv (f := due2Step ts (pl.map (·.2)) a) (fun (s : Pa) _ => PaOk ts pl s) hi (fun s b s' i hi e => due2Step_ok hc' e hi) _ _ e
theorem hasP_append {a b : Pl} {k : Str} : hasP (a ++ b) k = (hasP a k || hasP b k) := by
  unfold hasP; rw [List.any_append]
theorem due3_new {ts : List Tag} {pl : Pl} {pa : Pa} (I : PaOk ts pl pa) {i : Nat} {q : Nat × Str} (hi : pa[i]? = some q) : hasP (due3 pl (pa.take i)) q.2 = false := by
  unfold due3
  rw [hasP_append, I.out q (List.mem_of_getElem? hi), Bool.false_or]
  refine hasP_false fun p hp e => ?_
  obtain ⟨r, hr, rfl⟩ := List.mem_map.mp hp
  have h2 : q.2 ∉ (pa.map (·.2)).take i := nodup_take I.n2 (by rw [List.getElem?_map, hi]; rfl)
  rw [← List.map_take] at h2
  exact h2 (List.mem_map.mpr ⟨r, hr, e⟩)
theorem due3_succ {pl : Pl} {pa : Pa} {i : Nat} {q : Nat × Str} (hi : pa[i]? = some q) : due3 pl (pa.take (i + 1)) = due3 pl (pa.take i) ++ [(q.2, q.1)] := by
  unfold due3
  rw [List.take_add_one, hi]
  simp [List.append_assoc]
theorem dueP_err1 {ts : List Tag} {fs : List Str} {m : Str} (h : foldE (due1Step ts) fs [] = .error m) : dueP ts fs = .error m := by
  unfold dueP; rw [h]
theorem dueP_err2 {ts : List Tag} {fs : List Str} {m : Str} {pl : Pl} (h : foldE (due1Step ts) fs [] = .ok pl) (h2 : foldE (due2Name ts pl) (ahead fs) [] = .error m) : dueP ts fs = .error m := by
  unfold dueP; rw [h]; dsimp only; rw [h2]
theorem dueP_fin {ts : List Tag} {fs : List Str} {pl pl' : Pl} {pa : Pa} (h : foldE (due1Step ts) fs [] = .ok pl) (h2 : foldE (due2Name ts pl) (ahead fs) [] = .ok pa) (h3 : pl' = ((ahead fs).foldl due4Step (due3 pl pa, freeTo ts ts.length)).1) :
    dueP ts fs = if restOf pl' ts.length ≠ [] ∧ dots ∉ fs then .error (unusedText ts (restOf pl' ts.length)) else .ok (pl', restOf pl' ts.length) := by
  unfold dueP; rw [h]; dsimp only; rw [h2]; dsimp only; rw [← h3]
theorem freeTo_hit {ts : List Tag} {j : Nat} {y : Tag} (e : ts[j]? = some y) (h : tagFree y = true) : freeTo ts (j + 1) = freeTo ts j ++ [j] := by
  unfold freeTo
  rw [filter_succ, if_pos]
  rw [List.getD_eq_getElem?_getD, e]; exact h
theorem freeTo_miss {ts : List Tag} {j : Nat} {y : Tag} (e : ts[j]? = some y) (h : tagFree y = false) : freeTo ts (j + 1) = freeTo ts j := by
  unfold freeTo
  rw [filter_succ, if_neg, List.append_nil]
  rw [List.getD_eq_getElem?_getD, e]
  show ¬ (tagFree y = true)
  rw [h]; decide
theorem freeTo_len {ts : List Tag} {n : Nat} : (freeTo ts n).length ≤ n := by
  unfold freeTo
  exact Nat.le_trans (List.length_filter_le _ _) (by rw [List.length_range]; exact Nat.le_refl _)
theorem restOf_hit {pl : Pl} {j : Nat} (h : j ∉ pl.map (·.2)) : restOf pl (j + 1) = restOf pl j ++ [j] := by
  unfold restOf
  rw [filter_succ, if_pos (decide_eq_true h)]
theorem restOf_miss {pl : Pl} {j : Nat} (h : j ∈ pl.map (·.2)) : restOf pl (j + 1) = restOf pl j := by
  unfold restOf
  rw [filter_succ, if_neg, List.append_nil]
  simpa using h
theorem restOf_len {pl : Pl} {n : Nat} : (restOf pl n).length ≤ n := by
  unfold restOf
  exact Nat.le_trans (List.length_filter_le _ _) (by rw [List.length_range]; exact Nat.le_refl _)
theorem restOf_lt {pl : Pl} {n j : Nat} (h : j ∈ restOf pl n) : j < n := by
  unfold restOf at h
  exact List.mem_range.mp (List.mem_filter.mp h).1
theorem showTagT_none {ts : List Tag} {j : Nat} (e : ts[j]? = some none) : showTag ts j = Str.ofString (toString ((j : Int) + 1)) := by
  unfold showTag
  rw [List.getD_eq_getElem?_getD, e]; rfl
theorem showTagT_str {ts : List Tag} {j : Nat} {x : Str} (e : ts[j]? = some (some x)) : showTag ts j = if x = emp then Str.ofString (toString ((j : Int) + 1)) else x := by
  unfold showTag
  rw [List.getD_eq_getElem?_getD, e]; rfl
theorem unused_many {ts : List Tag} {r : List Nat} (h : 1 < r.length) : unusedText ts r = Str.ofString "unused argument" ++ Str.ofString "s" ++ Str.ofString " (" ++ Txt.join (Str.ofString ", ") (r.map (showTag ts)) ++ Str.ofString ")" := by
  have e : Str.ofString "unused argument" ++ Str.ofString "s" = Str.ofString "unused arguments" := by decide +kernel
  unfold unusedText
  rw [if_pos h, e]
theorem unused_one {ts : List Tag} {r : List Nat} (h : ¬ 1 < r.length) : unusedText ts r = Str.ofString "unused argument" ++ Str.ofString "" ++ Str.ofString " (" ++ Txt.join (Str.ofString ", ") (r.map (showTag ts)) ++ Str.ofString ")" := by
  have e : Str.ofString "unused argument" ++ Str.ofString "" = Str.ofString "unused argument" := by decide +kernel
  unfold unusedText
  rw [if_neg h, e]
theorem plAre_vals {kvs : List (Str × Value)} {pl : Pl} (h : PlAre kvs pl) : IntsAre (kvs.map (·.2)) (natsI (pl.map (·.2))) := by
  induction h with
  | nil => exact .nil
  | cons r _ ih =>
    obtain ⟨_, tk, r2⟩ := r
    simp only [natsI, List.map_cons] at ih ⊢
    rw [r2]
    exact .cons _ tk ih
theorem slice_take (vs : List Value) (j : Nat) : (slicePick vs.toArray none (some (j : Int)) none).toList = vs.take j := by
  rw [slicePick_upto']
theorem strs_take {vs : List Value} {ys : List Str} (h : StrsAre vs ys) (j : Nat) : StrsAre (vs.take j) (ys.take j) := by
  induction h generalizing j with
  | nil => simp; exact .nil
  | cons n t _ ih =>
    cases j with
    | zero => exact .nil
    | succ j => exact .cons n t (ih j)
theorem idx_first {ys : List Str} {x : Str} {i : Nat} (h : i < ys.idxOf x) : ys[i]? ≠ some x := by
  induction ys generalizing i with
  | nil => simp
  | cons y r ih =>
    rw [List.idxOf_cons] at h
    by_cases e : y = x
    · simp [e] at h
    · have e' : (y == x) = false := by simp [e]
      rw [e'] at h
      simp only [cond_false] at h
      cases i with
      | zero => simp [e]
      | succ i =>
        simp only [List.getElem?_cons_succ]
        exact ih (by omega)
theorem any_eq_mem {ys : List Str} {x : Str} : ys.any (· == x) = decide (x ∈ ys) := by
  rw [Bool.eq_iff_iff]
  simp only [List.any_eq_true, decide_eq_true_eq]
  exact ⟨fun ⟨y, hy, e⟩ => eq_of_beq e ▸ hy, fun hy => ⟨x, hy, beq_self_eq_true x⟩⟩
theorem any_eq_memI {ys : List Int} {x : Int} : ys.any (· == x) = decide (x ∈ ys) := by
  rw [Bool.eq_iff_iff]
  simp only [List.any_eq_true, decide_eq_true_eq]
  exact ⟨fun ⟨y, hy, e⟩ => eq_of_beq e ▸ hy, fun hy => ⟨x, hy, beq_self_eq_true x⟩⟩
theorem mem_natsI {l : List Nat} {j : Nat} : ((j : Int) ∈ natsI l) ↔ j ∈ l := by
  unfold natsI
  simp only [List.mem_map]
  constructor
  · rintro ⟨a, ha, e⟩
    have : a = j := by omega
    exact this ▸ ha
  · intro h; exact ⟨j, h, rfl⟩
section
variable {prog : Program} {w : World} {A : Around} {E : Value → Shared → Prop} {s : Shared} {h₀ : Heap} {L : Addr} {m : Str → Option Value} {news : List (Addr × Obj)}
theorem in_strs {l : Addr} {vs : List Value} {ys : List Str} {nn : Nat} {x : Str} {t : Tok} {Q : Value → Shared → Prop}
   (N : News h₀ L s.heap news) (hm : (l, PySem.W.listOf vs.toArray nn) ∈ news) (hi : StrsAre vs ys) (h : Q (.bool (decide (x ∈ ys))) s) : wpAny (model prog w) A (compareOp .In (.str x t) (.ref l)) Q E s := by
  refine in_list_strs ⟨_, (N _ hm).1, rfl, nn, rfl⟩ hi ?_
  rw [any_eq_mem]; exact h
theorem in_nats {l : Addr} {vs : List Value} {ys : List Nat} {nn : Nat} {j : Nat} {t : Tok} {Q : Value → Shared → Prop}
   (N : News h₀ L s.heap news) (hm : (l, PySem.W.listOf vs.toArray nn) ∈ news) (hi : IntsAre vs (natsI ys)) (h : Q (.bool (decide (j ∈ ys))) s) : wpAny (model prog w) A (compareOp .In (.int (j : Int) t) (.ref l)) Q E s := by
  refine SeqInW.in_listW (isInt (j : Int)) (fun y hy => ?_) ⟨_, (N _ hm).1, rfl, nn, rfl⟩ ?_
  · obtain ⟨z, u, rfl⟩ : ∃ z u, y = .int z u := by
      obtain ⟨i, hi2⟩ := List.mem_iff_getElem?.mp (show y ∈ vs by simpa using hy)
      obtain ⟨k, u, e, _⟩ := IntsAre.at hi i y hi2
      exact ⟨k, u, e⟩
    exact MeetsSeq.EqGives.int z j u t
  · rw [← Array.any_toList, show vs.toArray.toList = vs from rfl]
    have e : vs.any (isInt (j : Int)) = decide (j ∈ ys) := by
      have e2 : ∀ {vs : List Value} {ns : List Int}, IntsAre vs ns → vs.any (isInt (j : Int)) = ns.any (· == (j : Int)) := by
        intro vs ns h
        induction h with
        | nil => rfl
        | cons n t _ ih => simp only [List.any_cons, ih]; rfl
      rw [e2 hi, any_eq_memI]
      exact decide_eq_decide.mpr mem_natsI
    rw [e]; exact h
theorem notin_nats {l : Addr} {vs : List Value} {ys : List Nat} {nn : Nat} {j : Nat} {t : Tok} {Q : Value → Shared → Prop}
   (N : News h₀ L s.heap news) (hm : (l, PySem.W.listOf vs.toArray nn) ∈ news) (hi : IntsAre vs (natsI ys)) (h : Q (.bool (!decide (j ∈ ys))) s) : wpAny (model prog w) A (compareOp .NotIn (.int (j : Int) t) (.ref l)) Q E s := by
  refine SeqInW.notIn_listW (isInt (j : Int)) (fun y hy => ?_) ⟨_, (N _ hm).1, rfl, nn, rfl⟩ ?_
  · obtain ⟨z, u, rfl⟩ : ∃ z u, y = .int z u := by
      obtain ⟨i, hi2⟩ := List.mem_iff_getElem?.mp (show y ∈ vs by simpa using hy)
      obtain ⟨k, u, e, _⟩ := IntsAre.at hi i y hi2
      exact ⟨k, u, e⟩
    exact MeetsSeq.EqGives.int z j u t
  · rw [← Array.any_toList, show vs.toArray.toList = vs from rfl]
    have e : vs.any (isInt (j : Int)) = decide (j ∈ ys) := by
      have e2 : ∀ {vs : List Value} {ns : List Int}, IntsAre vs ns → vs.any (isInt (j : Int)) = ns.any (· == (j : Int)) := by
        intro vs ns h
        induction h with
        | nil => rfl
        | cons n t _ ih => simp only [List.any_cons, ih]; rfl
      rw [e2 hi, any_eq_memI]
      exact decide_eq_decide.mpr mem_natsI
    rw [e]; exact h
theorem index_strs {l : Addr} {vs : List Value} {ys : List Str} {nn : Nat} {x : Str} {t : Tok} {Q : Value → Shared → Prop}
   (N : News h₀ L s.heap news) (hm : (l, PySem.W.listOf vs.toArray nn) ∈ news) (hi : StrsAre vs ys) (hx : x ∈ ys) (hz : ys.length ≤ 1000)
   (h : ∀ j : Nat, ys[j]? = some x → (∀ i, i < j → ys[i]? ≠ some x) → Q (.int (j : Int) s.toks) { s with toks := s.toks + 1 }) :
   wpAny (model prog w) A (call (.builtin "list.index") [.ref l, .str x t]) Q E s := by
  have hl := hi.length
  have hlt : ys.idxOf x < ys.length := List.idxOf_lt_length_of_mem hx
  have hv : ∀ (i : Nat) (hi2 : i < vs.toArray.size), ∃ y u, vs.toArray[i] = .str y u ∧ ys[i]? = some y := by
    intro i hi2
    have hi3 : i < vs.length := by simpa using hi2
    obtain ⟨y, u, e, e2⟩ := hi.item i vs[i] (List.getElem?_eq_getElem hi3)
    exact ⟨y, u, by simpa using e, e2⟩
  refine call_meets PySem.F.slot_list_index ⟨_, (N _ hm).1, rfl⟩ PySem.F.entry_list_index (PySem.F.args_list_index_2 _ _)
    (MeetsSeq.list_index l vs.toArray nn (.str x t) (isStrOf x) (fun y hy => eq_isStrOf x t hi y (by simpa using hy)) (ys.idxOf x) (by simp; omega) (by omega) ?_ ?_) ⟨(N _ hm).1, h _ ?_ ?_⟩
  · obtain ⟨y, u, e, e2⟩ := hv (ys.idxOf x) (by simp; omega)
    rw [e]
    have : ys[ys.idxOf x]? = some x := by
      rw [List.getElem?_eq_getElem hlt, List.getElem_idxOf hlt]
    rw [this] at e2
    cases e2
    simp [isStrOf]
  · intro i hi2 hlt2
    obtain ⟨y, u, e, e2⟩ := hv i hi2
    rw [e]
    have hne : y ≠ x := by
      rintro rfl
      exact idx_first hlt2 e2
    simp [isStrOf, hne]
  · rw [List.getElem?_eq_getElem hlt, List.getElem_idxOf hlt]
  · intro i hlt2 e2
    exact idx_first hlt2 e2
end
theorem plain_ci : plainId "proto.contains_iter" = true := by decide +kernel
theorem entry_ci : entryFor table "proto.contains_iter" = some Builtin.«proto.contains_iter» := entryFor_of_fast (by kernel_rfl)
theorem vals_no_contains : typeLookup (.type "dict_values") "__contains__" = pure none := by rw [typeLookup_type, builtinLookup_eq_fast]; kernel_rfl
section
variable {prog : Program} {w : World} {A : Around} {R : Result → Shared → Prop} {I : Addr} {fp wr : List Addr} {n : Nat} {P : Nat → Value → Prop} {St : Nat → Heap → Prop}
theorem ci_loop (W : Walks prog w A.in1 I fp wr n P St) {k : Str} {t : Tok} {ys : List Str} (hn : ys.length = n) (hP : ∀ i v, P i v → ∃ y u, v = .str y u ∧ ys[i]? = some y) :
    ∀ (d i : Nat) (s : Shared), n - i = d → i ≤ n → St i s.heap →
    (∀ h' tk b, (∀ a o, a ∉ wr → s.heap.get? a = some o → h'.get? a = some o) → b = (ys.drop i).any (· == k) → R (.ok (.ret (.bool b))) { s with heap := h', toks := tk }) →
    codeAny (model prog w) A (.builtin "proto.contains_iter" ⟨[.ref I, .str k t], []⟩) R s := by
  intro d
  induction d with
  | zero =>
    intro i s hd hi hst hR
    have hin : i = n := by omega
    subst hin
    refine codeAny_builtin entry_ci ?_
    rw [Around.under_plainId plain_ci _]
    show wpAny _ A.in1 (pyNext (.ref I) >>= _) _ _ s
    refine wpAny_bind (W.done s _ _ hst fun h' tk hk => ?_)
    show wpAny _ A.in1 (rule "in.by-iteration.exhausted" >>= fun _ => ret (.bool false)) _ _ _
    refine wpAny_bind (wpAny_rule (wpAny_pure ?_))
    refine hR h' tk false hk ?_
    rw [List.drop_of_length_le (by omega)]; rfl
  | succ d ih =>
    intro i s hd hi hst hR
    have hlt : i < n := by omega
    refine codeAny_builtin entry_ci ?_
    rw [Around.under_plainId plain_ci _]
    show wpAny _ A.in1 (pyNext (.ref I) >>= _) _ _ s
    refine wpAny_bind (W.item i s _ _ hlt hst fun v h' tk hPv hst' hk => ?_)
    obtain ⟨y, u, rfl, hy⟩ := hP i v hPv
    have e : ys.drop i = y :: ys.drop (i + 1) := by
      obtain ⟨h1, h2⟩ := List.getElem?_eq_some_iff.mp hy
      rw [List.drop_eq_getElem_cons h1, h2]
    show wpAny _ A.in1 (eqBool (.str y u) (.str k t) >>= _) _ _ _
    refine wpAny_bind (eqGives_str y k u t _ _ _ _ _ _ ?_)
    cases hyk : (y == k) with
    | true =>
      show wpAny _ A.in1 (rule "in.by-iteration.found" >>= fun _ => ret (.bool true)) _ _ _
      refine wpAny_bind (wpAny_rule (wpAny_pure ?_))
      refine hR h' tk true hk ?_
      rw [e, List.any_cons, hyk]; rfl
    | false =>
      refine wpAny_pure ⟨plainId_quiet plain_ci _, ih (i + 1) { s with heap := h', toks := tk } (by omega) hlt hst' fun h'' tk' b hk' hb => ?_⟩
      refine hR h'' tk' b (fun a o ha ho => hk' a o ha (hk a o ha ho)) ?_
      rw [e, List.any_cons, hyk, hb]; rfl
end
def IsPa (p : Int × Value) (q : Nat × Str) : Prop := p.1 = (q.1 : Int) ∧ ∃ tk, p.2 = .str q.2 tk
abbrev PaAre : List (Int × Value) → Pa → Prop := All2 IsPa
section
variable {prog : Program} {w : World} {A : Around} {E : Value → Shared → Prop} {s : Shared} {h₀ : Heap} {L : Addr} {m : Str → Option Value} {news : List (Addr × Obj)}
theorem in_view {v d : Addr} {o : Obj} {kvs : List (Int × Value)} {pa : Pa} {k : Str} {t : Tok} {Q : Value → Shared → Prop} (hh : A.handled = none) (F : Fr h₀ L s.heap m) (N : News h₀ L s.heap news)
    (hv : (v, ({ cls := .type "dict_values", data := .fields #[.ref d] } : Obj)) ∈ news) (hp : (d, o) ∈ news) (hd : o.IsDictOf (PySem.intKind prog w) kvs) (hpa : PaAre kvs pa)
    (h : ∀ h' tk, Fr h₀ L h' m → News h₀ L h' news → Q (.bool (hasN pa k)) { s with heap := h', toks := tk }) : wpAny (model prog w) A (compareOp .In (.str k t) (.ref v)) Q E s := by
  obtain ⟨ep, hat⟩ := (kda_dict N hp hd).dictAt
  have hview : s.heap.IsValuesView v d := ⟨_, (N _ hv).1, rfl, rfl⟩
  have hT : s.TypeIs (.ref v) "dict_values" := hview.typeIs
  have hlen : (pa.map (·.2)).length = kvs.length := by rw [List.length_map, hpa.length]
  show wpAny _ _ (do return .bool (← contains (.ref v) (.str k t))) Q E s
  refine wpAny_bind ?_
  unfold contains
  refine wpAny_holding ?_
  show wpAny _ _ (specialOf (.ref v) "__contains__" >>= _) _ _ s
  refine wpAny_bind (wpAny_specialOf hT vals_no_contains ?_)
  show wpAny _ _ (callSpecialUnlessNone? (.ref v) "__contains__" [.str k t] _ >>= _) _ _ s
  refine wpAny_bind (wpAny_callSpecialUnlessNone?_none hT vals_no_contains ?_)
  refine wpAny_bind (wpAny_rule ?_)
  refine wpAny_bind (wpAny_tryCatch (wpAny_pyIter_values hview hat ?_))
  have hds : d ≠ s.heap.objs.size := Nat.ne_of_lt hat.lt_size
  refine wpAny_bind (wpAny_runValue (ci_loop (ys := pa.map (·.2)) (P := fun i v => ∃ k, kvs[i]? = some (k, v)) (Walks.dictValues (A := A.in1) (knd := PySem.intKind prog w) hh s.heap.objs.size d hds kvs ep) hlen ?_ _ 0 _ rfl (Nat.zero_le _) ⟨⟨_, Heap.get?_push_size _ rfl, rfl, rfl⟩, hat.push _⟩ fun h' tk b hk hb => ?_))
  · rintro i x ⟨j, hj⟩
    obtain ⟨q, hq, r⟩ := hpa.get hj
    obtain ⟨_, u, rfl⟩ := r
    exact ⟨q.2, u, rfl, by rw [List.getElem?_map, hq]; rfl⟩
  · have keep : ∀ a o, s.heap.get? a = some o → h'.get? a = some o := fun a o e => hk a o (fun hm => absurd (Heap.lt_size e) (by rw [List.mem_singleton.mp hm]; exact Nat.lt_irrefl _)) (Heap.get?_push_of_some _ e)
    have hb2 : b = hasN pa k := by
      rw [hb, List.drop_zero, List.any_map]
      unfold hasN
      congr 1
    subst hb2
    refine wpAny_pure (wpAny_pure ?_)
    exact h h' tk (F.keeps keep) (fun p hp => ⟨keep _ _ (N p hp).1, (N p hp).2⟩)
end
section
variable {prog : Program} {w : World} {A : Around} {E : Value → Shared → Prop} {s : Shared} {h₀ : Heap} {L : Addr} {m : Str → Option Value} {news : List (Addr × Obj)}
theorem paAt_has {kvs : List (Int × Value)} {pa : Pa} (h : PaAre kvs pa) (j : Nat) : (valueAt kvs (j : Int)).isSome = hasA pa j := by
  induction h with
  | nil => rfl
  | @cons a b as bs r _ ih =>
    obtain ⟨r1, _⟩ := r
    simp only [valueAt, hasA, List.find?_cons, List.any_cons, r1] at ih ⊢
    by_cases e : b.1 = j
    · simp [e]
    · have e' : ¬ ((b.1 : Int) = (j : Int)) := by omega
      simp only [e, e', decide_false, Bool.false_or]
      exact ih
theorem paAt_nodup {kvs : List (Int × Value)} {pa : Pa} (h : PaAre kvs pa) (hn : (pa.map (·.1)).Nodup) {i : Nat} {q : Nat × Str} (hi : pa[i]? = some q) : ∃ t, valueAt kvs (q.1 : Int) = some (.str q.2 t) := by
  induction h generalizing i with
  | nil => cases hi
  | @cons a b as bs r _ ih =>
    obtain ⟨r1, t, r2⟩ := r
    simp only [List.map_cons, List.nodup_cons] at hn
    cases i with
    | zero =>
      simp only [List.getElem?_cons_zero, Option.some.injEq] at hi
      subst hi
      exact ⟨t, by simp [valueAt, r1, r2]⟩
    | succ i =>
      simp only [List.getElem?_cons_succ] at hi
      obtain ⟨t', h'⟩ := ih hn.2 hi
      refine ⟨t', ?_⟩
      have hne : ¬ (b.1 = q.1) := fun e => hn.1 (e ▸ List.mem_map_of_mem (List.mem_of_getElem? hi))
      have hne' : ¬ ((b.1 : Int) = (q.1 : Int)) := by omega
      simpa [valueAt, List.find?_cons, r1, hne'] using h'
theorem stored_newA {kvs : List (Int × Value)} {pa : Pa} (h : PaAre kvs pa) {j : Nat} (hj : hasA pa j = false) {nm : Str} {tk : Tok} : PaAre (stored kvs (j : Int) (.str nm tk)) (pa ++ [(j, nm)]) := by
  have hn : ∀ {kvs : List (Int × Value)} {pa : Pa}, PaAre kvs pa → hasA pa j = false → kvs.any (fun kv => decide (kv.1 = (j : Int))) = false := by
    intro kvs pa h
    induction h with
    | nil => intro _; rfl
    | @cons a b as bs r _ ih =>
      intro hk
      simp only [hasA, List.any_cons, Bool.or_eq_false_iff] at hk ⊢
      refine ⟨?_, ih hk.2⟩
      rw [r.1]
      have h1 : ¬ (b.1 = j) := of_decide_eq_false hk.1
      exact decide_eq_false (by omega)
  have e : stored kvs (j : Int) (.str nm tk) = kvs ++ [((j : Int), .str nm tk)] := by
    unfold stored
    rw [hn h hj]
    rfl
  rw [e]
  exact h.snoc ⟨rfl, tk, rfl⟩
theorem in_pa {dd : Addr} {o : Obj} {kvs : List (Int × Value)} {pa : Pa} {j : Nat} {tk : Tok} {Q : Value → Shared → Prop} (N : News h₀ L s.heap news) (hm : (dd, o) ∈ news) (hd : o.IsDictOf (PySem.intKind prog w) kvs) (hp : PaAre kvs pa) (lo : (dd == sysModules) = false)
    (h : Q (.bool (hasA pa j)) { s with toks := s.toks + 1 }) : wpAny (model prog w) A (compareOp .In (.int (j : Int) tk) (.ref dd)) Q E s :=
  kda_in (knd := PySem.intKind _ _) N hm hd lo (intKind_is _ _ _ _) _ (paAt_has hp j) h
theorem set_pa {dd : Addr} {o : Obj} {g : Obj → List (Addr × Obj)} {kvs : List (Int × Value)} {pa : Pa} {j : Nat} {nm : Str} {tk tv : Tok} {Q : Unit → Shared → Prop} (F : Fr h₀ L s.heap m) (N : News h₀ L s.heap news) (U : UpdF dd o news g)
    (hd : o.IsDictOf (PySem.intKind prog w) kvs) (hp : PaAre kvs pa) (hk : hasA pa j = false) (hsz : pa.length ≤ 1000)
    (h : ∀ h' o' kvs', Fr h₀ L h' m → News h₀ L h' (g o') → o'.IsDictOf (PySem.intKind prog w) kvs' → PaAre kvs' (pa ++ [(j, nm)]) → Q () { s with heap := h', toks := s.toks + 1 }) :
    wpAny (model prog w) A (setItem (.ref dd) (.int (j : Int) tk) (.str nm tv)) Q E s :=
  kda_set (knd := PySem.intKind _ _) F N U hd (intKind_is _ _ _ _) (by rw [hp.length, sizeLine_eq]; omega) fun h' o' F' N' hd' => h h' o' _ F' N' hd' (stored_newA hp hk)
theorem item_pa {value slice : Expr} {dd : Addr} {o : Obj} {kvs : List (Int × Value)} {pa : Pa} {q : Nat × Str} {i : Nat} {tk : Tok} {Q : Value → Shared → Prop} (N : News h₀ L s.heap news) (hm : (dd, o) ∈ news) (hd : o.IsDictOf (PySem.intKind prog w) kvs) (hp : PaAre kvs pa) (hn : (pa.map (·.1)).Nodup) (hi : pa[i]? = some q)
    (h : ∀ t, Q (.str q.2 t) { s with toks := s.toks + 1 })
    (hs : subscripted slice false (.ref dd) (.int (q.1 : Int) tk) = operate [.ref dd, .int (q.1 : Int) tk] (getItem (.ref dd) (.int (q.1 : Int) tk)) := by with_unfolding_all rfl) :
    wpAny (model prog w) A (subscriptTail value slice (.ref dd) (.int (q.1 : Int) tk)) Q E s := by
  obtain ⟨t, h1⟩ := paAt_nodup hp hn hi
  exact tail_any (kda_dict N hm hd).typeIs slot_dict_getitem.lookup (kdt_getItem (knd := PySem.intKind _ _) N hm hd (intKind_is _ _ _ _) h1 (h t)) hs
end
section
variable {prog : Program} {w : World} {A : Around} {E : Value → Shared → Prop} {s : Shared} {env : Env} {h₀ : Heap} {x : Str} {body : List Stmt} {Q : Flow → Shared → Prop}
  {σ : Type} (Led : σ → List (Addr × Obj)) (ps : σ → List (Str × Value)) (stored : List Str) (P : Nat → σ → Prop)
theorem loop_keys {l : Addr} {oD : Obj} {kvs : List (Int × Value)} {m₀ : Str → Option Value} (c₀ : σ)
    (hh : A.handled = none) (hl : ∀ c, (l, oD) ∈ Led c) (hd : oD.IsDictOf (PySem.intKind prog w) kvs) (hsys : (l == sysModules) = false) (F : Fr h₀ env.locals s.heap m₀) (N : News h₀ env.locals s.heap (Led c₀)) (hk : ∀ p ∈ ps c₀, m₀ p.1 = some p.2) (hp : P 0 c₀)
    (turn : ∀ (c : σ) (i : Nat) (j : Int) (t : Tok) y (u : Str → Option Value) h tk I oI, kvs[i]? = some (j, y) → (∀ p ∈ Led c, p.1 ≠ I) → P i c →
      Fr h₀ env.locals h (fun y => if y = x then some (.int j t) else kstB (fun z => if stored.contains z then u z else m₀ z) (ps c) y) → News h₀ env.locals h ((I, oI) :: Led c) →
      wpAny (model prog w) A (execs body env) (LoopEnd h₀ env.locals x m₀ Led ps stored (P (i + 1)) I oI Q { s with heap := h, toks := tk }) E { s with heap := h, toks := tk })
    (done : ∀ (c : σ) (u : Str → Option Value) h tk, P kvs.length c → Fr h₀ env.locals h (fun y => if y = x then u y else kstB (fun z => if stored.contains z then u z else m₀ z) (ps c) y) → News h₀ env.locals h (Led c) → Q .next { s with heap := h, toks := tk }) :
    wpAny (model prog w) A (pyIter (.ref l)) (fun it s₂ => LoopAtV prog w A h₀ env x body Q E it s₂) E s := by
  have hol : s.heap.get? l = some oD := (N _ (hl c₀)).1
  obtain ⟨ep, hls⟩ := (kda_dict (knd := PySem.intKind prog w) N (hl c₀) hd).dictAt
  have hne : l ≠ s.heap.objs.size := Nat.ne_of_lt (Heap.lt_size hol)
  refine wpAny_pyIter_dict hsys hls ?_
  have W := Walks.dictKeys (prog := prog) (w := w) (knd := PySem.intKind prog w) hh s.heap.objs.size l hne kvs ep
  refine ⟨_, _, _, kvs.length, _, _, m₀, Led c₀, fun i m nx => ∃ c, nx = Led c ∧ (∀ p ∈ ps c, m p.1 = some p.2) ∧ (∀ z, z ≠ x → (∀ p ∈ ps c, z ≠ p.1) → stored.contains z = false → m z = m₀ z) ∧ P i c, rfl, W, ?_, ?_, ?_,
    ⟨⟨_, Heap.get?_push_size _ rfl, rfl, rfl⟩, hls.push _⟩, F.push _,
    (fun p hp => ⟨Heap.get?_push_of_some _ (N p hp).1, (N p hp).2⟩), ⟨c₀, rfl, hk, fun _ _ _ _ => rfl, hp⟩, ?_, ?_⟩
  · intro hm
    rcases List.mem_cons.mp hm with e | hm
    · exact absurd F.ns.lt (e ▸ Nat.lt_irrefl _)
    · exact (N _ (hl c₀)).2.1 ((List.mem_singleton.mp hm).symm)
  · intro b hb
    rw [List.mem_singleton.mp hb]
    exact next_is_new F
  · intro p hp hI
    exact absurd (Heap.lt_size (N p hp).1) ((List.mem_singleton.mp hI) ▸ Nat.lt_irrefl _)
  · rintro i v m₁ news₁ s₁ own ⟨hh', tk', rfl⟩ hi ⟨j, y, hPv, hjv⟩ ⟨c, rfl, h1, h2, hP⟩ hoff hown _ hmem hst' F₁ N₁
    obtain ⟨t, rfl⟩ := Value.isInt_shape hjv
    obtain ⟨⟨oI', hoI, _⟩, _⟩ := hst'
    obtain ⟨oI, hI⟩ : ∃ o, ((s.heap.objs.size, o) : Addr × Obj) ∈ own := ⟨_, hmem _ (.head _) (next_is_new F) _ hoI⟩
    have hoff' : ∀ p ∈ Led c, p.1 ≠ s.heap.objs.size := fun p hp q => hoff p hp (List.mem_singleton.mpr q)
    have N₂ : News h₀ env.locals hh' ((s.heap.objs.size, oI) :: Led c) := fun p hp => (List.mem_cons.mp hp).elim (fun e => N₁ p (e ▸ List.mem_append_left _ hI)) fun e => N₁ p (List.mem_append_right _ e)
    refine wpAny_mono (turn c i j t y m₁ hh' tk' _ _ hPv hoff' hP (kst_fr h1 h2 F₁) N₂) (fun f s₂ p => ?_) fun _ _ e => e
    have own1 : ∀ p ∈ own, p = (s.heap.objs.size, oI) ∨ p = (l, oD) := fun p hp => by
      have a2 := (N₁ p (List.mem_append_left _ hp)).1
      rcases List.mem_cons.mp (hown p hp) with a1 | a1
      · have a3 := (N₁ _ (List.mem_append_left _ hI)).1
        rw [a1, a3] at a2
        exact .inl (Prod.ext a1 (Option.some.inj a2).symm)
      · have a1 := List.mem_singleton.mp a1
        have a3 := (N₁ _ (List.mem_append_right _ (hl c))).1
        rw [a1, a3] at a2
        exact .inr (Prod.ext a1 (Option.some.inj a2).symm)
    have fin : ∀ f, (∃ c h' tk m' news', s₂ = { s with heap := h', toks := tk } ∧ Fr h₀ env.locals h' m' ∧ News h₀ env.locals h' news' ∧ (∀ p ∈ Led c, p ∈ news') ∧ ((s.heap.objs.size, oI) : Addr × Obj) ∈ news' ∧ (∀ p ∈ Led c, p.1 ≠ s.heap.objs.size) ∧
      (∀ p ∈ ps c, m' p.1 = some p.2) ∧ (∀ z, z ≠ x → (∀ p ∈ ps c, z ≠ p.1) → stored.contains z = false → m' z = m₀ z) ∧ P (i + 1) c) → (f = Flow.next) → LoopStepU h₀ env.locals [s.heap.objs.size] own (fun m nx => ∃ c, nx = Led c ∧ (∀ p ∈ ps c, m p.1 = some p.2) ∧ (∀ z, z ≠ x → (∀ p ∈ ps c, z ≠ p.1) → stored.contains z = false → m z = m₀ z) ∧ P (i + 1) c) { s with heap := hh', toks := tk' } f s₂ := by
      rintro f ⟨c', h', tk, m', news', e, F', N', hlc, hi', ho, hps, hst, hP'⟩ rfl
      refine ⟨rfl, h', tk, m', Led c', e, F', fun p hp => ?_, fun p hp q => ho p hp (List.mem_singleton.mp q), c', rfl, hps, hst, hP'⟩
      rcases List.mem_append.mp hp with hp | hp
      · rcases own1 p hp with rfl | rfl
        · exact N' _ hi'
        · exact N' _ (hlc _ (hl c'))
      · exact N' p (hlc p hp)
    cases f with
    | ret v => exact .ret p
    | brk => exact .brk p
    | next => exact .next (fin _ p rfl)
    | cont => exact .cont (fin _ p rfl)
  · rintro h' tk m' _ F' N' _ ⟨c, rfl, h1, h2, hP⟩
    exact done c m' h' tk hP (kst_frOut h1 h2 F') N'
end
theorem cut_at : ∀ {vs : List Value} {k : Nat} {y : Value}, vs[k]? = some y → kl_cut vs k = some (vs.take k, y, vs.drop (k + 1))
  | [], k, y, h => by simp at h
  | v :: r, 0, y, h => by
    simp only [List.getElem?_cons_zero, Option.some.injEq] at h
    subst h
    rfl
  | v :: r, k + 1, y, h => by
    simp only [List.getElem?_cons_succ] at h
    have ih := cut_at h
    show (match kl_cut r k with | some (p, y, q) => some (v :: p, y, q) | none => none) = _
    rw [ih]
    rfl
section
variable {prog : Program} {w : World} {A : Around} {E : Value → Shared → Prop} {s : Shared} {h₀ : Heap} {L D : Addr} {m : Str → Option Value} {news news' : List (Addr × Obj)} {n : Nat}
theorem pop_led {vs : List Value} {k : Nat} {u : Tok} {y : Value} {Q : Value → Shared → Prop} (F : Fr h₀ L s.heap m) (N : News h₀ L s.heap news) (hk : vs[k]? = some y) (U : Upd D (PySem.W.listOf vs.toArray n) (PySem.W.listOf (vs.take k ++ vs.drop (k + 1)).toArray (n + 1)) news news') (hz : vs.length ≤ 1000)
    (h : ∀ h', Fr h₀ L h' m → News h₀ L h' news' → Q y { s with heap := h' }) : wpAny (model prog w) A (call (.builtin "list.pop") [.ref D, .int (k : Int) u]) Q E s := by
  have hlt : k < vs.length := (List.getElem?_eq_some_iff.mp hk).1
  refine kl_popAt (k := k) (p := vs.take k) (q := vs.drop (k + 1)) (y := y) F N ?_ ?_ (cut_at hk) U (by show vs.length ≤ _; rw [sizeLine_eq]; omega) h
  · simp [Builtin.List.listFitsIndex]; omega
  · simp [seqIndex?]; omega
theorem pop0_nats {vs : List Value} {j : Nat} {r : List Nat} {u : Tok} {Q : Value → Shared → Prop} (F : Fr h₀ L s.heap m) (N : News h₀ L s.heap news) (hi : IntsAre vs (natsI (j :: r))) (U : Upd D (PySem.W.listOf vs.toArray n) (PySem.W.listOf (vs.drop 1).toArray (n + 1)) news news') (hz : vs.length ≤ 1000)
    (h : ∀ h' t, Fr h₀ L h' m → News h₀ L h' news' → IntsAre (vs.drop 1) (natsI r) → Q (.int (j : Int) t) { s with heap := h' }) : wpAny (model prog w) A (call (.builtin "list.pop") [.ref D, .int 0 u]) Q E s := by
  cases hi with
  | cons z t r2 =>
    exact pop_led (k := 0) F N rfl U hz fun h' F' N' => h h' t F' N' r2
end
section
variable {prog : Program} {w : World} {A : Around} {E : Value → Shared → Prop} {s : Shared} {h₀ : Heap} {L : Addr} {news : List (Addr × Obj)}
theorem item_tagS {value slice : Expr} {l : Addr} {vs : List Value} {nn : Nat} {ts : List Tag} {j : Nat} {u : Tok} {x : Str} {Q : Value → Shared → Prop}
    (N : News h₀ L s.heap news) (hm : (l, PySem.W.listOf vs.toArray nn) ∈ news) (ht : TagsAre vs ts) (e : ts[j]? = some (some x)) (hb : ts.length ≤ 1000) (h : ∀ t, Q (.str x t) s)
    (hs : subscripted slice false (.ref l) (.int (j : Int) u) = operate [.ref l, .int (j : Int) u] (getItem (.ref l) (.int (j : Int) u)) := by with_unfolding_all rfl) :
    wpAny (model prog w) A (subscriptTail value slice (.ref l) (.int (j : Int) u)) Q E s := by
  have hj := (List.getElem?_eq_some_iff.mp e).1
  refine item_tag N hm ht (by omega) (by omega) (by omega) ⟨fun y t e2 => ?_, fun e2 => ?_⟩ hs
  · rw [toNat_nat, e] at e2; cases e2; exact h t
  · rw [toNat_nat, e] at e2; cases e2
theorem item_tagN {value slice : Expr} {l : Addr} {vs : List Value} {nn : Nat} {ts : List Tag} {j : Nat} {u : Tok} {Q : Value → Shared → Prop}
    (N : News h₀ L s.heap news) (hm : (l, PySem.W.listOf vs.toArray nn) ∈ news) (ht : TagsAre vs ts) (e : ts[j]? = some none) (hb : ts.length ≤ 1000) (h : Q .none s)
    (hs : subscripted slice false (.ref l) (.int (j : Int) u) = operate [.ref l, .int (j : Int) u] (getItem (.ref l) (.int (j : Int) u)) := by with_unfolding_all rfl) :
    wpAny (model prog w) A (subscriptTail value slice (.ref l) (.int (j : Int) u)) Q E s := by
  have hj := (List.getElem?_eq_some_iff.mp e).1
  refine item_tag N hm ht (by omega) (by omega) (by omega) ⟨fun y t e2 => ?_, fun e2 => ?_⟩ hs
  · rw [toNat_nat, e] at e2; cases e2
  · exact h
end
def dueD (w : World) (prog : Program) (lf lt : Addr) (fv tv : List Value) (nf nt : Nat) (ts : List Tag) (fs : List Str) (v : Value) (T' : List (Addr × Obj)) : Prop :=
  ∃ t word tw pd od rd rv kvs pl rest, v = .ref t ∧ T' = [(t, { cls := .type "tuple", data := .seq #[.str word tw, .ref pd, .ref rd] 0}), (pd, od), (rd, LCg.lst rv), (lf, PySem.W.listOf fv.toArray nf), (lt, PySem.W.listOf tv.toArray nt)] ∧
    od.IsDictOf (PySem.strKind prog w) kvs ∧ PlAre kvs pl ∧ IntsAre rv (natsI rest) ∧ (pd == sysModules) = false ∧ (dueP ts fs = .error word ∨ (dueP ts fs = .ok (pl, rest) ∧ word = emp))
structure S3 where
  od : Obj
  kvs : List (Int × Value)
  pa : Pa
structure S1 where
  od : Obj
  kvs : List (Str × Value)
  pl : Pl
  oN : Obj
  v0 : Option Value
structure S2 where
  od : Obj
  kvs : List (Int × Value)
  pa : Pa
  oN : Obj
  v0 : Option Value
theorem kstB_off2 {rest : Str → Option Value} {z : Str} : ∀ {ps : List (Str × Value)}, (∀ p ∈ ps, z ≠ p.1) → kstB rest ps z = rest z
  | [], _ => rfl
  | p :: r, h => by
    show (if z = p.1 then some p.2 else kstB rest r z) = rest z
    rw [if_neg (h p (.head _))]
    exact kstB_off2 fun q hq => h q (.tail _ hq)
theorem kst_h5 {ps : List (Str × Value)} {stored : List Str} {x : Str} {v : Value} {u m₀ : Str → Option Value} : ∀ z, z ≠ x → (∀ p ∈ ps, z ≠ p.1) → stored.contains z = false →
    (fun y => if y = x then some v else kstB (fun z => if stored.contains z then u z else m₀ z) ps y) z = m₀ z := by
  intro z h1 h2 h3
  dsimp only
  rw [if_neg h1, kstB_off2 h2, h3]
  rfl
theorem kst_h5T {ps : List (Str × Value)} {stored : List Str} {u m₀ : Str → Option Value} : ∀ z, (∀ p ∈ ps, z ≠ p.1) → stored.contains z = false →
    (kstB (fun z => if stored.contains z then u z else m₀ z) ps) z = m₀ z := by
  intro z h2 h3
  rw [kstB_off2 h2, h3]
  rfl
abbrev psD (lf ah pd whA pt : Addr) : List (Str × Value) := [(Str.ofString "formals", .ref lf), (Str.ofString "ahead", .ref ah), (Str.ofString "places", .ref pd), (Str.ofString "whole_ones", .ref whA), (Str.ofString "partly", .ref pt)]
theorem with_lit {α : Type} {P : Prop} {x : Option α} {l : α} (h : x = some l) (k : x = some l → P) : P := k h
theorem kstM {g h : Heap} {L : Addr} {m : Str → Option Value} (ps : List (Str × Value)) (F : Fr g L h m) (hp : ∀ p ∈ ps, m p.1 = some p.2) : Fr g L h (kstB m ps) := by
  have em : kstB m ps = m := by
    funext y
    exact kstB_eq hp fun _ => rfl
  rw [em]; exact F
section
variable {w : World} {mean : ExcName → Option Value} {mg mb : Str → Option Value} {base : Heap} {envs : List Env} {s : Shared} {A : Around} {prog : Program} {R : Result → Shared → Prop} {lf lt : Addr} {fv tv : List Value} {nf nt : Nat} {ts : List Tag} {fs : List Str}
def AltD (g : Heap) (L : Addr) (m : Str → Option Value) (led : List (Addr × Obj)) (fs : List Str) (s : Shared) (v : Value) (s' : Shared) : Prop :=
  ∃ ah av na h tk, v = .ref ah ∧ s' = { s with heap := h, toks := tk } ∧ Fr g L h m ∧ News g L h ((ah, PySem.W.listOf av.toArray na) :: led) ∧ StrsAre av (ahead fs)
theorem alt_walk {M : Model} {A : Around} {E : Value → Shared → Prop} {x : Sem Value} {Q : Value → Shared → Prop} {s₁ : Shared} {g hp : Heap} {L : Addr} {m : Str → Option Value} (led : List (Addr × Obj)) (_F : Fr g L hp m) (h1 : wpAny M A x (AltD g L m led fs s) E s₁)
   (h2 : ∀ ah av na h tk, Fr g L h m → News g L h ((ah, PySem.W.listOf av.toArray na) :: led) → StrsAre av (ahead fs) → Q (.ref ah) { s with heap := h, toks := tk }) : wpAny M A x Q E s₁ := by
  refine wpAny_mono h1 (fun v s' q => ?_) fun _ _ e => e
  obtain ⟨ah, av, na, h, tk, rfl, rfl, F, N, S⟩ := q
  exact h2 ah av na h tk F N S
theorem dueD_of {g h : Heap} {L : Addr} {m : Str → Option Value} {tk : Nat} {t pd rd : Addr} {word : Str} {tw : Tok} {od : Obj} {rv : List Value} {kvs : List (Str × Value)} {pl : Pl} {rest : List Nat} {news : List (Addr × Obj)} (F : Fr g L h m) (N : News g L h news)
   (hd : od.IsDictOf (PySem.strKind prog w) kvs) (hp : PlAre kvs pl) (hr : IntsAre rv (natsI rest)) (hs : (pd == sysModules) = false) (hm : dueP ts fs = .error word ∨ (dueP ts fs = .ok (pl, rest) ∧ word = emp))
   (m1 : (t, ({ cls := .type "tuple", data := .seq #[.str word tw, .ref pd, .ref rd] 0} : Obj)) ∈ news) (m2 : (pd, od) ∈ news) (m3 : (rd, LCg.lst rv) ∈ news) (m4 : (lf, PySem.W.listOf fv.toArray nf) ∈ news) (m5 : (lt, PySem.W.listOf tv.toArray nt) ∈ news) :
   Back g s (dueD w prog lf lt fv tv nf nt ts fs) (.ref t) { s with heap := h, toks := tk } := by
  refine ⟨_, _, [(t, { cls := .type "tuple", data := .seq #[.str word tw, .ref pd, .ref rd] 0}), (pd, od), (rd, LCg.lst rv), (lf, PySem.W.listOf fv.toArray nf), (lt, PySem.W.listOf tv.toArray nt)], _, _, rfl, F, kst_newsOf N ?_, _, _, _, _, _, _, _, _, _, _, rfl, rfl, hd, hp, hr, hs, hm⟩
  intro p hp
  simp only [List.mem_cons, List.not_mem_nil, or_false] at hp
  rcases hp with rfl | rfl | rfl | rfl | rfl <;> assumption
end
theorem cleanDU133 : True := by
  w_top off
  k_with_none
  exact trivial
theorem fillDU1 : (PySem.Challenge.rw_no0499_01 = PySem.Challenge.rw_no0499_01) ∧ hd.heap_39 = hd.heap_39 := by
  k_fill
  exact ⟨rfl, rfl⟩
theorem cleanDU134 : True := by
  k_with "z_k_ne" => (((try dsimp only); first | assumption | exact Ne.symm (by assumption)))
  k_with "z:exec For Name Call cons nil" => (refine wall ?_)
  k_with "z:exec For Name Attribute cons nil" => (refine wall ?_)
  k_with "z:exec For Name Name cons nil" => (refine wall ?_)
  k_with "z:pyIter ref" => (refine wall ?_)
  k_with "z:call builtin:len" => (((with_reducible show wpAny _ _ (call (Value.builtin _) [Value.ref _]) _ _ _); k_dflt (apply len_led; (case N => k_asm); (case hm => k_mem); (case hn => k_asm); (case hs => omega))))
  k_with "z_item_tag_subscriptTail_Name_Name_ref_int" => ((with_reducible show wpAny _ _ (subscriptTail _ _ (Value.ref _) (Value.int _ _)) _ _ _); apply item_tag; (case hs => with_unfolding_all rfl); (case N => k_asm); (case hm => k_mem); (case ht => assumption); (case h0 => omega); (case hhi => omega); (case hk => omega))
  k_with "z_item_int_subscriptTail_Name_Name_ref_int" => ((with_reducible show wpAny _ _ (subscriptTail _ _ (Value.ref _) (Value.int _ _)) _ _ _); apply item_int; (case hs => with_unfolding_all rfl); (case N => k_asm); (case hm => k_mem); (case ht => assumption); (case h0 => omega); (case hhi => omega); (case hk => omega))
  k_with "z:compareOp In str ref" => ((k_dflt (apply in_pl; (case N => k_asm); (case hm => k_mem); (case hd => assumption); (case hp => assumption); (case lo => assumption))))
  k_with "z:compareOp NotIn str ref" => ((k_dflt (apply notin_pl; (case N => k_asm); (case hm => k_mem); (case hd => assumption); (case hp => assumption); (case lo => assumption))))
  k_with "z_set_pl_setItem_ref_str" => (apply set_pl; (case F => k_asm); (case N => k_asm); (case U => k_updF); (case hd => assumption); (case hp => assumption); (case hk => assumption); (case hsz => omega))
  k_with "z:exec Raise some none" => ((k_dflt (apply raise_stmt; (case hh => exact rfl); (case G => assumption))))
  k_with "z:call ref" => (((with_reducible show wpAny _ _ (call (Value.ref 44) [_]) _ _ _); k_dflt (apply refusal_raise; (case G => assumption); (case kE => assumption); (case B => assumption); (case F => k_asm); (case N => k_asm); (case X => assumption); (case rm => (exact RoomUp.use (by assumption) (by omega))); (case hf => exact rfl); (case hk => exact rfl); refine wall ?_)))
  k_with "z:joinParts" => (((first | (with_reducible show wpAny _ _ (joinParts _ []) _ _ _) | (with_reducible show wpAny _ _ (joinParts _ (evalEach [] _)) _ _ _)); k_dflt ((try refine joinParts_nilE ?_); refine joinParts_nil ?_ ?_; rotate_left; exact argText_len (by omega))))
  k_with "z:eval ListComp" => (refine wall ?_)
  k_with "z:CompSrcT" => (refine wall ?_)
  k_with "z:CompSrc" => (refine wall ?_)
  k_with "z:CompEnd" => (refine wall ?_)
  k_with "z:FinE" => (refine wall ?_)
  k_with "z:exec Assign cons ListComp" => (refine wall ?_)
  k_with "z:FinA" => (refine wall ?_)
  k_with "z:subscriptTail Name Constant ref int" => (refine wall ?_)
  k_with "z_item_tagN_subscriptTail_Name_Name_ref_int" => ((with_reducible show wpAny _ _ (subscriptTail _ _ (Value.ref _) (Value.int _ _)) _ _ _); apply item_tagN; (case hs => with_unfolding_all rfl); (case N => k_asm); (case hm => k_mem); (case ht => assumption); (case e => assumption); (case hb => omega))
  k_with "z_item_tagS_subscriptTail_Name_Name_ref_int" => ((with_reducible show wpAny _ _ (subscriptTail _ _ (Value.ref _) (Value.int _ _)) _ _ _); apply item_tagS; (case hs => with_unfolding_all rfl); (case N => k_asm); (case hm => k_mem); (case ht => assumption); (case e => assumption); (case hb => omega))
  k_with "z:eval IfExp" => (refine wall ?_)
  k_with "z_kdl_list_valuesP_call_type_list" => ((with_reducible show wpAny _ _ (call (Value.type "list") [Value.ref _]) _ _ _); apply kdl_list_valuesP (knd := PySem.strKind _ _); (case hh => first | assumption | exact rfl); (case F => k_asm); (case N => k_asm); (case hv => k_mem); (case hp => k_mem); (case hd => assumption); (case hn => omega))
  k_with "z:compareOp In str ref" => ((k_dflt (apply in_strs; (case N => k_asm); (case hm => k_mem); (case hi => assumption))))
  k_with "z:compareOp NotIn str ref" => ((k_dflt (apply notin_strs; (case N => k_asm); (case hm => k_mem); (case hi => assumption))))
  k_with "z:compareOp In int ref" => ((k_dflt (apply in_nats; (case N => k_asm); (case hm => k_mem); (case hi => assumption))))
  k_with "z:compareOp NotIn int ref" => ((k_dflt (apply notin_nats; (case N => k_asm); (case hm => k_mem); (case hi => assumption))))
  k_with "z_index_strs_call_builtin_list_index" => (apply index_strs; (case N => k_asm); (case hm => k_mem); (case hi => assumption); (case hx => assumption); (case hz => omega))
  k_with "z_kmk_slice_lit_subscriptTail_Name_Slice_ref_ref" => ((with_reducible show wpAny _ _ (subscriptTail _ (PySem.Expr.Slice _ _ none _) (Value.ref _) (Value.ref _)) _ _ _); apply kmk_slice_lit; (case F => k_asm); (case N => k_asm); (case hl => kmk_list); (case pl => kmk_part); (case pu => kmk_part); (case e => exact slice_take _ _); (case hs => with_unfolding_all rfl); (case ht => kmk_pure); (case hz => (rw [List.size_toArray, sizeLine_eq]; omega)))
  k_with "z:compareOp In int ref" => ((k_dflt (apply in_pa; (case N => k_asm); (case hm => k_mem); (case hd => assumption); (case hp => assumption); (case lo => assumption))))
  k_with "z_in_view_compareOp_In_str_ref" => (apply in_view; (case hh => first | assumption | exact rfl); (case F => k_asm); (case N => k_asm); (case hv => k_mem); (case hp => k_mem); (case hd => assumption); (case hpa => assumption))
  k_with "z_set_pa_setItem_ref_int" => (apply set_pa; (case F => k_asm); (case N => k_asm); (case U => k_updF); (case hd => assumption); (case hp => assumption); (case hk => assumption); (case hsz => omega))
  k_with "z:joinParts" => (((first | (with_reducible show wpAny _ _ (joinParts _ []) _ _ _) | (with_reducible show wpAny _ _ (joinParts _ (evalEach [] _)) _ _ _)); k_dflt ((try refine joinParts_nilE ?_); refine joinParts_nil ?_ ?_; rotate_left; exact argText_len (by omega))))
  exact trivial
abbrev psA (lf pd : Addr) : List (Str × Value) := [(Str.ofString "formals", .ref lf), (Str.ofString "places", .ref pd)]
section
variable {w : World} {mean : ExcName → Option Value} {mg mb : Str → Option Value} {base : Heap} {envs : List Env} {s : Shared} {A₀ A : Around} {prog : Program} {lf lt : Addr} {fv tv : List Value} {nf nt : Nat} {ts : List Tag} {fs : List Str}
theorem due_ph1 {oc : Value} {od0 : Option Addr} {osl : Array (Option Value)} {name qual : Str} {params : Arguments} {s0 s1 : Stmt} {srest : List Stmt} {scope : Scope} {dV kV doc pm cdv ct : Value} {an : Option Addr}
   (hst : (hd.heap_39 w.params).lookup 150 = some ⟨oc, od0, .func (fnX name qual params (s0 :: s1 :: srest) scope [] dV kV doc pm an cdv ct), osl⟩)
   {g : Heap} {L' : Addr} {m₀ : Str → Option Value} {pd : Addr} {od oN oK oT : Obj} {v1 : Option Value} {E : Value → Shared → Prop} {Q : Flow → Shared → Prop} {dp un : Nat} {gd : Option (List Code)} (hA : A = (Ar dp un gd envs).deeper (envOfC qual scope L' 150 cdv)) (hun : un + 20 * 6 < cLine)
   (X' : (hd.heap_39 w.params).In g) (T' : Top hd.view_39 (looseW hd.view_39 [Str.ofString "match_names", Str.ofString "take"]) mean mg mb g)
   (hh0 : A.handled = none) (hE : PassesOwn (model prog w) A (envOfC qual scope L' 150 cdv) E)
   (F0 : Fr g L' s.heap (kstB m₀ (psA lf pd)))
   (N0 : News g L' s.heap [(pd, od), (L' + 1 + 1 + 1, oK), (L' + 1 + 1, oN), (L' + 1, oT), (lf, PySem.W.listOf fv.toArray nf), (lt, PySem.W.listOf tv.toArray nt)])
   (hf : StrsAre fv fs) (ht : TagsAre tv ts) (hq : ts.length ≤ 10) (hr : fs.length ≤ 10) (hfn : ∀ f ∈ fs, f.length ≤ 10) (htag : ∀ x, some x ∈ ts → x.length ≤ 10) (hnd : fs.Nodup)
   (hd0 : od.IsDictOf (PySem.strKind prog w) []) (hsm : (pd == sysModules) = false) (dT : oT.data = .cell (some (.ref lt))) (dN : oN.data = .cell v1)
   (hn : pd ≠ L' + 1 + 1 + 1 ∧ pd ≠ L' + 1 + 1 ∧ pd ≠ L' + 1 ∧ pd ≠ lf ∧ pd ≠ lt) (hn2 : L' + 1 + 1 ≠ lf ∧ L' + 1 + 1 ≠ lt)
   (kr : ∀ v h tk word, foldE (due1Step ts) fs [] = .error word → ∀ m' t tw rd news od1 kvs1 pl1, v = .ref t → Fr g L' h m' → News g L' h news → od1.IsDictOf (PySem.strKind prog w) kvs1 → PlAre kvs1 pl1 → (t, ({ cls := .type "tuple", data := .seq #[.str word tw, .ref pd, .ref rd] 0} : Obj)) ∈ news → (pd, od1) ∈ news → (rd, LCg.lst []) ∈ news → (lf, PySem.W.listOf fv.toArray nf) ∈ news → (lt, PySem.W.listOf tv.toArray nt) ∈ news → Q (.ret v) { s with heap := h, toks := tk })
   (k : ∀ m' h tk od1 kvs1 pl1 oN', foldE (due1Step ts) fs [] = .ok pl1 → od1.IsDictOf (PySem.strKind prog w) kvs1 → PlAre kvs1 pl1 → (∃ v, oN'.data = .cell v) → Fr g L' h (kstB m' (psA lf pd)) →
     News g L' h [(pd, od1), (L' + 1 + 1 + 1, oK), (L' + 1 + 1, oN'), (L' + 1, oT), (lf, PySem.W.listOf fv.toArray nf), (lt, PySem.W.listOf tv.toArray nt)] → Q .next { s with heap := h, toks := tk }) :
   wpAny (model prog w) A (exec s1 (envOfC qual scope L' 150 cdv)) Q E s := by
  refine with_lit (x := (hd.heap_39 w.params).lookup 150) (by k_is) fun e => ?_
  replace e := hst.symm.trans e
  clear hst
  cases e
  subst hA
  have htl := ht.length
  have hfl := hf.length
  refine hide fun P_ k_ => ?_
  obtain ⟨_, _, _, _, _⟩ := hn
  obtain ⟨_, _⟩ := hn2
  refine k_ ?_; clear k_ P_
  refine wpAny_For ?_
  k_steps
  unfold Wall
  refine loop_listT (vs := fv) (nn := nf) (fun c : S1 => [(pd, c.od), (L' + 1 + 1 + 1, oK), (L' + 1 + 1, c.oN), (L' + 1, oT), (lf, PySem.W.listOf fv.toArray nf), (lt, PySem.W.listOf tv.toArray nt)]) (fun _ => psA lf pd) [Str.ofString "same"]
    (fun i c => c.od.IsDictOf (PySem.strKind prog w) c.kvs ∧ PlAre c.kvs c.pl ∧ c.oN.data = .cell c.v0 ∧ foldE (due1Step ts) (fs.take i) [] = .ok c.pl) ⟨od, [], [], oN, _⟩ hE hh0 (fun c => by simp) F0 N0 ?_ ⟨hd0, .nil, dN, rfl⟩ ?_ ?_
  · repeat (first | with_reducible exact allP_nil | refine allP_cons (by exact rfl) ?_)
  · rintro ⟨od1, kvs1, pl1, oN1, v1⟩ i v u h tk I oI hv hI hq_ F N
    refine hide fun P_ k_ => ?_
    obtain ⟨hd1, hp1, hN1, hfo⟩ := hq_
    obtain ⟨nm, tn, rfl, hnm⟩ := hf.item i v hv
    refine k_ ?_; clear k_ P_
    have hi10 : i < fs.length := (List.getElem?_eq_some_iff.mp hnm).1
    (try dsimp only at *)
    clear F0 N0
    have lI := allNe_of hI
    simp only [AllNe, and_true] at lI
    refine hide fun P_ k_ => ?_
    obtain ⟨_, _, _, _, _, _⟩ := lI
    refine k_ ?_; clear k_ P_
    k_steps
    unfold Wall
    (rename Fr _ _ _ _ => F6)
    (rename News _ _ _ _ => N6)
    rename_i oN2 hN2
    refine LCt.Assign_ListComp_T (F₀ := F6) (by rfl) (by with_unfolding_all rfl) (by with_unfolding_all rfl) (by decide) (by rfl) (by decide) (by rfl) (by rfl) (by rfl) ?_
    k_steps
    unfold Wall
    (try clear F6); (try clear N6)
    (rename Fr _ _ _ _ => F6)
    (rename News _ _ _ _ => N6)
    (rename IsRange _ _ _ _ _ _ _ _ => R2)
    refine LCt.CompSrcT.range (n := ts.length) hh0 F6 N6 R2 (small_zero (by omega)) (by simpa using rangeSize_nat 0 ts.length) (by rw [sizeLine_eq]; omega) fun g' => ?_
    refine compT_inv (fun _ : Unit => [(I, oI), (pd, od1), (L' + 1 + 1 + 1, oK), (L' + 1 + 1, oN2), (L' + 1, oT), (lf, PySem.W.listOf fv.toArray nf), (lt, PySem.W.listOf tv.toArray nt)]) (fun j ys _ => IntsAre ys (natsI (sameTo ts nm j))) () (by exact .nil) ?_ ?_
    · rintro j ys ⟨⟩ v I2 oI2 C oC D m₂ h tk2 E' hj ⟨t0, rfl⟩ hys hC hx F3 N3 off ne
      (try dsimp only at *)
      (try clear F6); (try clear N6); (try clear R2)
      rw [Int.zero_add] at hx
      k_steps
      · unfold Wall
        (rename (nm != _) = true => hx1)
        have hx1 : nm ≠ dots := by simpa [dots] using hx1
        (rename (_ == nm) = true => hx2)
        (rename ts[j]? = _ => he)
        (rename Fr _ _ _ _ => F4)
        (rename News _ _ _ _ => N4)
        refine LCg.CompEnd.intro F4 N4 _ (fun p hp => hp) off trivial ⟨(), rfl, ?_⟩
        rw [sameTo_hit hx1 he hx2, natsI_snoc]
        exact intsAre_snoc hys
      · unfold Wall
        (rename (_ == nm) = false => hx2)
        (rename ts[j]? = _ => he)
        (rename Fr _ _ _ _ => F4)
        (rename News _ _ _ _ => N4)
        refine LCg.CompEnd.intro F4 N4 _ (fun p hp => hp) off trivial ⟨(), rfl, ?_⟩
        rw [sameTo_miss (.inr (tag_ne he hx2))]
        exact hys
      · unfold Wall
        (rename ts[j]? = _ => he)
        (rename Fr _ _ _ _ => F4)
        (rename News _ _ _ _ => N4)
        refine LCg.CompEnd.intro F4 N4 _ (fun p hp => hp) off trivial ⟨(), rfl, ?_⟩
        rw [sameTo_miss (.inr (tag_ne0 he))]
        exact hys
      · unfold Wall
        (rename (nm != _) = false => hx1)
        have hx1 : nm = dots := by simpa [dots] using hx1
        (rename Fr _ _ _ _ => F4)
        (rename News _ _ _ _ => N4)
        refine LCg.CompEnd.intro F4 N4 _ (fun p hp => hp) off trivial ⟨(), rfl, ?_⟩
        rw [sameTo_miss (.inl hx1)]
        exact hys
    · rintro ys ⟨⟩ hys D h tk2 F3 N3 off
      (try dsimp only at *)
      (try clear F6); (try clear N6); (try clear R2)
      have hyl : ys.length = (sameTo ts nm ts.length).length := by rw [hys.length, List.length_map]
      have hsl := sameTo_len (ts := ts) (nm := nm) (n := ts.length)
      have hh : hasP pl1 nm = false := hasP_false fun p hp e => nodup_take hnd hnm (e ▸ (due1_keys hfo).1 p hp)
      have hpl1 := (due1_keys hfo).2.2
      refine hide fun P_ k_ => ?_
      obtain ⟨_, _, _, _, _, _, _⟩ := off
      refine k_ ?_; clear k_ P_
      have hnml : nm.length ≤ 1000 := Nat.le_trans (hfn nm (List.mem_of_getElem? hnm)) (by omega)
      k_steps
      · (rename 1 < _ => hlt)
        (rename Fr _ _ _ _ => F4)
        (rename News _ _ _ _ => N4)
        refine kr _ _ _ _ (foldE_take_err hnm hfo (due1_err (by omega))) _ _ _ _ _ _ _ _ rfl F4 N4 hd1 hp1 (.head _) ?_ (.tail _ (.head _)) ?_ ?_ <;> repeat (first | exact List.Mem.head _ | apply List.Mem.tail)
      · (rename decide (_ = []) = true => hne0)
        (rename Fr _ _ _ _ => F4)
        (rename News _ _ _ _ => N4)
        have hne1 : sameTo ts nm ts.length = [] := by
          have := of_decide_eq_true hne0
          simpa using this
        refine LoopEndT.fin ⟨od1, kvs1, pl1, oN2, _⟩ (.inl rfl) F4 N4 ?_ ?_ (off_of hI rfl) (by repeat (first | with_reducible exact allP_nil | refine allP_cons (by exact rfl) ?_)) ?_ ⟨hd1, hp1, hN2, ?_⟩
        · first | ((repeat (first | (with_reducible exact sub_nil) | (with_reducible exact sub_refl) | (with_reducible (refine sub_cons ?_ ?_; focus ((repeat (first | exact List.mem_cons_self | refine List.mem_cons_of_mem _ ?_)); done))) | (with_reducible refine sub_tail ?_))); done) | ((repeat (first | (exact sub_nil) | (exact sub_refl) | ((refine sub_cons ?_ ?_; focus ((repeat (first | exact List.mem_cons_self | refine List.mem_cons_of_mem _ ?_)); done))) | (refine sub_tail ?_))); done)
        · exact .tail _ (.tail _ (.head _))
        · intro z h1 h3
          have h4 : z ≠ Str.ofString "same" := by simpa using h3
          (try dsimp only)
          rw [if_neg h4]
          exact kst_h5T z h1 h3
        · rw [foldE_take_succ hnm hfo, due1_nil hne1]
      · unfold Wall
        (rename Fr _ _ _ _ => F4)
        (rename News _ _ _ _ => N4)
        (rename decide (_ = []) = false => hne0)
        (rename ¬ (1 < _) => hlt)
        have hne1 : sameTo ts nm ts.length ≠ [] := fun e => by rw [e] at hne0; simp at hne0
        have hpos : 0 < (sameTo ts nm ts.length).length := List.length_pos_iff.mpr hne1
        refine item_int N4 (.tail _ (.head _)) hys (by omega) (by omega) (by rw [List.length_map]; omega) fun x' t' e' => ?_
        obtain ⟨j0, hj0⟩ : ∃ j0, (sameTo ts nm ts.length)[0]? = some j0 := ⟨_, List.getElem?_eq_getElem hpos⟩
        have hx' : x' = (j0 : Int) := by
          rw [List.getElem?_map, show ((0 : Int)).toNat = 0 from rfl, hj0] at e'
          cases e'; rfl
        subst hx'
        k_steps
        (rename PlAre _ (_ ++ _) => hp2)
        (rename Obj.IsDictOf _ _ _ => hd2)
        (rename Fr _ _ _ _ => F5)
        (rename News _ _ _ _ => N5)
        rename_i o2 kvs2
        refine LoopEndT.fin ⟨o2, kvs2, pl1 ++ [(nm, j0)], oN2, _⟩ (.inl rfl) F5 N5 ?_ ?_ (off_of hI rfl) (by repeat (first | with_reducible exact allP_nil | refine allP_cons (by exact rfl) ?_)) ?_ ⟨hd2, hp2, hN2, ?_⟩
        · first | ((repeat (first | (with_reducible exact sub_nil) | (with_reducible exact sub_refl) | (with_reducible (refine sub_cons ?_ ?_; focus ((repeat (first | exact List.mem_cons_self | refine List.mem_cons_of_mem _ ?_)); done))) | (with_reducible refine sub_tail ?_))); done) | ((repeat (first | (exact sub_nil) | (exact sub_refl) | ((refine sub_cons ?_ ?_; focus ((repeat (first | exact List.mem_cons_self | refine List.mem_cons_of_mem _ ?_)); done))) | (refine sub_tail ?_))); done)
        · exact .tail _ (.tail _ (.head _))
        · intro z h1 h3
          have h4 : z ≠ Str.ofString "same" := by simpa using h3
          (try dsimp only)
          rw [if_neg h4]
          exact kst_h5T z h1 h3
        · rw [foldE_take_succ hnm hfo, due1_one (by omega) hj0]
  · rintro ⟨od1, kvs1, pl1, oN1, v2⟩ u h tk hq_ F N
    refine hide fun P_ k_ => ?_
    obtain ⟨hd1, hp1, hN1, hfo⟩ := hq_
    refine k_ ?_; clear k_ P_
    (try dsimp only at *)
    rw [hfl, List.take_length] at hfo
    exact k _ h tk od1 kvs1 pl1 oN1 hfo hd1 hp1 ⟨_, hN1⟩ F N
end
theorem cleanDU235 : True := by
  w_top off
  k_with_none
  exact trivial
theorem fillDU2 : (PySem.Challenge.rw_no0499_01 = PySem.Challenge.rw_no0499_01) ∧ hd.heap_39 = hd.heap_39 := by
  k_fill
  exact ⟨rfl, rfl⟩
theorem cleanDU236 : True := by
  k_with "z_k_ne" => (((try dsimp only); first | assumption | exact Ne.symm (by assumption)))
  k_with "z:exec For Name Call cons nil" => (refine wall ?_)
  k_with "z:exec For Name Attribute cons nil" => (refine wall ?_)
  k_with "z:exec For Name Name cons nil" => (refine wall ?_)
  k_with "z:pyIter ref" => (refine wall ?_)
  k_with "z:call builtin:len" => (((with_reducible show wpAny _ _ (call (Value.builtin _) [Value.ref _]) _ _ _); k_dflt (apply len_led; (case N => k_asm); (case hm => k_mem); (case hn => k_asm); (case hs => omega))))
  k_with "z_item_tag_subscriptTail_Name_Name_ref_int" => ((with_reducible show wpAny _ _ (subscriptTail _ _ (Value.ref _) (Value.int _ _)) _ _ _); apply item_tag; (case hs => with_unfolding_all rfl); (case N => k_asm); (case hm => k_mem); (case ht => assumption); (case h0 => omega); (case hhi => omega); (case hk => omega))
  k_with "z_item_int_subscriptTail_Name_Name_ref_int" => ((with_reducible show wpAny _ _ (subscriptTail _ _ (Value.ref _) (Value.int _ _)) _ _ _); apply item_int; (case hs => with_unfolding_all rfl); (case N => k_asm); (case hm => k_mem); (case ht => assumption); (case h0 => omega); (case hhi => omega); (case hk => omega))
  k_with "z:compareOp In str ref" => ((k_dflt (apply in_pl; (case N => k_asm); (case hm => k_mem); (case hd => assumption); (case hp => assumption); (case lo => assumption))))
  k_with "z:compareOp NotIn str ref" => ((k_dflt (apply notin_pl; (case N => k_asm); (case hm => k_mem); (case hd => assumption); (case hp => assumption); (case lo => assumption))))
  k_with "z_set_pl_setItem_ref_str" => (apply set_pl; (case F => k_asm); (case N => k_asm); (case U => k_updF); (case hd => assumption); (case hp => assumption); (case hk => assumption); (case hsz => omega))
  k_with "z:exec Raise some none" => ((k_dflt (apply raise_stmt; (case hh => exact rfl); (case G => assumption))))
  k_with "z:call ref" => (((with_reducible show wpAny _ _ (call (Value.ref 44) [_]) _ _ _); k_dflt (apply refusal_raise; (case G => assumption); (case kE => assumption); (case B => assumption); (case F => k_asm); (case N => k_asm); (case X => assumption); (case rm => (exact RoomUp.use (by assumption) (by omega))); (case hf => exact rfl); (case hk => exact rfl); refine wall ?_)))
  k_with "z:joinParts" => (((first | (with_reducible show wpAny _ _ (joinParts _ []) _ _ _) | (with_reducible show wpAny _ _ (joinParts _ (evalEach [] _)) _ _ _)); k_dflt ((try refine joinParts_nilE ?_); refine joinParts_nil ?_ ?_; rotate_left; exact argText_len (by omega))))
  k_with "z:eval ListComp" => (refine wall ?_)
  k_with "z:CompSrcT" => (refine wall ?_)
  k_with "z:CompSrc" => (refine wall ?_)
  k_with "z:CompEnd" => (refine wall ?_)
  k_with "z:FinE" => (refine wall ?_)
  k_with "z:exec Assign cons ListComp" => (refine wall ?_)
  k_with "z:FinA" => (refine wall ?_)
  k_with "z:subscriptTail Name Constant ref int" => (refine wall ?_)
  k_with "z_item_tagN_subscriptTail_Name_Name_ref_int" => ((with_reducible show wpAny _ _ (subscriptTail _ _ (Value.ref _) (Value.int _ _)) _ _ _); apply item_tagN; (case hs => with_unfolding_all rfl); (case N => k_asm); (case hm => k_mem); (case ht => assumption); (case e => assumption); (case hb => omega))
  k_with "z_item_tagS_subscriptTail_Name_Name_ref_int" => ((with_reducible show wpAny _ _ (subscriptTail _ _ (Value.ref _) (Value.int _ _)) _ _ _); apply item_tagS; (case hs => with_unfolding_all rfl); (case N => k_asm); (case hm => k_mem); (case ht => assumption); (case e => assumption); (case hb => omega))
  k_with "z:eval IfExp" => (refine wall ?_)
  k_with "z_kdl_list_valuesP_call_type_list" => ((with_reducible show wpAny _ _ (call (Value.type "list") [Value.ref _]) _ _ _); apply kdl_list_valuesP (knd := PySem.strKind _ _); (case hh => first | assumption | exact rfl); (case F => k_asm); (case N => k_asm); (case hv => k_mem); (case hp => k_mem); (case hd => assumption); (case hn => omega))
  k_with "z:compareOp In str ref" => ((k_dflt (apply in_strs; (case N => k_asm); (case hm => k_mem); (case hi => assumption))))
  k_with "z:compareOp NotIn str ref" => ((k_dflt (apply notin_strs; (case N => k_asm); (case hm => k_mem); (case hi => assumption))))
  k_with "z:compareOp In int ref" => ((k_dflt (apply in_nats; (case N => k_asm); (case hm => k_mem); (case hi => assumption))))
  k_with "z:compareOp NotIn int ref" => ((k_dflt (apply notin_nats; (case N => k_asm); (case hm => k_mem); (case hi => assumption))))
  k_with "z_index_strs_call_builtin_list_index" => (apply index_strs; (case N => k_asm); (case hm => k_mem); (case hi => assumption); (case hx => assumption); (case hz => omega))
  k_with "z_kmk_slice_lit_subscriptTail_Name_Slice_ref_ref" => ((with_reducible show wpAny _ _ (subscriptTail _ (PySem.Expr.Slice _ _ none _) (Value.ref _) (Value.ref _)) _ _ _); apply kmk_slice_lit; (case F => k_asm); (case N => k_asm); (case hl => kmk_list); (case pl => kmk_part); (case pu => kmk_part); (case e => exact slice_take _ _); (case hs => with_unfolding_all rfl); (case ht => kmk_pure); (case hz => (rw [List.size_toArray, sizeLine_eq]; omega)))
  k_with "z:compareOp In int ref" => ((k_dflt (apply in_pa; (case N => k_asm); (case hm => k_mem); (case hd => assumption); (case hp => assumption); (case lo => assumption))))
  k_with "z_in_view_compareOp_In_str_ref" => (apply in_view; (case hh => first | assumption | exact rfl); (case F => k_asm); (case N => k_asm); (case hv => k_mem); (case hp => k_mem); (case hd => assumption); (case hpa => assumption))
  k_with "z_set_pa_setItem_ref_int" => (apply set_pa; (case F => k_asm); (case N => k_asm); (case U => k_updF); (case hd => assumption); (case hp => assumption); (case hk => assumption); (case hsz => omega))
  k_with "z:joinParts" => (((first | (with_reducible show wpAny _ _ (joinParts _ []) _ _ _) | (with_reducible show wpAny _ _ (joinParts _ (evalEach [] _)) _ _ _)); k_dflt ((try refine joinParts_nilE ?_); refine joinParts_nil ?_ ?_; rotate_left; exact argText_len (by omega))))
  exact trivial
section
variable {w : World} {mean : ExcName → Option Value} {mg mb : Str → Option Value} {base : Heap} {envs : List Env} {s : Shared} {A₀ A : Around} {prog : Program} {lf lt : Addr} {fv tv : List Value} {nf nt : Nat} {ts : List Tag} {fs : List Str}
theorem due_ph2 {oc : Value} {od0 : Option Addr} {osl : Array (Option Value)} {name qual : Str} {params : Arguments} {s0 s1 s2 s3 s4 s5 : Stmt} {srest : List Stmt} {scope : Scope} {dV kV doc pm cdv ct : Value} {an : Option Addr}
   (hst : (hd.heap_39 w.params).lookup 150 = some ⟨oc, od0, .func (fnX name qual params (s0 :: s1 :: s2 :: s3 :: s4 :: s5 :: srest) scope [] dV kV doc pm an cdv ct), osl⟩)
   {g : Heap} {L' : Addr} {m₀ : Str → Option Value} {pt pd ah whA : Addr} {pod od1 oN oK oT : Obj} {kvs1 : List (Str × Value)} {pl1 : Pl} {av : List Value} {na whC : Nat} {v1 : Option Value} {E : Value → Shared → Prop} {Q : Flow → Shared → Prop}
   (X' : (hd.heap_39 w.params).In g) (T' : Top hd.view_39 (looseW hd.view_39 [Str.ofString "match_names", Str.ofString "take"]) mean mg mb g)
   (hh : A.handled = none) (hE : PassesOwn (model prog w) A (envOfC qual scope L' 150 cdv) E)
   (F0 : Fr g L' s.heap (kstB m₀ (psD lf ah pd whA pt)))
   (N0 : News g L' s.heap [(pt, pod), (ah, PySem.W.listOf av.toArray na), (whA, PySem.W.listOf (kvs1.map (·.2)).toArray whC), (pd, od1), (L' + 1 + 1 + 1, oK), (L' + 1 + 1, oN), (L' + 1, oT), (lf, PySem.W.listOf fv.toArray nf), (lt, PySem.W.listOf tv.toArray nt)])
   (hf : StrsAre fv fs) (ht : TagsAre tv ts) (hq : ts.length ≤ 10) (hr : fs.length ≤ 10) (hfn : ∀ f ∈ fs, f.length ≤ 10) (htag : ∀ x, some x ∈ ts → x.length ≤ 10)
   (hav : StrsAre av (ahead fs)) (hd1 : od1.IsDictOf (PySem.strKind prog w) kvs1) (hp1 : PlAre kvs1 pl1) (hsm : (pd == sysModules) = false) (hpm : (pt == sysModules) = false) (hpd : pod.IsDictOf (PySem.intKind prog w) [])
   (dT : oT.data = .cell (some (.ref lt))) (hN : oN.data = .cell v1)
   (hn : pt ≠ ah ∧ pt ≠ whA ∧ pt ≠ pd ∧ pt ≠ L' + 1 + 1 + 1 ∧ pt ≠ L' + 1 + 1 ∧ pt ≠ L' + 1 ∧ pt ≠ lf ∧ pt ≠ lt) (hn2 : L' + 1 + 1 ≠ ah ∧ L' + 1 + 1 ≠ whA ∧ L' + 1 + 1 ≠ pd ∧ L' + 1 + 1 ≠ lf ∧ L' + 1 + 1 ≠ lt)
   (kr : ∀ v h tk word, foldE (due2Name ts pl1) (ahead fs) [] = .error word → ∀ m' t tw rd news, v = .ref t → Fr g L' h m' → News g L' h news → (t, ({ cls := .type "tuple", data := .seq #[.str word tw, .ref pd, .ref rd] 0} : Obj)) ∈ news → (pd, od1) ∈ news → (rd, LCg.lst []) ∈ news → (lf, PySem.W.listOf fv.toArray nf) ∈ news → (lt, PySem.W.listOf tv.toArray nt) ∈ news → Q (.ret v) { s with heap := h, toks := tk })
   (k : ∀ m' h tk pod' kvs' pa oN', foldE (due2Name ts pl1) (ahead fs) [] = .ok pa → pod'.IsDictOf (PySem.intKind prog w) kvs' → PaAre kvs' pa → 
     Fr g L' h (kstB m' (psD lf ah pd whA pt)) →
     (∃ v, oN'.data = .cell v) → News g L' h [(pt, pod'), (ah, PySem.W.listOf av.toArray na), (whA, PySem.W.listOf (kvs1.map (·.2)).toArray whC), (pd, od1), (L' + 1 + 1 + 1, oK), (L' + 1 + 1, oN'), (L' + 1, oT), (lf, PySem.W.listOf fv.toArray nf), (lt, PySem.W.listOf tv.toArray nt)] → Q .next { s with heap := h, toks := tk }) :
   wpAny (model prog w) A (exec s5 (envOfC qual scope L' 150 cdv)) Q E s := by
  refine with_lit (x := (hd.heap_39 w.params).lookup 150) (by k_is) fun e => ?_
  replace e := hst.symm.trans e
  clear hst
  cases e
  have hvl := hav.length
  have htl := ht.length
  have hfl := hf.length
  have hwh := plAre_vals hp1
  have hal : (ahead fs).length ≤ fs.length := (List.takeWhile_sublist _).length_le
  have hap : ∀ f ∈ ahead fs, f ∈ fs := fun f hf => (List.takeWhile_sublist _).subset hf
  refine hide fun P_ k_ => ?_
  obtain ⟨_, _, _, _, _, _, _, _⟩ := hn
  obtain ⟨_, _, _, _, _⟩ := hn2
  refine k_ ?_; clear k_ P_
  refine wpAny_For ?_
  k_steps
  unfold Wall
  refine loop_listT (vs := av) (nn := na) (fun c : S2 => [(pt, c.od), (ah, PySem.W.listOf av.toArray na), (whA, PySem.W.listOf (kvs1.map (·.2)).toArray whC), (pd, od1), (L' + 1 + 1 + 1, oK), (L' + 1 + 1, c.oN), (L' + 1, oT), (lf, PySem.W.listOf fv.toArray nf), (lt, PySem.W.listOf tv.toArray nt)]) (fun _ => (psD lf ah pd whA pt)) [Str.ofString "at"]
    (fun i c => c.od.IsDictOf (PySem.intKind prog w) c.kvs ∧ PaAre c.kvs c.pa ∧ c.oN.data = .cell c.v0 ∧ foldE (due2Name ts pl1) ((ahead fs).take i) [] = .ok c.pa) ⟨pod, [], [], oN, _⟩ hE hh (fun c => by simp) F0 N0 ?_ ⟨hpd, .nil, hN, rfl⟩ ?_ ?_
  · repeat (first | with_reducible exact allP_nil | refine allP_cons (by exact rfl) ?_)
  · rintro ⟨od2, kvs2, pa2, oN2, v2⟩ i v u h tk I oI hv hI hq_ F N
    refine hide fun P_ k_ => ?_
    obtain ⟨hd2, hp2, hN2, hfo2⟩ := hq_
    obtain ⟨nm, tn, rfl, hnm⟩ := hav.item i v hv
    refine k_ ?_; clear k_ P_
    have hi10 : i < (ahead fs).length := (List.getElem?_eq_some_iff.mp hnm).1
    (try dsimp only at *)
    clear F0 N0
    have lI := allNe_of hI
    simp only [AllNe, and_true] at lI
    refine hide fun P_ k_ => ?_
    obtain ⟨_, _, _, _, _, _, _, _, _⟩ := lI
    refine k_ ?_; clear k_ P_
    have hnml : nm.length ≤ 1000 := Nat.le_trans (hfn nm (hap nm (List.mem_of_getElem? hnm))) (by omega)
    k_steps
    · (try dsimp only)
      (rename hasP pl1 nm = true => hh1)
      (rename Fr _ _ _ _ => F8)
      (rename News _ _ _ _ => N8)
      rename_i hc9 oN3 hN3 tk9
      refine LoopEndT.fin ⟨od2, kvs2, pa2, oN3, _⟩ (.inr rfl) F8 N8 ?_ (.head _) (off_of hI rfl) ?_ ?_ ⟨hd2, hp2, hN3, ?_⟩
      · intro p hp
        exact .tail _ hp
      · repeat (first | with_reducible exact allP_nil | refine allP_cons (by exact rfl) ?_)
      · exact kst_h5T
      · rw [foldE_take_succ hnm hfo2]
        unfold due2Name
        rw [if_pos hh1]
    · unfold Wall
      (rename hasP pl1 nm = false => hh1)
      (rename Fr _ _ _ _ => F8)
      (rename News _ _ _ _ => N8)
      rename_i hc9 oN3 hN3 tk9
      refine For_invV g rfl rfl ?_
      k_steps
      unfold Wall
      (try clear F8); (try clear N8)
      (rename Fr _ _ _ _ => F8)
      (rename News _ _ _ _ => N8)
      (rename IsRange _ _ _ _ _ _ _ _ => R2)
      have hpl2 := due2Take_len hfo2
      have hmul : i * ts.length ≤ 10 * 10 := Nat.mul_le_mul (by omega) hq
      simp only [List.length_nil, Nat.zero_add] at hpl2
      have hpl3 : pa2.length ≤ 100 := Nat.le_trans hpl2 hmul
      refine loop_range (n := ts.length) (fun c : S3 => [(I, oI), (pt, c.od), (ah, PySem.W.listOf av.toArray na), (whA, PySem.W.listOf (kvs1.map (·.2)).toArray whC), (pd, od1), (L' + 1 + 1 + 1, oK), (L' + 1 + 1, oN3), (L' + 1, oT), (lf, PySem.W.listOf fv.toArray nf), (lt, PySem.W.listOf tv.toArray nt)]) (fun _ => (psD lf ah pd whA pt)) []
        (fun j c => c.od.IsDictOf (PySem.intKind prog w) c.kvs ∧ PaAre c.kvs c.pa ∧ foldE (due2Step ts (pl1.map (·.2)) nm) (List.range j) pa2 = .ok c.pa) ⟨od2, kvs2, pa2⟩ hh R2 (small_zero (by omega)) F8 N8 ?_ ⟨hd2, hp2, rfl⟩ ?_ ?_
      · repeat (first | with_reducible exact allP_nil | refine allP_cons (by exact rfl) ?_)
      · rintro ⟨od3, kvs3, pa3⟩ j tj u h tk J oJ hj hJ hq_ F N
        refine hide fun P_ k_ => ?_
        obtain ⟨hd3, hp3, hfo3⟩ := hq_
        refine k_ ?_; clear k_ P_
        (try dsimp only at *)
        (try clear F8); (try clear N8); (try clear R2)
        have lJ := allNe_of hJ
        simp only [AllNe, and_true] at lJ
        refine hide fun P_ k_ => ?_
        obtain ⟨_, _, _, _, _, _, _, _, _, _⟩ := lJ
        refine k_ ?_; clear k_ P_
        have hpl4 := due2Range_len hfo3
        have hpl5 : pa3.length ≤ 1000 := by omega
        have hj1000 : j < 1000 := by omega
        obtain ⟨y, he⟩ : ∃ y, ts[j]? = some y := ⟨_, List.getElem?_eq_getElem hj⟩
        cases y with
        | none =>
          k_steps
          · (try dsimp only)
            (rename j ∈ _ => hjm)
            (rename Fr _ _ _ _ => F9)
            (rename News _ _ _ _ => N9)
            refine LoopEnd.fin ⟨od3, kvs3, pa3⟩ (.inr rfl) F9 N9 (fun p hp => .tail _ hp) (.head _) (off_of hJ rfl) ?_ kst_h5 ⟨hd3, hp3, ?_⟩
            · repeat (first | with_reducible exact allP_nil | refine allP_cons (by exact rfl) ?_)
            · rw [foldE_range_succ hfo3, due2_wh hjm]
          · (try dsimp only)
            (rename Fr _ _ _ _ => F9)
            (rename News _ _ _ _ => N9)
            refine LoopEnd.fin ⟨od3, kvs3, pa3⟩ (.inr rfl) F9 N9 (fun p hp => .tail _ hp) (.head _) (off_of hJ rfl) ?_ kst_h5 ⟨hd3, hp3, ?_⟩
            · repeat (first | with_reducible exact allP_nil | refine allP_cons (by exact rfl) ?_)
            · rw [foldE_range_succ hfo3, due2_miss (by rw [getD_tag he]; rfl)]
        | some x =>
          have hxl : x.length ≤ 10 := htag x (List.mem_of_getElem? he)
          k_steps
          · (try dsimp only)
            (rename j ∈ _ => hjm)
            (rename Fr _ _ _ _ => F9)
            (rename News _ _ _ _ => N9)
            refine LoopEnd.fin ⟨od3, kvs3, pa3⟩ (.inr rfl) F9 N9 (fun p hp => .tail _ hp) (.head _) (off_of hJ rfl) ?_ kst_h5 ⟨hd3, hp3, ?_⟩
            · repeat (first | with_reducible exact allP_nil | refine allP_cons (by exact rfl) ?_)
            · rw [foldE_range_succ hfo3, due2_wh hjm]
          · (try dsimp only)
            (rename (x == _) = true => hx1)
            (rename Fr _ _ _ _ => F9)
            (rename News _ _ _ _ => N9)
            refine LoopEnd.fin ⟨od3, kvs3, pa3⟩ (.inr rfl) F9 N9 (fun p hp => .tail _ hp) (.head _) (off_of hJ rfl) ?_ kst_h5 ⟨hd3, hp3, ?_⟩
            · repeat (first | with_reducible exact allP_nil | refine allP_cons (by exact rfl) ?_)
            · rw [foldE_range_succ hfo3, due2_miss (by rw [getD_tag he]; show ((x != emp) && _) = false; rw [show (x != emp) = !(x == emp) from rfl, show (x == emp) = true from hx1]; rfl)]
          · (try dsimp only)
            (rename (x == _) = false => hx1)
            (rename (Txt.slice _ _ _).length ≤ _ => hsl)
            (rename (Txt.slice _ _ _ != x) = _ => hx2)
            rw [slice_ne hsl] at hx2
            (rename Fr _ _ _ _ => F9)
            (rename News _ _ _ _ => N9)
            refine LoopEnd.fin ⟨od3, kvs3, pa3⟩ (.inr rfl) F9 N9 (fun p hp => .tail _ hp) (.head _) (off_of hJ rfl) ?_ kst_h5 ⟨hd3, hp3, ?_⟩
            · repeat (first | with_reducible exact allP_nil | refine allP_cons (by exact rfl) ?_)
            · rw [foldE_range_succ hfo3, due2_miss (by rw [getD_tag he]; show (_ && Txt.startswith nm x) = false; rw [show Txt.startswith nm x = false by simpa using hx2, Bool.and_false])]
          · (try dsimp only)
            (rename ¬ (j ∈ _) => hjm)
            (rename hasA pa3 j = true => hha)
            (rename (x == _) = false => hx1)
            (rename (Txt.slice _ _ _).length ≤ _ => hsl)
            (rename (Txt.slice _ _ _ != x) = _ => hx2)
            rw [slice_ne hsl] at hx2
            have hdh : dHit nm (ts.getD j none) = true := by
              rw [getD_tag he]
              show ((x != emp) && Txt.startswith nm x) = true
              rw [show (x != emp) = !(x == emp) from rfl, show (x == emp) = false from hx1, show Txt.startswith nm x = true by simpa using hx2]; rfl
            (rename Fr _ _ _ _ => F9)
            (rename News _ _ _ _ => N9)
            refine kr _ _ _ _ ?_ _ _ _ _ _ rfl F9 N9 (.head _) ?_ (.tail _ (.head _)) ?_ ?_
            · refine foldE_take_err hnm hfo2 ?_
              unfold due2Name
              rw [if_neg (by rw [hh1]; decide)]
              exact foldE_range_err hj hfo3 (due2_one hjm hdh hha)
            · repeat (first | exact List.Mem.head _ | apply List.Mem.tail)
            · repeat (first | exact List.Mem.head _ | apply List.Mem.tail)
            · repeat (first | exact List.Mem.head _ | apply List.Mem.tail)
          · (try dsimp only)
            (rename ¬ (j ∈ _) => hjm)
            (rename hasA pa3 j = false => hha)
            (rename hasN pa3 nm = true => hhn)
            (rename (x == _) = false => hx1)
            (rename (Txt.slice _ _ _).length ≤ _ => hsl)
            (rename (Txt.slice _ _ _ != x) = _ => hx2)
            rw [slice_ne hsl] at hx2
            have hdh : dHit nm (ts.getD j none) = true := by
              rw [getD_tag he]
              show ((x != emp) && Txt.startswith nm x) = true
              rw [show (x != emp) = !(x == emp) from rfl, show (x == emp) = false from hx1, show Txt.startswith nm x = true by simpa using hx2]; rfl
            (rename Fr _ _ _ _ => F9)
            (rename News _ _ _ _ => N9)
            refine kr _ _ _ _ ?_ _ _ _ _ _ rfl F9 N9 (.head _) ?_ (.tail _ (.head _)) ?_ ?_
            · refine foldE_take_err hnm hfo2 ?_
              unfold due2Name
              rw [if_neg (by rw [hh1]; decide)]
              exact foldE_range_err hj hfo3 (due2_dbl hjm hdh hha hhn)
            · repeat (first | exact List.Mem.head _ | apply List.Mem.tail)
            · repeat (first | exact List.Mem.head _ | apply List.Mem.tail)
            · repeat (first | exact List.Mem.head _ | apply List.Mem.tail)
          · (try dsimp only)
            (rename ¬ (j ∈ _) => hjm)
            (rename hasA pa3 j = false => hha)
            (rename hasN pa3 nm = false => hhn)
            (rename (x == _) = false => hx1)
            (rename (Txt.slice _ _ _).length ≤ _ => hsl)
            (rename (Txt.slice _ _ _ != x) = _ => hx2)
            rw [slice_ne hsl] at hx2
            have hdh : dHit nm (ts.getD j none) = true := by
              rw [getD_tag he]
              show ((x != emp) && Txt.startswith nm x) = true
              rw [show (x != emp) = !(x == emp) from rfl, show (x == emp) = false from hx1, show Txt.startswith nm x = true by simpa using hx2]; rfl
            (rename PaAre _ (_ ++ _) => hp9)
            (rename Obj.IsDictOf _ _ _ => hd9)
            (rename Fr _ _ _ _ => F9)
            (rename News _ _ _ _ => N9)
            rename_i o9 kvs9
            refine LoopEnd.fin ⟨o9, kvs9, pa3 ++ [(j, nm)]⟩ (.inl rfl) F9 N9 (fun p hp => ?_) ?_ (off_of hJ rfl) ?_ kst_h5 ⟨hd9, hp9, ?_⟩
            · exact .tail _ (.tail _ hp)
            · exact .tail _ (.head _)
            · repeat (first | with_reducible exact allP_nil | refine allP_cons (by exact rfl) ?_)
            · rw [foldE_range_succ hfo3, due2_ok hjm hdh hha hhn]
      · rintro ⟨od3, kvs3, pa3⟩ u3 h tk hq_ F N
        refine hide fun P_ k_ => ?_
        obtain ⟨hd3, hp3, hfo3⟩ := hq_
        refine k_ ?_; clear k_ P_
        (try dsimp only at *)
        (try clear F8); (try clear N8); (try clear R2)
        k_steps
        refine LoopEndT.fin ⟨od3, kvs3, pa3, oN3, _⟩ (.inl rfl) F N (fun p hp => .tail _ hp) (.head _) (off_of hI rfl) ?_ ?_ ⟨hd3, hp3, hN3, ?_⟩
        · repeat (first | with_reducible exact allP_nil | refine allP_cons (by exact rfl) ?_)
        · intro z h1 h3
          have h4 : z ≠ Str.ofString "at" := by simpa using h3
          (try dsimp only)
          rw [if_neg h4, kstB_off2 h1]
          exact kst_h5T z h1 h3
        · rw [foldE_take_succ hnm hfo2]
          unfold due2Name
          rw [if_neg (by rw [hh1]; decide)]
          exact hfo3
  · rintro ⟨od2, kvs2, pa2, oN2, v2⟩ u h tk hq_ F N
    refine hide fun P_ k_ => ?_
    obtain ⟨hd2, hp2, hN2, hfo2⟩ := hq_
    refine k_ ?_; clear k_ P_
    (try dsimp only at *)
    rw [hvl, List.take_length] at hfo2
    exact k _ h tk od2 kvs2 pa2 oN2 hfo2 hd2 hp2 F ⟨_, hN2⟩ N
end
theorem cleanDU337 : True := by
  w_top off
  k_with_none
  exact trivial
theorem fillDU3 : (PySem.Challenge.rw_no0499_01 = PySem.Challenge.rw_no0499_01) ∧ hd.heap_39 = hd.heap_39 := by
  k_fill
  exact ⟨rfl, rfl⟩
theorem cleanDU338 : True := by
  k_with "z_k_ne" => (((try dsimp only); first | assumption | exact Ne.symm (by assumption)))
  k_with "z:exec For Name Call cons nil" => (refine wall ?_)
  k_with "z:exec For Name Attribute cons nil" => (refine wall ?_)
  k_with "z:exec For Name Name cons nil" => (refine wall ?_)
  k_with "z:pyIter ref" => (refine wall ?_)
  k_with "z:call builtin:len" => (((with_reducible show wpAny _ _ (call (Value.builtin _) [Value.ref _]) _ _ _); k_dflt (apply len_led; (case N => k_asm); (case hm => k_mem); (case hn => k_asm); (case hs => omega))))
  k_with "z_item_tag_subscriptTail_Name_Name_ref_int" => ((with_reducible show wpAny _ _ (subscriptTail _ _ (Value.ref _) (Value.int _ _)) _ _ _); apply item_tag; (case hs => with_unfolding_all rfl); (case N => k_asm); (case hm => k_mem); (case ht => assumption); (case h0 => omega); (case hhi => omega); (case hk => omega))
  k_with "z_item_int_subscriptTail_Name_Name_ref_int" => ((with_reducible show wpAny _ _ (subscriptTail _ _ (Value.ref _) (Value.int _ _)) _ _ _); apply item_int; (case hs => with_unfolding_all rfl); (case N => k_asm); (case hm => k_mem); (case ht => assumption); (case h0 => omega); (case hhi => omega); (case hk => omega))
  k_with "z:compareOp In str ref" => ((k_dflt (apply in_pl; (case N => k_asm); (case hm => k_mem); (case hd => assumption); (case hp => assumption); (case lo => assumption))))
  k_with "z:compareOp NotIn str ref" => ((k_dflt (apply notin_pl; (case N => k_asm); (case hm => k_mem); (case hd => assumption); (case hp => assumption); (case lo => assumption))))
  k_with "z_set_pl_setItem_ref_str" => (apply set_pl; (case F => k_asm); (case N => k_asm); (case U => k_updF); (case hd => assumption); (case hp => assumption); (case hk => assumption); (case hsz => omega))
  k_with "z:exec Raise some none" => ((k_dflt (apply raise_stmt; (case hh => exact rfl); (case G => assumption))))
  k_with "z:call ref" => (((with_reducible show wpAny _ _ (call (Value.ref 44) [_]) _ _ _); k_dflt (apply refusal_raise; (case G => assumption); (case kE => assumption); (case B => assumption); (case F => k_asm); (case N => k_asm); (case X => assumption); (case rm => (exact RoomUp.use (by assumption) (by omega))); (case hf => exact rfl); (case hk => exact rfl); refine wall ?_)))
  k_with "z:joinParts" => (((first | (with_reducible show wpAny _ _ (joinParts _ []) _ _ _) | (with_reducible show wpAny _ _ (joinParts _ (evalEach [] _)) _ _ _)); k_dflt ((try refine joinParts_nilE ?_); refine joinParts_nil ?_ ?_; rotate_left; exact argText_len (by omega))))
  k_with "z:eval ListComp" => (refine wall ?_)
  k_with "z:CompSrcT" => (refine wall ?_)
  k_with "z:CompSrc" => (refine wall ?_)
  k_with "z:CompEnd" => (refine wall ?_)
  k_with "z:FinE" => (refine wall ?_)
  k_with "z:exec Assign cons ListComp" => (refine wall ?_)
  k_with "z:FinA" => (refine wall ?_)
  k_with "z:subscriptTail Name Constant ref int" => (refine wall ?_)
  k_with "z_item_tagN_subscriptTail_Name_Name_ref_int" => ((with_reducible show wpAny _ _ (subscriptTail _ _ (Value.ref _) (Value.int _ _)) _ _ _); apply item_tagN; (case hs => with_unfolding_all rfl); (case N => k_asm); (case hm => k_mem); (case ht => assumption); (case e => assumption); (case hb => omega))
  k_with "z_item_tagS_subscriptTail_Name_Name_ref_int" => ((with_reducible show wpAny _ _ (subscriptTail _ _ (Value.ref _) (Value.int _ _)) _ _ _); apply item_tagS; (case hs => with_unfolding_all rfl); (case N => k_asm); (case hm => k_mem); (case ht => assumption); (case e => assumption); (case hb => omega))
  k_with "z:eval IfExp" => (refine wall ?_)
  k_with "z_kdl_list_valuesP_call_type_list" => ((with_reducible show wpAny _ _ (call (Value.type "list") [Value.ref _]) _ _ _); apply kdl_list_valuesP (knd := PySem.strKind _ _); (case hh => first | assumption | exact rfl); (case F => k_asm); (case N => k_asm); (case hv => k_mem); (case hp => k_mem); (case hd => assumption); (case hn => omega))
  k_with "z:compareOp In str ref" => ((k_dflt (apply in_strs; (case N => k_asm); (case hm => k_mem); (case hi => assumption))))
  k_with "z:compareOp NotIn str ref" => ((k_dflt (apply notin_strs; (case N => k_asm); (case hm => k_mem); (case hi => assumption))))
  k_with "z:compareOp In int ref" => ((k_dflt (apply in_nats; (case N => k_asm); (case hm => k_mem); (case hi => assumption))))
  k_with "z:compareOp NotIn int ref" => ((k_dflt (apply notin_nats; (case N => k_asm); (case hm => k_mem); (case hi => assumption))))
  k_with "z_index_strs_call_builtin_list_index" => (apply index_strs; (case N => k_asm); (case hm => k_mem); (case hi => assumption); (case hx => assumption); (case hz => omega))
  k_with "z_kmk_slice_lit_subscriptTail_Name_Slice_ref_ref" => ((with_reducible show wpAny _ _ (subscriptTail _ (PySem.Expr.Slice _ _ none _) (Value.ref _) (Value.ref _)) _ _ _); apply kmk_slice_lit; (case F => k_asm); (case N => k_asm); (case hl => kmk_list); (case pl => kmk_part); (case pu => kmk_part); (case e => exact slice_take _ _); (case hs => with_unfolding_all rfl); (case ht => kmk_pure); (case hz => (rw [List.size_toArray, sizeLine_eq]; omega)))
  k_with "z:compareOp In int ref" => ((k_dflt (apply in_pa; (case N => k_asm); (case hm => k_mem); (case hd => assumption); (case hp => assumption); (case lo => assumption))))
  k_with "z_in_view_compareOp_In_str_ref" => (apply in_view; (case hh => first | assumption | exact rfl); (case F => k_asm); (case N => k_asm); (case hv => k_mem); (case hp => k_mem); (case hd => assumption); (case hpa => assumption))
  k_with "z_set_pa_setItem_ref_int" => (apply set_pa; (case F => k_asm); (case N => k_asm); (case U => k_updF); (case hd => assumption); (case hp => assumption); (case hk => assumption); (case hsz => omega))
  k_with "z:joinParts" => (((first | (with_reducible show wpAny _ _ (joinParts _ []) _ _ _) | (with_reducible show wpAny _ _ (joinParts _ (evalEach [] _)) _ _ _)); k_dflt ((try refine joinParts_nilE ?_); refine joinParts_nil ?_ ?_; rotate_left; exact argText_len (by omega))))
  k_with "z:subscriptTail Name Name ref int" => (refine wall ?_)
  exact trivial
section
variable {w : World} {mean : ExcName → Option Value} {mg mb : Str → Option Value} {base : Heap} {envs : List Env} {s : Shared} {A₀ A : Around} {prog : Program} {lf lt : Addr} {fv tv : List Value} {nf nt : Nat} {ts : List Tag} {fs : List Str}
theorem due_ph3 {oc : Value} {od0 : Option Addr} {osl : Array (Option Value)} {name qual : Str} {params : Arguments} {s0 s1 s2 s3 s4 s5 s6 : Stmt} {srest : List Stmt} {scope : Scope} {dV kV doc pm cdv ct : Value} {an : Option Addr}
   (hst : (hd.heap_39 w.params).lookup 150 = some ⟨oc, od0, .func (fnX name qual params (s0 :: s1 :: s2 :: s3 :: s4 :: s5 :: s6 :: srest) scope [] dV kV doc pm an cdv ct), osl⟩)
   {g : Heap} {L' : Addr} {m₀ : Str → Option Value} {pt pd ah whA : Addr} {pod od1 oN oK oT : Obj} {kvs1 : List (Str × Value)} {kvsP : List (Int × Value)} {pl1 : Pl} {pa : Pa} {av wv : List Value} {na whC : Nat} {E : Value → Shared → Prop} {Q : Flow → Shared → Prop}
   (X' : (hd.heap_39 w.params).In g) (T' : Top hd.view_39 (looseW hd.view_39 [Str.ofString "match_names", Str.ofString "take"]) mean mg mb g)
   (hh : A.handled = none) (hE : PassesOwn (model prog w) A (envOfC qual scope L' 150 cdv) E)
   (F0 : Fr g L' s.heap (kstB m₀ (psD lf ah pd whA pt)))
   (N0 : News g L' s.heap [(pt, pod), (ah, PySem.W.listOf av.toArray na), (whA, PySem.W.listOf wv.toArray whC), (pd, od1), (L' + 1 + 1 + 1, oK), (L' + 1 + 1, oN), (L' + 1, oT), (lf, PySem.W.listOf fv.toArray nf), (lt, PySem.W.listOf tv.toArray nt)])
   (hd1 : od1.IsDictOf (PySem.strKind prog w) kvs1) (hp1 : PlAre kvs1 pl1) (hpm : (pt == sysModules) = false) (hpd : pod.IsDictOf (PySem.intKind prog w) kvsP) (hpa : PaAre kvsP pa) (hok : PaOk ts pl1 pa) (hlen : pl1.length + pa.length ≤ 500)
   (hn : pd ≠ pt ∧ pd ≠ ah ∧ pd ≠ whA ∧ pd ≠ L' + 1 + 1 + 1 ∧ pd ≠ L' + 1 + 1 ∧ pd ≠ L' + 1 ∧ pd ≠ lf ∧ pd ≠ lt)
   (k : ∀ m' h tk od' kvs', od'.IsDictOf (PySem.strKind prog w) kvs' → PlAre kvs' (due3 pl1 pa) → Fr g L' h (kstB m' (psD lf ah pd whA pt)) →
     News g L' h [(pt, pod), (ah, PySem.W.listOf av.toArray na), (whA, PySem.W.listOf wv.toArray whC), (pd, od'), (L' + 1 + 1 + 1, oK), (L' + 1 + 1, oN), (L' + 1, oT), (lf, PySem.W.listOf fv.toArray nf), (lt, PySem.W.listOf tv.toArray nt)] → Q .next { s with heap := h, toks := tk }) :
   wpAny (model prog w) A (exec s6 (envOfC qual scope L' 150 cdv)) Q E s := by
  refine with_lit (x := (hd.heap_39 w.params).lookup 150) (by k_is) fun e => ?_
  replace e := hst.symm.trans e
  clear hst
  cases e
  refine hide fun P_ k_ => ?_
  obtain ⟨_, _, _, _, _, _, _, _⟩ := hn
  refine k_ ?_; clear k_ P_
  refine For_invV g rfl rfl ?_
  k_steps
  unfold Wall
  refine loop_keys (l := pt) (oD := pod) (kvs := kvsP) (fun c : S1 => [(pt, pod), (ah, PySem.W.listOf av.toArray na), (whA, PySem.W.listOf wv.toArray whC), (pd, c.od), (L' + 1 + 1 + 1, oK), (L' + 1 + 1, oN), (L' + 1, oT), (lf, PySem.W.listOf fv.toArray nf), (lt, PySem.W.listOf tv.toArray nt)]) (fun _ => psD lf ah pd whA pt) []
    (fun i c => c.od.IsDictOf (PySem.strKind prog w) c.kvs ∧ PlAre c.kvs c.pl ∧ c.pl = due3 pl1 (pa.take i)) ⟨od1, kvs1, pl1, oN, none⟩ hh (fun c => by simp) hpd hpm F0 N0 ?_ ⟨hd1, hp1, by simp [due3]⟩ ?_ ?_
  · repeat (first | with_reducible exact allP_nil | refine allP_cons (by exact rfl) ?_)
  · rintro ⟨od2, kvs2, pl2, oN2, v2⟩ i j tj y u h tk I oI hv hI hq_ F N
    refine hide fun P_ k_ => ?_
    obtain ⟨hd2, hp2, rfl⟩ := hq_
    obtain ⟨q, hq, hjq, _⟩ := hpa.get hv
    refine k_ ?_; clear k_ P_
    (try dsimp only at hjq)
    subst hjq
    have hnew := due3_new hok hq
    have hsz : (due3 pl1 (pa.take i)).length ≤ 1000 := by
      unfold due3
      rw [List.length_append, List.length_map, List.length_take]; omega
    (try dsimp only at *)
    clear F0 N0
    have lI := allNe_of hI
    simp only [AllNe, and_true] at lI
    refine hide fun P_ k_ => ?_
    obtain ⟨_, _, _, _, _, _, _, _, _⟩ := lI
    refine k_ ?_; clear k_ P_
    k_steps
    unfold Wall
    refine item_pa N (.tail _ (.head _)) hpd hpa hok.n1 hq fun t' => ?_
    k_steps
    (rename PlAre _ (_ ++ _) => hp9)
    (rename Obj.IsDictOf _ _ _ => hd9)
    (rename Fr _ _ _ _ => F9)
    (rename News _ _ _ _ => N9)
    rename_i o9 kvs9
    refine LoopEnd.fin ⟨o9, kvs9, _, oN, none⟩ (.inl rfl) F9 N9 (fun p hp => .tail _ hp) (.head _) (off_of hI rfl) ?_ kst_h5 ⟨hd9, hp9, ?_⟩
    · repeat (first | with_reducible exact allP_nil | refine allP_cons (by exact rfl) ?_)
    · exact (due3_succ hq).symm
  · rintro ⟨od2, kvs2, pl2, oN2, v2⟩ u h tk hq_ F N
    refine hide fun P_ k_ => ?_
    obtain ⟨hd2, hp2, rfl⟩ := hq_
    refine k_ ?_; clear k_ P_
    (try dsimp only at *)
    rw [hpa.length, List.take_length] at hp2
    refine k _ h tk od2 kvs2 hd2 hp2 (kstM (psD lf ah pd whA pt) F ?_) N
    repeat (first | with_reducible exact allP_nil | refine allP_cons (by exact rfl) ?_)
end
theorem cleanDU439 : True := by
  w_top off
  k_with_none
  exact trivial
theorem fillDU4 : (PySem.Challenge.rw_no0499_01 = PySem.Challenge.rw_no0499_01) ∧ hd.heap_39 = hd.heap_39 := by
  k_fill
  exact ⟨rfl, rfl⟩
theorem cleanDU440 : True := by
  k_with "z_k_ne" => (((try dsimp only); first | assumption | exact Ne.symm (by assumption)))
  k_with "z:exec For Name Call cons nil" => (refine wall ?_)
  k_with "z:exec For Name Attribute cons nil" => (refine wall ?_)
  k_with "z:exec For Name Name cons nil" => (refine wall ?_)
  k_with "z:pyIter ref" => (refine wall ?_)
  k_with "z:call builtin:len" => (((with_reducible show wpAny _ _ (call (Value.builtin _) [Value.ref _]) _ _ _); k_dflt (apply len_led; (case N => k_asm); (case hm => k_mem); (case hn => k_asm); (case hs => omega))))
  k_with "z_item_tag_subscriptTail_Name_Name_ref_int" => ((with_reducible show wpAny _ _ (subscriptTail _ _ (Value.ref _) (Value.int _ _)) _ _ _); apply item_tag; (case hs => with_unfolding_all rfl); (case N => k_asm); (case hm => k_mem); (case ht => assumption); (case h0 => omega); (case hhi => omega); (case hk => omega))
  k_with "z_item_int_subscriptTail_Name_Name_ref_int" => ((with_reducible show wpAny _ _ (subscriptTail _ _ (Value.ref _) (Value.int _ _)) _ _ _); apply item_int; (case hs => with_unfolding_all rfl); (case N => k_asm); (case hm => k_mem); (case ht => assumption); (case h0 => omega); (case hhi => omega); (case hk => omega))
  k_with "z:compareOp In str ref" => ((k_dflt (apply in_pl; (case N => k_asm); (case hm => k_mem); (case hd => assumption); (case hp => assumption); (case lo => assumption))))
  k_with "z:compareOp NotIn str ref" => ((k_dflt (apply notin_pl; (case N => k_asm); (case hm => k_mem); (case hd => assumption); (case hp => assumption); (case lo => assumption))))
  k_with "z_set_pl_setItem_ref_str" => (apply set_pl; (case F => k_asm); (case N => k_asm); (case U => k_updF); (case hd => assumption); (case hp => assumption); (case hk => assumption); (case hsz => omega))
  k_with "z:exec Raise some none" => ((k_dflt (apply raise_stmt; (case hh => exact rfl); (case G => assumption))))
  k_with "z:call ref" => (((with_reducible show wpAny _ _ (call (Value.ref 44) [_]) _ _ _); k_dflt (apply refusal_raise; (case G => assumption); (case kE => assumption); (case B => assumption); (case F => k_asm); (case N => k_asm); (case X => assumption); (case rm => (exact RoomUp.use (by assumption) (by omega))); (case hf => exact rfl); (case hk => exact rfl); refine wall ?_)))
  k_with "z:joinParts" => (((first | (with_reducible show wpAny _ _ (joinParts _ []) _ _ _) | (with_reducible show wpAny _ _ (joinParts _ (evalEach [] _)) _ _ _)); k_dflt ((try refine joinParts_nilE ?_); refine joinParts_nil ?_ ?_; rotate_left; exact argText_len (by omega))))
  k_with "z:eval ListComp" => (refine wall ?_)
  k_with "z:CompSrcT" => (refine wall ?_)
  k_with "z:CompSrc" => (refine wall ?_)
  k_with "z:CompEnd" => (refine wall ?_)
  k_with "z:FinE" => (refine wall ?_)
  k_with "z:exec Assign cons ListComp" => (refine wall ?_)
  k_with "z:FinA" => (refine wall ?_)
  k_with "z:subscriptTail Name Constant ref int" => (refine wall ?_)
  k_with "z_item_tagN_subscriptTail_Name_Name_ref_int" => ((with_reducible show wpAny _ _ (subscriptTail _ _ (Value.ref _) (Value.int _ _)) _ _ _); apply item_tagN; (case hs => with_unfolding_all rfl); (case N => k_asm); (case hm => k_mem); (case ht => assumption); (case e => assumption); (case hb => omega))
  k_with "z_item_tagS_subscriptTail_Name_Name_ref_int" => ((with_reducible show wpAny _ _ (subscriptTail _ _ (Value.ref _) (Value.int _ _)) _ _ _); apply item_tagS; (case hs => with_unfolding_all rfl); (case N => k_asm); (case hm => k_mem); (case ht => assumption); (case e => assumption); (case hb => omega))
  k_with "z:eval IfExp" => (refine wall ?_)
  k_with "z_kdl_list_valuesP_call_type_list" => ((with_reducible show wpAny _ _ (call (Value.type "list") [Value.ref _]) _ _ _); apply kdl_list_valuesP (knd := PySem.strKind _ _); (case hh => first | assumption | exact rfl); (case F => k_asm); (case N => k_asm); (case hv => k_mem); (case hp => k_mem); (case hd => assumption); (case hn => omega))
  k_with "z:compareOp In str ref" => ((k_dflt (apply in_strs; (case N => k_asm); (case hm => k_mem); (case hi => assumption))))
  k_with "z:compareOp NotIn str ref" => ((k_dflt (apply notin_strs; (case N => k_asm); (case hm => k_mem); (case hi => assumption))))
  k_with "z:compareOp In int ref" => ((k_dflt (apply in_nats; (case N => k_asm); (case hm => k_mem); (case hi => assumption))))
  k_with "z:compareOp NotIn int ref" => ((k_dflt (apply notin_nats; (case N => k_asm); (case hm => k_mem); (case hi => assumption))))
  k_with "z_index_strs_call_builtin_list_index" => (apply index_strs; (case N => k_asm); (case hm => k_mem); (case hi => assumption); (case hx => assumption); (case hz => omega))
  k_with "z_kmk_slice_lit_subscriptTail_Name_Slice_ref_ref" => ((with_reducible show wpAny _ _ (subscriptTail _ (PySem.Expr.Slice _ _ none _) (Value.ref _) (Value.ref _)) _ _ _); apply kmk_slice_lit; (case F => k_asm); (case N => k_asm); (case hl => kmk_list); (case pl => kmk_part); (case pu => kmk_part); (case e => exact slice_take _ _); (case hs => with_unfolding_all rfl); (case ht => kmk_pure); (case hz => (rw [List.size_toArray, sizeLine_eq]; omega)))
  k_with "z:compareOp In int ref" => ((k_dflt (apply in_pa; (case N => k_asm); (case hm => k_mem); (case hd => assumption); (case hp => assumption); (case lo => assumption))))
  k_with "z_in_view_compareOp_In_str_ref" => (apply in_view; (case hh => first | assumption | exact rfl); (case F => k_asm); (case N => k_asm); (case hv => k_mem); (case hp => k_mem); (case hd => assumption); (case hpa => assumption))
  k_with "z_set_pa_setItem_ref_int" => (apply set_pa; (case F => k_asm); (case N => k_asm); (case U => k_updF); (case hd => assumption); (case hp => assumption); (case hk => assumption); (case hsz => omega))
  k_with "z:joinParts" => (((first | (with_reducible show wpAny _ _ (joinParts _ []) _ _ _) | (with_reducible show wpAny _ _ (joinParts _ (evalEach [] _)) _ _ _)); k_dflt ((try refine joinParts_nilE ?_); refine joinParts_nil ?_ ?_; rotate_left; exact argText_len (by omega))))
  k_with "z:call builtin:list.pop" => (refine wall ?_)
  exact trivial
theorem news_tail {g h : Heap} {L : Addr} {a : Addr × Obj} {l : List (Addr × Obj)} (N : News g L h (a :: l)) : News g L h l := fun p hp => N p (.tail _ hp)
abbrev psE (lf ah pd fr : Addr) : List (Str × Value) := [(Str.ofString "formals", .ref lf), (Str.ofString "ahead", .ref ah), (Str.ofString "places", .ref pd), (Str.ofString "free_ones", .ref fr)]
structure S4 where
  od : Obj
  kvs : List (Str × Value)
  pl : Pl
  oN : Obj
  v0 : Option Value
  wv : List Value
  wn : Nat
  fr : List Nat
section
variable {w : World} {mean : ExcName → Option Value} {mg mb : Str → Option Value} {base : Heap} {envs : List Env} {s : Shared} {A₀ A : Around} {prog : Program} {lf lt : Addr} {fv tv : List Value} {nf nt : Nat} {ts : List Tag} {fs : List Str}
theorem due_ph4 {oc : Value} {od0 : Option Addr} {osl : Array (Option Value)} {name qual : Str} {params : Arguments} {s0 s1 s2 s3 s4 s5 s6 s7 s8 : Stmt} {srest : List Stmt} {scope : Scope} {dV kV doc pm cdv ct : Value} {an : Option Addr}
   (hst : (hd.heap_39 w.params).lookup 150 = some ⟨oc, od0, .func (fnX name qual params (s0 :: s1 :: s2 :: s3 :: s4 :: s5 :: s6 :: s7 :: s8 :: srest) scope [] dV kV doc pm an cdv ct), osl⟩)
   {g : Heap} {L' : Addr} {m₀ : Str → Option Value} {pd ah fr : Addr} {od1 oN oK oT : Obj} {kvs1 : List (Str × Value)} {pl1 : Pl} {fr1 : List Nat} {av wv : List Value} {na wn : Nat} {v1 : Option Value} {E : Value → Shared → Prop} {Q : Flow → Shared → Prop} {dp un : Nat} {gd : Option (List Code)} (hA : A = (Ar dp un gd envs).deeper (envOfC qual scope L' 150 cdv)) (hun : un + 20 * 6 < cLine)
   (X' : (hd.heap_39 w.params).In g) (T' : Top hd.view_39 (looseW hd.view_39 [Str.ofString "match_names", Str.ofString "take"]) mean mg mb g)
   (hE : PassesOwn (model prog w) A (envOfC qual scope L' 150 cdv) E)
   (F0 : Fr g L' s.heap (kstB m₀ (psE lf ah pd fr)))
   (N0 : News g L' s.heap [(fr, PySem.W.listOf wv.toArray wn), (ah, PySem.W.listOf av.toArray na), (pd, od1), (L' + 1 + 1 + 1, oK), (L' + 1 + 1, oN), (L' + 1, oT), (lf, PySem.W.listOf fv.toArray nf), (lt, PySem.W.listOf tv.toArray nt)])
   (hav : StrsAre av (ahead fs)) (hr : fs.length ≤ 10) (hd1 : od1.IsDictOf (PySem.strKind prog w) kvs1) (hp1 : PlAre kvs1 pl1) (hsm : (pd == sysModules) = false) (hlen : pl1.length ≤ 500) (hwv : IntsAre wv (natsI fr1)) (hfl : fr1.length ≤ 10) (hN : oN.data = .cell v1)
   (hn : pd ≠ fr ∧ pd ≠ ah ∧ pd ≠ L' + 1 + 1 + 1 ∧ pd ≠ L' + 1 + 1 ∧ pd ≠ L' + 1 ∧ pd ≠ lf ∧ pd ≠ lt) (hn2 : L' + 1 + 1 ≠ fr ∧ L' + 1 + 1 ≠ ah ∧ L' + 1 + 1 ≠ lf ∧ L' + 1 + 1 ≠ lt) (hn3 : fr ≠ ah ∧ fr ≠ L' + 1 + 1 + 1 ∧ fr ≠ L' + 1 ∧ fr ≠ lf ∧ fr ≠ lt)
   (k : ∀ m' h tk od' kvs' oN' pl', od'.IsDictOf (PySem.strKind prog w) kvs' → PlAre kvs' pl' → pl' = ((ahead fs).foldl due4Step (pl1, fr1)).1 → pl'.length ≤ 510 → (∃ v, oN'.data = .cell v) → Fr g L' h (kstB m' (psE lf ah pd fr)) →
     News g L' h [(ah, PySem.W.listOf av.toArray na), (pd, od'), (L' + 1 + 1 + 1, oK), (L' + 1 + 1, oN'), (L' + 1, oT), (lf, PySem.W.listOf fv.toArray nf), (lt, PySem.W.listOf tv.toArray nt)] → Q .next { s with heap := h, toks := tk }) :
   wpAny (model prog w) A (exec s8 (envOfC qual scope L' 150 cdv)) Q E s := by
  refine with_lit (x := (hd.heap_39 w.params).lookup 150) (by k_is) fun e => ?_
  replace e := hst.symm.trans e
  clear hst
  cases e
  subst hA
  have hal : (ahead fs).length ≤ fs.length := (List.takeWhile_sublist _).length_le
  have hvl := hav.length
  refine hide fun P_ k_ => ?_
  obtain ⟨_, _, _, _, _, _, _⟩ := hn
  obtain ⟨_, _, _, _⟩ := hn2
  obtain ⟨_, _, _, _, _⟩ := hn3
  refine k_ ?_; clear k_ P_
  refine wpAny_For ?_
  k_steps
  unfold Wall
  refine loop_listT (vs := av) (nn := na) (fun c : S4 => [(fr, PySem.W.listOf c.wv.toArray c.wn), (ah, PySem.W.listOf av.toArray na), (pd, c.od), (L' + 1 + 1 + 1, oK), (L' + 1 + 1, c.oN), (L' + 1, oT), (lf, PySem.W.listOf fv.toArray nf), (lt, PySem.W.listOf tv.toArray nt)]) (fun _ => psE lf ah pd fr) []
    (fun i c => c.od.IsDictOf (PySem.strKind prog w) c.kvs ∧ PlAre c.kvs c.pl ∧ c.oN.data = .cell c.v0 ∧ IntsAre c.wv (natsI c.fr) ∧ c.pl.length ≤ 500 + i ∧ c.fr.length ≤ 10 ∧ (c.pl, c.fr) = ((ahead fs).take i).foldl due4Step (pl1, fr1)) ⟨od1, kvs1, pl1, oN, v1, wv, wn, fr1⟩ hE rfl (fun c => by simp) F0 N0 ?_ ⟨hd1, hp1, hN, hwv, hlen, hfl, rfl⟩ ?_ ?_
  · repeat (first | with_reducible exact allP_nil | refine allP_cons (by exact rfl) ?_)
  · rintro ⟨od2, kvs2, pl2, oN2, v2, wv2, wn2, fr2⟩ i v u h tk I oI hv hI hq_ F N
    refine hide fun P_ k_ => ?_
    obtain ⟨hd2, hp2, hN2, hw2, hl2, hf2, hfo2⟩ := hq_
    obtain ⟨nm, tn, rfl, hnm⟩ := hav.item i v hv
    refine k_ ?_; clear k_ P_
    have hi10 : i < (ahead fs).length := (List.getElem?_eq_some_iff.mp hnm).1
    (try dsimp only at *)
    clear F0 N0
    have hwl : wv2.length = fr2.length := by rw [hw2.length, List.length_map]
    have lI := allNe_of hI
    simp only [AllNe, and_true] at lI
    refine hide fun P_ k_ => ?_
    obtain ⟨_, _, _, _, _, _, _, _⟩ := lI
    refine k_ ?_; clear k_ P_
    k_steps
    · (rename hasP pl2 nm = true => hh1)
      (rename Fr _ _ _ _ => F8)
      (rename News _ _ _ _ => N8)
      rename_i hc9 oN3 hN3 tk9
      refine LoopEndT.fin ⟨od2, kvs2, pl2, oN3, _, wv2, wn2, fr2⟩ (.inl rfl) F8 N8 (fun p hp => ?_) ?_ (off_of hI rfl) (by repeat (first | with_reducible exact allP_nil | refine allP_cons (by exact rfl) ?_)) ?_ ⟨hd2, hp2, hN3, hw2, by dsimp only; omega, hf2, ?_⟩
      · exact .tail _ hp
      · exact .head _
      · exact kst_h5T
      · rw [take_snoc hnm, List.foldl_append, ← hfo2]
        simp only [List.foldl_cons, List.foldl_nil, due4Step, hh1, if_true]
    · (rename hasP pl2 nm = false => hh1)
      (rename decide (_ = []) = true => hne0)
      have hne1 : fr2 = [] := by simpa using of_decide_eq_true hne0
      (rename Fr _ _ _ _ => F8)
      (rename News _ _ _ _ => N8)
      rename_i hc9 oN3 hN3 tk9 l9 h9 l19
      refine LoopEndT.fin ⟨od2, kvs2, pl2, oN3, _, wv2, wn2, fr2⟩ (.inl rfl) F8 N8 (fun p hp => ?_) ?_ (off_of hI rfl) (by repeat (first | with_reducible exact allP_nil | refine allP_cons (by exact rfl) ?_)) ?_ ⟨hd2, hp2, hN3, hw2, by dsimp only; omega, hf2, ?_⟩
      · exact .tail _ (.tail _ hp)
      · exact .tail _ (.head _)
      · exact kst_h5T
      · rw [take_snoc hnm, List.foldl_append, ← hfo2]
        subst hne1
        simp only [List.foldl_cons, List.foldl_nil, due4Step]
        rw [if_neg (by rw [hh1]; decide)]
    · unfold Wall
      (rename hasP pl2 nm = false => hh1)
      (rename decide (_ = []) = false => hne0)
      (rename Fr _ _ _ _ => F8)
      (rename News _ _ _ _ => N8)
      rename_i hc9 oN3 hN3 tk9 l9 h9 l19
      replace N8 := news_tail N8
      cases fr2 with
      | nil => simp at hne0
      | cons j fr3 =>
        refine pop0_nats F8 N8 hw2 (by k_upd) (by simp only [List.length_cons] at hwl hf2; omega) fun h7 t7 F7 N7 hw3 => ?_
        (try dsimp only)
        clear F8 N8
        have hl3 : pl2.length ≤ 1000 := by omega
        k_steps
        (rename PlAre _ (_ ++ _) => hp9)
        (rename Obj.IsDictOf _ _ _ => hd9)
        (rename Fr _ _ _ _ => F9)
        (rename News _ _ _ _ => N9)
        rename_i o9 kvs9
        refine LoopEndT.fin ⟨o9, kvs9, pl2 ++ [(nm, j)], oN3, _, wv2.drop 1, wn2 + 1, fr3⟩ (.inl rfl) F9 N9 (fun p hp => ?_) ?_ (off_of hI rfl) (by repeat (first | with_reducible exact allP_nil | refine allP_cons (by exact rfl) ?_)) ?_ ⟨hd9, hp9, hN3, hw3, ?_, ?_, ?_⟩
        · exact .tail _ hp
        · exact .head _
        · exact kst_h5T
        · simp only [List.length_append, List.length_cons, List.length_nil]; omega
        · simp only [List.length_cons] at hf2; dsimp only; omega
        · rw [take_snoc hnm, List.foldl_append, ← hfo2]
          simp only [List.foldl_cons, List.foldl_nil, due4Step]
          rw [if_neg (by rw [hh1]; decide)]
  · rintro ⟨od2, kvs2, pl2, oN2, v2, wv2, wn2, fr2⟩ u h tk hq_ F N
    refine hide fun P_ k_ => ?_
    obtain ⟨hd2, hp2, hN2, hw2, hl2, hf2, hfo2⟩ := hq_
    refine k_ ?_; clear k_ P_
    (try dsimp only at *)
    rw [hvl, List.take_length] at hfo2
    refine k _ h tk od2 kvs2 oN2 pl2 hd2 hp2 (by rw [← hfo2]) (by omega) ⟨_, hN2⟩ F (kst_newsOf N fun p hp => .tail _ hp)
end
theorem cleanDU541 : True := by
  w_top off
  k_with_none
  exact trivial
theorem fillDU5 : (PySem.Challenge.rw_no0499_01 = PySem.Challenge.rw_no0499_01) ∧ hd.heap_39 = hd.heap_39 := by
  k_fill
  exact ⟨rfl, rfl⟩
theorem cleanDU542 : True := by
  k_with "z_k_ne" => (((try dsimp only); first | assumption | exact Ne.symm (by assumption)))
  k_with "z:exec For Name Call cons nil" => (refine wall ?_)
  k_with "z:exec For Name Attribute cons nil" => (refine wall ?_)
  k_with "z:exec For Name Name cons nil" => (refine wall ?_)
  k_with "z:pyIter ref" => (refine wall ?_)
  k_with "z:call builtin:len" => (((with_reducible show wpAny _ _ (call (Value.builtin _) [Value.ref _]) _ _ _); k_dflt (apply len_led; (case N => k_asm); (case hm => k_mem); (case hn => k_asm); (case hs => omega))))
  k_with "z_item_tag_subscriptTail_Name_Name_ref_int" => ((with_reducible show wpAny _ _ (subscriptTail _ _ (Value.ref _) (Value.int _ _)) _ _ _); apply item_tag; (case hs => with_unfolding_all rfl); (case N => k_asm); (case hm => k_mem); (case ht => assumption); (case h0 => omega); (case hhi => omega); (case hk => omega))
  k_with "z_item_int_subscriptTail_Name_Name_ref_int" => ((with_reducible show wpAny _ _ (subscriptTail _ _ (Value.ref _) (Value.int _ _)) _ _ _); apply item_int; (case hs => with_unfolding_all rfl); (case N => k_asm); (case hm => k_mem); (case ht => assumption); (case h0 => omega); (case hhi => omega); (case hk => omega))
  k_with "z:compareOp In str ref" => ((k_dflt (apply in_pl; (case N => k_asm); (case hm => k_mem); (case hd => assumption); (case hp => assumption); (case lo => assumption))))
  k_with "z:compareOp NotIn str ref" => ((k_dflt (apply notin_pl; (case N => k_asm); (case hm => k_mem); (case hd => assumption); (case hp => assumption); (case lo => assumption))))
  k_with "z_set_pl_setItem_ref_str" => (apply set_pl; (case F => k_asm); (case N => k_asm); (case U => k_updF); (case hd => assumption); (case hp => assumption); (case hk => assumption); (case hsz => omega))
  k_with "z:exec Raise some none" => ((k_dflt (apply raise_stmt; (case hh => exact rfl); (case G => assumption))))
  k_with "z:call ref" => (((with_reducible show wpAny _ _ (call (Value.ref 44) [_]) _ _ _); k_dflt (apply refusal_raise; (case G => assumption); (case kE => assumption); (case B => assumption); (case F => k_asm); (case N => k_asm); (case X => assumption); (case rm => (exact RoomUp.use (by assumption) (by omega))); (case hf => exact rfl); (case hk => exact rfl); refine wall ?_)))
  k_with "z:joinParts" => (((first | (with_reducible show wpAny _ _ (joinParts _ []) _ _ _) | (with_reducible show wpAny _ _ (joinParts _ (evalEach [] _)) _ _ _)); k_dflt ((try refine joinParts_nilE ?_); refine joinParts_nil ?_ ?_; rotate_left; exact argText_len (by omega))))
  k_with "z:eval ListComp" => (refine wall ?_)
  k_with "z:CompSrcT" => (refine wall ?_)
  k_with "z:CompSrc" => (refine wall ?_)
  k_with "z:CompEnd" => (refine wall ?_)
  k_with "z:FinE" => (refine wall ?_)
  k_with "z:exec Assign cons ListComp" => (refine wall ?_)
  k_with "z:FinA" => (refine wall ?_)
  k_with "z:subscriptTail Name Constant ref int" => (refine wall ?_)
  k_with "z_item_tagN_subscriptTail_Name_Name_ref_int" => ((with_reducible show wpAny _ _ (subscriptTail _ _ (Value.ref _) (Value.int _ _)) _ _ _); apply item_tagN; (case hs => with_unfolding_all rfl); (case N => k_asm); (case hm => k_mem); (case ht => assumption); (case e => assumption); (case hb => omega))
  k_with "z_item_tagS_subscriptTail_Name_Name_ref_int" => ((with_reducible show wpAny _ _ (subscriptTail _ _ (Value.ref _) (Value.int _ _)) _ _ _); apply item_tagS; (case hs => with_unfolding_all rfl); (case N => k_asm); (case hm => k_mem); (case ht => assumption); (case e => assumption); (case hb => omega))
  k_with "z:eval IfExp" => (refine wall ?_)
  k_with "z_kdl_list_valuesP_call_type_list" => ((with_reducible show wpAny _ _ (call (Value.type "list") [Value.ref _]) _ _ _); apply kdl_list_valuesP (knd := PySem.strKind _ _); (case hh => first | assumption | exact rfl); (case F => k_asm); (case N => k_asm); (case hv => k_mem); (case hp => k_mem); (case hd => assumption); (case hn => omega))
  k_with "z:compareOp In str ref" => ((k_dflt (apply in_strs; (case N => k_asm); (case hm => k_mem); (case hi => assumption))))
  k_with "z:compareOp NotIn str ref" => ((k_dflt (apply notin_strs; (case N => k_asm); (case hm => k_mem); (case hi => assumption))))
  k_with "z:compareOp In int ref" => ((k_dflt (apply in_nats; (case N => k_asm); (case hm => k_mem); (case hi => assumption))))
  k_with "z:compareOp NotIn int ref" => ((k_dflt (apply notin_nats; (case N => k_asm); (case hm => k_mem); (case hi => assumption))))
  k_with "z_index_strs_call_builtin_list_index" => (apply index_strs; (case N => k_asm); (case hm => k_mem); (case hi => assumption); (case hx => assumption); (case hz => omega))
  k_with "z_kmk_slice_lit_subscriptTail_Name_Slice_ref_ref" => ((with_reducible show wpAny _ _ (subscriptTail _ (PySem.Expr.Slice _ _ none _) (Value.ref _) (Value.ref _)) _ _ _); apply kmk_slice_lit; (case F => k_asm); (case N => k_asm); (case hl => kmk_list); (case pl => kmk_part); (case pu => kmk_part); (case e => exact slice_take _ _); (case hs => with_unfolding_all rfl); (case ht => kmk_pure); (case hz => (rw [List.size_toArray, sizeLine_eq]; omega)))
  k_with "z:compareOp In int ref" => ((k_dflt (apply in_pa; (case N => k_asm); (case hm => k_mem); (case hd => assumption); (case hp => assumption); (case lo => assumption))))
  k_with "z_in_view_compareOp_In_str_ref" => (apply in_view; (case hh => first | assumption | exact rfl); (case F => k_asm); (case N => k_asm); (case hv => k_mem); (case hp => k_mem); (case hd => assumption); (case hpa => assumption))
  k_with "z_set_pa_setItem_ref_int" => (apply set_pa; (case F => k_asm); (case N => k_asm); (case U => k_updF); (case hd => assumption); (case hp => assumption); (case hk => assumption); (case hsz => omega))
  k_with "z:joinParts" => (((first | (with_reducible show wpAny _ _ (joinParts _ []) _ _ _) | (with_reducible show wpAny _ _ (joinParts _ (evalEach [] _)) _ _ _)); k_dflt ((try refine joinParts_nilE ?_); refine joinParts_nil ?_ ?_; rotate_left; exact argText_len (by omega))))
  k_with "z_join_led_call_builtin_str_join" => (apply join_led; (case N => k_asm); (case hm => k_mem); (case hi => assumption); (case hsep => decide +kernel); (case hw => omega))
  exact trivial
theorem strsAre_snoc2 {vs : List Value} {ns : List Str} {k k' : Str} {t : Tok} (h : StrsAre vs ns) (e : k = k') : StrsAre (vs ++ [.str k t]) (ns ++ [k']) := e ▸ strsAre_snoc h
section
variable {w : World} {mean : ExcName → Option Value} {mg mb : Str → Option Value} {base : Heap} {envs : List Env} {s : Shared} {A : Around} {prog : Program} {R : Result → Shared → Prop} {lf lt : Addr} {fv tv : List Value} {nf nt : Nat} {ts : List Tag} {fs : List Str}
theorem due_c (G : Gr w mean mg mb base) (a : At base envs s.heap [(lf, PySem.W.listOf fv.toArray nf), (lt, PySem.W.listOf tv.toArray nt)]) (hf : StrsAre fv fs) (ht : TagsAre tv ts)
   (hq : ts.length ≤ 10) (hr : fs.length ≤ 10) (hfn : ∀ f ∈ fs, f.length ≤ 10) (htag : ∀ x, some x ∈ ts → x.length ≤ 10) (hnd : fs.Nodup) (rm : Room A envs 6)
   (k : ∀ v h' tk', Left s [(lf, PySem.W.listOf fv.toArray nf), (lt, PySem.W.listOf tv.toArray nt)] (dueD w prog lf lt fv tv nf nt ts fs) v h' → R (.ok (.ret v)) { s with heap := h', toks := tk' }) :
   codeAny (model prog w) A (.call (.ref 150) ⟨[.ref lf, .ref lt], []⟩) R s := by
  refine hide fun P_ k_ => ?_
  obtain ⟨dp', un, gd, rfl, hdp, hun⟩ := rm.of
  refine k_ ?_; clear k_ P_
  have rmU := rm.up
  refine enterX (P := fun _ => False) (binds := [(Str.ofString "formals", .ref lf), (Str.ofString "tags", .ref lt)]) G a rfl ?_ (by k_is) (by k_is) (BindsTo.of_eq rfl) rfl (by decide +kernel) ?_ k (fun _ _ _ _ h => h.elim) rfl rfl rfl
  · show dp' < recursionLimit
    omega
  · intro g L' h₁ tk cells E F' N' Y' B' X' T' l1 KG hE kE
    have hlfL : lf < L' := l1 _ (.head _)
    have hltL : lt < L' := l1 _ (.tail _ (.head _))
    (try k_lt l1)
    refine hide fun P_ k_ => ?_
    obtain ⟨oK, oN, oT, hE', dK, dN, dT⟩ := CellsAre.three Y'
    refine k_ ?_; clear k_ P_
    subst hE'
    clear Y'
    (try simp only [List.cons_append, List.nil_append] at N')
    have htl := ht.length
    have hfl := hf.length
    (try dsimp only)
    k_steps
    unfold Wall
    rename_i pd h2 od l2 hd0 _ _ _ l3 h3 F6 N6
    refine due_ph1 (m₀ := _) (by k_is) rfl hun X' T' rfl hE (s := { s with heap := h3, toks := _ }) (kstM (psA lf pd) F6 ?_) N6 hf ht hq hr hfn htag hnd hd0 l2 dT dN ?_ ?_ ?_ ?_
    · repeat (first | with_reducible exact allP_nil | refine allP_cons (by exact rfl) ?_)
    · obtain ⟨q1, q2, q3, q4, q5⟩ := l3
      exact ⟨Nat.ne_of_gt q1, Nat.ne_of_gt q2, Nat.ne_of_gt q3, Nat.ne_of_gt q4, Nat.ne_of_gt q5⟩
    · exact ⟨Nat.ne_of_gt (by omega), Nat.ne_of_gt (by omega)⟩
    · rintro v h tk word herr m' t tw rd news od1 kvs1 pl1 rfl F N hd1 hp1 m1 m2 m3 m4 m5
      exact dueD_of (pl := pl1) (rest := []) (rv := []) F N hd1 hp1 .nil l2 (.inl (dueP_err1 herr)) m1 m2 m3 m4 m5
    · rintro m1 h tk od1 kvs1 pl1 oN1 hok1 hd1 hp1 ⟨v1, hN1⟩ F N
      obtain ⟨hk1, hk2, hk3⟩ := due1_keys (i := fs.length) (by rw [List.take_length]; exact hok1)
      have hkl : kvs1.length ≤ 10 := by rw [hp1.length]; omega
      have hwh := plAre_vals hp1
      (try dsimp only)
      clear F6 N6
      k_steps
      unfold Wall
      rename_i vw hA lv1 whA whC hB tkB lw1 hC F6 N6
      refine alt_walk (s := s) (fs := fs) [(whA, PySem.W.listOf (kvs1.map (·.2)).toArray whC), (pd, od1), (L' + 1 + 1 + 1, oK), (L' + 1 + 1, oN1), (L' + 1, oT), (lf, PySem.W.listOf fv.toArray nf), (lt, PySem.W.listOf tv.toArray nt)] F6 ?_ ?_
      · refine wpAny_IfExp ?_
        k_steps
        · (rename Fr _ _ _ _ => F7)
          (rename News _ _ _ _ => N7)
          rename_i hin j hj1 hj2 D3 h3 l3
          refine ⟨D3, fv.take j, 0, _, _, rfl, rfl, F7, kst_newsOf N7 ?_, ?_⟩
          · first | ((repeat (first | (with_reducible exact sub_nil) | (with_reducible exact sub_refl) | (with_reducible (refine sub_cons ?_ ?_; focus ((repeat (first | exact List.mem_cons_self | refine List.mem_cons_of_mem _ ?_)); done))) | (with_reducible refine sub_tail ?_))); done) | ((repeat (first | (exact sub_nil) | (exact sub_refl) | ((refine sub_cons ?_ ?_; focus ((repeat (first | exact List.mem_cons_self | refine List.mem_cons_of_mem _ ?_)); done))) | (refine sub_tail ?_))); done)
          · rw [ahead_at (i := j) hj1 (fun f hf e => by
              refine hide fun P_ k_ => ?_
              obtain ⟨i2, hi2⟩ := List.mem_iff_getElem?.mp hf
              obtain ⟨hi3, hi4⟩ := List.getElem?_eq_some_iff.mp hi2
              refine k_ ?_; clear k_ P_
              rw [List.length_take] at hi3
              rw [List.getElem_take] at hi4
              refine hj2 i2 (by omega) ?_
              rw [List.getElem?_eq_getElem (by omega), hi4, e]; rfl)]
            exact strs_take hf j
        · (rename Fr _ _ _ _ => F7)
          (rename News _ _ _ _ => N7)
          rename_i hin
          refine ⟨lf, fv, nf, _, _, rfl, rfl, F7, kst_newsOf N7 ?_, ?_⟩
          · first | ((repeat (first | (with_reducible exact sub_nil) | (with_reducible exact sub_refl) | (with_reducible (refine sub_cons ?_ ?_; focus ((repeat (first | exact List.mem_cons_self | refine List.mem_cons_of_mem _ ?_)); done))) | (with_reducible refine sub_tail ?_))); done) | ((repeat (first | (exact sub_nil) | (exact sub_refl) | ((refine sub_cons ?_ ?_; focus ((repeat (first | exact List.mem_cons_self | refine List.mem_cons_of_mem _ ?_)); done))) | (refine sub_tail ?_))); done)
          · rw [ahead_all (fun f hf e => hin (by rw [← show f = Str.ofString "..." from e]; exact hf))]
            exact hf
      · clear F6 N6
        intro ah av na h6 tk6 F6 N6 hav
        have hvl := hav.length
        have hal : (ahead fs).length ≤ fs.length := (List.takeWhile_sublist _).length_le
        have hahN : ¬ (ah = L' + 1 + 1) := fun e => by
          have h1 := (N6 _ (.head _)).1
          have h2 := (N6 (L' + 1 + 1, oN1) (.tail _ (.tail _ (.tail _ (.tail _ (.head _)))))).1
          dsimp only at h1 h2
          rw [← e, h1] at h2
          have h3 := Option.some.inj h2
          rw [← h3] at hN1
          cases hN1
        have hahK : ¬ (ah = L' + 1 + 1 + 1) := fun e => by
          have h1 := (N6 _ (.head _)).1
          have h2 := (N6 (L' + 1 + 1 + 1, oK) (.tail _ (.tail _ (.tail _ (.head _))))).1
          dsimp only at h1 h2
          rw [← e, h1] at h2
          have h3 := Option.some.inj h2
          rw [← h3] at dK
          cases dK
        have hahP : ¬ (ah = pd) := fun e => by
          have h1 := (N6 _ (.head _)).1
          have h2 := (N6 (pd, od1) (.tail _ (.tail _ (.head _)))).1
          dsimp only at h1 h2
          rw [← e, h1] at h2
          have h3 := Option.some.inj h2
          rw [← h3] at hd1
          refine hide fun P_ k_ => ?_
          obtain ⟨_, _, _, h4, _⟩ := hd1
          refine k_ ?_; clear k_ P_
          cases h4
        k_steps
        unfold Wall
        rename_i hz pt h7 pod hpm ps0 pf0 hpd pf1 l7 h8 F7 N7
        (try clear F6); (try clear N6)
        refine hide fun P_ k_ => ?_
        obtain ⟨r1, r2, r3, r4, r5, r6, r7, r8⟩ := l7
        refine k_ ?_; clear k_ P_
        refine due_ph2 (by k_is) X' T' rfl hE (s := { s with heap := h8, toks := _ }) (kstM (psD lf ah pd whA pt) F7 ?_) N7 hf ht hq hr hfn htag hav hd1 hp1 l2 hpm hpd dT hN1 ?_ ?_ ?_ ?_
        · repeat (first | with_reducible exact allP_nil | refine allP_cons (by exact rfl) ?_)
        · exact ⟨Nat.ne_of_gt r1, Nat.ne_of_gt r2, Nat.ne_of_gt r3, Nat.ne_of_gt r4, Nat.ne_of_gt r5, Nat.ne_of_gt r6, Nat.ne_of_gt r7, Nat.ne_of_gt r8⟩
        · exact ⟨fun e => hahN e.symm, Nat.ne_of_lt (by omega), Nat.ne_of_lt (by omega), Nat.ne_of_gt (by omega), Nat.ne_of_gt (by omega)⟩
        · rintro v h tk word herr m' t tw rd news rfl F N m1 m2 m3 m4 m5
          exact dueD_of (pl := pl1) (rest := []) (rv := []) F N hd1 hp1 .nil l2 (.inl (dueP_err2 hok1 herr)) m1 m2 m3 m4 m5
        · rintro m2 h tk pod2 kvs2 pa oN2 hok2 hpd2 hpa F ⟨v2, hN2⟩ N
          have hPa := due2_facts hok2
          have hpal : pa.length ≤ 100 := by
            have h1 := due2Take_len (i := (ahead fs).length) (by rw [List.take_length]; exact hok2)
            have h2 : (ahead fs).length * ts.length ≤ 10 * 10 := Nat.mul_le_mul (by omega) hq
            simp only [List.length_nil] at h1
            omega
          (try dsimp only)
          clear F7 N7
          k_steps
          unfold Wall
          refine due_ph3 (by k_is) X' T' rfl hE (s := { s with heap := h, toks := _ }) F N hd1 hp1 hpm hpd2 hpa hPa (by omega) ?_ ?_
          · exact ⟨Nat.ne_of_lt (by omega), fun e => hahP e.symm, Nat.ne_of_lt (by omega), Nat.ne_of_gt (by omega), Nat.ne_of_gt (by omega), Nat.ne_of_gt (by omega), Nat.ne_of_gt (by omega), Nat.ne_of_gt (by omega)⟩
          clear F N
          rintro m3 h tk od3 kvs3 hd3 hp3 F N
          (try dsimp only)
          k_steps
          unfold Wall
          refine LCt.Assign_ListComp_T (F₀ := F) (by rfl) (by with_unfolding_all rfl) (by with_unfolding_all rfl) (by decide) (by rfl) (by decide) (by rfl) (by rfl) (by rfl) ?_
          k_steps
          unfold Wall
          (try clear F); (try clear N)
          (rename Fr _ _ _ _ => F6)
          (rename News _ _ _ _ => N6)
          (rename IsRange _ _ _ _ _ _ _ _ => R2)
          refine LCt.CompSrcT.range (n := ts.length) (by rfl) F6 (kst_newsOf N6 (?_ : ∀ p ∈ [(ah, PySem.W.listOf av.toArray na), (pd, od3), (L' + 1 + 1 + 1, oK), (L' + 1 + 1, oN2), (L' + 1, oT), (lf, PySem.W.listOf fv.toArray nf), (lt, PySem.W.listOf tv.toArray nt)], _)) R2 (small_zero (by omega)) (by simpa using rangeSize_nat 0 ts.length) (by rw [sizeLine_eq]; omega) fun g' => ?_
          · first | ((repeat (first | (with_reducible exact sub_nil) | (with_reducible exact sub_refl) | (with_reducible (refine sub_cons ?_ ?_; focus ((repeat (first | exact List.mem_cons_self | refine List.mem_cons_of_mem _ ?_)); done))) | (with_reducible refine sub_tail ?_))); done) | ((repeat (first | (exact sub_nil) | (exact sub_refl) | ((refine sub_cons ?_ ?_; focus ((repeat (first | exact List.mem_cons_self | refine List.mem_cons_of_mem _ ?_)); done))) | (refine sub_tail ?_))); done)
          refine compT_inv (fun _ : Unit => [(ah, PySem.W.listOf av.toArray na), (pd, od3), (L' + 1 + 1 + 1, oK), (L' + 1 + 1, oN2), (L' + 1, oT), (lf, PySem.W.listOf fv.toArray nf), (lt, PySem.W.listOf tv.toArray nt)]) (fun j ys _ => IntsAre ys (natsI (freeTo ts j))) () (by exact .nil) ?_ ?_
          · rintro j ys ⟨⟩ v I2 oI2 C oC D m₂ h tk2 E' hj ⟨t0, rfl⟩ hys hC hx F3 N3 off ne
            (try dsimp only at *)
            (try clear F6); (try clear N6); (try clear R2)
            rw [Int.zero_add] at hx
            obtain ⟨y, he⟩ : ∃ y, ts[j]? = some y := ⟨_, List.getElem?_eq_getElem hj⟩
            cases y with
            | none =>
              k_steps
              unfold Wall
              (rename Fr _ _ _ _ => F4)
              (rename News _ _ _ _ => N4)
              refine LCg.CompEnd.intro F4 N4 _ (fun p hp => hp) off trivial ⟨(), rfl, ?_⟩
              rw [freeTo_hit he rfl, natsI_snoc]
              exact intsAre_snoc hys
            | some x =>
              k_steps
              · (rename (x == _) = true => hx1)
                unfold Wall
                (rename Fr _ _ _ _ => F4)
                (rename News _ _ _ _ => N4)
                refine LCg.CompEnd.intro F4 N4 _ (fun p hp => hp) off trivial ⟨(), rfl, ?_⟩
                rw [freeTo_hit he hx1, natsI_snoc]
                exact intsAre_snoc hys
              · (rename (x == _) = false => hx1)
                unfold Wall
                (rename Fr _ _ _ _ => F4)
                (rename News _ _ _ _ => N4)
                refine LCg.CompEnd.intro F4 N4 _ (fun p hp => hp) off trivial ⟨(), rfl, ?_⟩
                rw [freeTo_miss he hx1]
                exact hys
          · rintro ys ⟨⟩ hys D h tk2 F3 N3 off
            (try dsimp only at *)
            (try clear F6); (try clear N6); (try clear R2)
            have hyl : ys.length = (freeTo ts ts.length).length := by rw [hys.length, List.length_map]
            have hsl := freeTo_len (ts := ts) (n := ts.length)
            k_steps
            unfold Wall
            refine hide fun P_ k_ => ?_
            obtain ⟨o1, o2, o3, o4, o5, o6, o7, _⟩ := off
            refine k_ ?_; clear k_ P_
            (try dsimp only at o1 o2 o3 o4 o5 o6 o7)
            refine due_ph4 (by k_is) rfl hun X' T' hE (s := { s with heap := h, toks := _ }) (kstM (psE lf ah pd D) F3 ?_) N3 hav hr hd3 hp3 l2 ?_ hys (by omega) hN2 ?_ ?_ ?_ ?_
            · repeat (first | with_reducible exact allP_nil | refine allP_cons (by exact rfl) ?_)
            · unfold due3; rw [List.length_append, List.length_map]; omega
            · exact ⟨o2, fun e => hahP e.symm, Nat.ne_of_gt (by omega), Nat.ne_of_gt (by omega), Nat.ne_of_gt (by omega), Nat.ne_of_gt (by omega), Nat.ne_of_gt (by omega)⟩
            · exact ⟨o4, fun e => hahN e.symm, Nat.ne_of_gt (by omega), Nat.ne_of_gt (by omega)⟩
            · exact ⟨fun e => o1 e.symm, fun e => o3 e.symm, fun e => o5 e.symm, fun e => o6 e.symm, fun e => o7 e.symm⟩
            clear F3 N3
            rintro m4 h tk od4 kvs4 oN4 pl4 hd4 hp4 hpl4 hlen4 ⟨v4, hN4⟩ F N
            have hkl4 : kvs4.length ≤ 510 := by rw [hp4.length]; exact hlen4
            have hwh4 := plAre_vals hp4
            (try dsimp only)
            k_steps
            unfold Wall
            rename_i vw4 hA4 lv4 tkA tkC hB4 tkB4 lw4 hC4 oK4 F6 N6 dK4
            (try clear F); (try clear N)
            refine LCt.Assign_ListComp_T (F₀ := F6) (by rfl) (by with_unfolding_all rfl) (by with_unfolding_all rfl) (by decide) (by rfl) (by decide) (by rfl) (by rfl) (by rfl) ?_
            k_steps
            unfold Wall
            (try clear F6); (try clear N6)
            (rename Fr _ _ _ _ => F6)
            (rename News _ _ _ _ => N6)
            (rename IsRange _ _ _ _ _ _ _ _ => R2)
            refine LCt.CompSrcT.range (n := ts.length) (by rfl) F6 (kst_newsOf N6 (?_ : ∀ p ∈ [(tkA, PySem.W.listOf (kvs4.map (·.2)).toArray tkC), (pd, od4), (L' + 1 + 1 + 1, oK4), (L' + 1, oT), (lf, PySem.W.listOf fv.toArray nf), (lt, PySem.W.listOf tv.toArray nt)], _)) R2 (small_zero (by omega)) (by simpa using rangeSize_nat 0 ts.length) (by rw [sizeLine_eq]; omega) fun g' => ?_
            · first | ((repeat (first | (with_reducible exact sub_nil) | (with_reducible exact sub_refl) | (with_reducible (refine sub_cons ?_ ?_; focus ((repeat (first | exact List.mem_cons_self | refine List.mem_cons_of_mem _ ?_)); done))) | (with_reducible refine sub_tail ?_))); done) | ((repeat (first | (exact sub_nil) | (exact sub_refl) | ((refine sub_cons ?_ ?_; focus ((repeat (first | exact List.mem_cons_self | refine List.mem_cons_of_mem _ ?_)); done))) | (refine sub_tail ?_))); done)
            refine compT_inv (fun _ : Unit => [(tkA, PySem.W.listOf (kvs4.map (·.2)).toArray tkC), (pd, od4), (L' + 1 + 1 + 1, oK4), (L' + 1, oT), (lf, PySem.W.listOf fv.toArray nf), (lt, PySem.W.listOf tv.toArray nt)]) (fun j ys _ => IntsAre ys (natsI (restOf pl4 j))) () (by exact .nil) ?_ ?_
            · rintro j ys ⟨⟩ v I2 oI2 C oC D2 m₂ h tk2 E' hj ⟨t0, rfl⟩ hys2 hC hx F3 N3 off ne
              (try dsimp only at *)
              (try clear F6); (try clear N6); (try clear R2)
              rw [Int.zero_add] at hx
              k_steps
              · unfold Wall
                (rename j ∈ _ => hjm)
                (rename Fr _ _ _ _ => F4)
                (rename News _ _ _ _ => N4)
                refine LCg.CompEnd.intro F4 N4 _ (fun p hp => hp) off trivial ⟨(), rfl, ?_⟩
                rw [restOf_miss hjm]
                exact hys2
              · unfold Wall
                (rename ¬ (j ∈ _) => hjm)
                (rename Fr _ _ _ _ => F4)
                (rename News _ _ _ _ => N4)
                refine LCg.CompEnd.intro F4 N4 _ (fun p hp => hp) off trivial ⟨(), rfl, ?_⟩
                rw [restOf_hit hjm, natsI_snoc]
                exact intsAre_snoc hys2
            · rintro ys2 ⟨⟩ hys2 D2 h tk2 F3 N3 off
              (try dsimp only at *)
              (try clear F6); (try clear N6); (try clear R2)
              have hyl2 : ys2.length = (restOf pl4 ts.length).length := by rw [hys2.length, List.length_map]
              have hsl2 := restOf_len (pl := pl4) (n := ts.length)
              have hfin := dueP_fin hok1 hok2 hpl4
              k_steps
              · (rename decide (_ = []) = true => hne0)
                have hne1 : restOf pl4 ts.length = [] := by simpa using of_decide_eq_true hne0
                (rename Fr _ _ _ _ => F4)
                (rename News _ _ _ _ => N4)
                refine dueD_of (rest := restOf pl4 ts.length) F4 N4 hd4 hp4 hys2 l2 (.inr ⟨?_, rfl⟩) (.head _) ?_ ?_ ?_ ?_
                · rw [hfin, if_neg (fun q => q.1 hne1)]
                all_goals (repeat (first | exact List.Mem.head _ | apply List.Mem.tail))
              · (rename _ ∈ fs => hin)
                (rename Fr _ _ _ _ => F4)
                (rename News _ _ _ _ => N4)
                refine dueD_of (rest := restOf pl4 ts.length) F4 N4 hd4 hp4 hys2 l2 (.inr ⟨?_, rfl⟩) (.head _) ?_ ?_ ?_ ?_
                · rw [hfin, if_neg (fun q => q.2 hin)]
                all_goals (repeat (first | exact List.Mem.head _ | apply List.Mem.tail))
              · (rename ¬ (_ ∈ fs) => hin)
                (rename decide (_ = []) = false => hne0)
                have hne1 : restOf pl4 ts.length ≠ [] := fun e => by rw [e] at hne0; simp at hne0
                have hword : dueP ts fs = .error (unusedText ts (restOf pl4 ts.length)) := hfin.trans (if_pos ⟨hne1, hin⟩)
                unfold Wall
                (try clear F3); (try clear N3)
                (rename Fr _ _ _ _ => F3)
                (rename News _ _ _ _ => N3)
                refine LCg.Assign_ListComp_U (F₀ := F3) (by rfl) (by with_unfolding_all rfl) (by with_unfolding_all rfl) (by decide) (by rfl) (by decide) (by rfl) (by rfl) (by rfl) ?_
                k_steps
                unfold Wall
                refine LCg.CompSrc.ledger (ax := D2) (its := ys2.toArray) (k := ys2.length) (by rfl) F3 (kst_newsOf N3 (?_ : ∀ p ∈ [(D2, LCg.lst ys2), (pd, od4), (L' + 1, oT), (lf, PySem.W.listOf fv.toArray nf), (lt, PySem.W.listOf tv.toArray nt)], _)) (.head _) ?_ fun g' => ?_
                · first | ((repeat (first | (with_reducible exact sub_nil) | (with_reducible exact sub_refl) | (with_reducible (refine sub_cons ?_ ?_; focus ((repeat (first | exact List.mem_cons_self | refine List.mem_cons_of_mem _ ?_)); done))) | (with_reducible refine sub_tail ?_))); done) | ((repeat (first | (exact sub_nil) | (exact sub_refl) | ((refine sub_cons ?_ ?_; focus ((repeat (first | exact List.mem_cons_self | refine List.mem_cons_of_mem _ ?_)); done))) | (refine sub_tail ?_))); done)
                · rw [List.size_toArray, hyl2, sizeLine_eq]; omega
                refine comp_inv (fun _ : Unit => [(D2, LCg.lst ys2), (pd, od4), (L' + 1, oT), (lf, PySem.W.listOf fv.toArray nf), (lt, PySem.W.listOf tv.toArray nt)]) (fun i zs _ => StrsAre zs (((restOf pl4 ts.length).take i).map (showTag ts))) () (by exact .nil) ?_ ?_
                · rintro i zs ⟨⟩ v I2 oI2 C oC D3 m₂ h tk3 E' hi hv hzs hC hx F5 N5 off ne
                  refine hide fun P_ k_ => ?_
                  obtain ⟨j, tj, hji, rfl⟩ := intsAre_at hys2 hv
                  refine k_ ?_; clear k_ P_
                  have hjm := restOf_lt (List.mem_of_getElem? hji)
                  (try dsimp only at *)
                  (try clear F3); (try clear N3)
                  obtain ⟨y, he⟩ : ∃ y, ts[j]? = some y := ⟨_, List.getElem?_eq_getElem hjm⟩
                  cases y with
                  | none =>
                    k_steps
                    unfold Wall
                    refine wpAny_IfExp ?_
                    k_steps
                    unfold Wall
                    (rename Fr _ _ _ _ => F4)
                    (rename News _ _ _ _ => N4)
                    refine LCg.CompEnd.intro F4 N4 _ (fun p hp => hp) off (.inr ⟨_, .head _, rfl, _, rfl⟩) ⟨(), rfl, ?_⟩
                    rw [take_snoc hji, List.map_append]
                    refine strsAre_snoc2 hzs ?_
                    exact (showTagT_none he).symm
                  | some x =>
                    k_steps
                    unfold Wall
                    refine wpAny_IfExp ?_
                    k_steps
                    · (rename (x == _) = true => hx1)
                      unfold Wall
                      (rename Fr _ _ _ _ => F4)
                      (rename News _ _ _ _ => N4)
                      refine LCg.CompEnd.intro F4 N4 _ (fun p hp => hp) off (.inr ⟨_, .head _, rfl, _, rfl⟩) ⟨(), rfl, ?_⟩
                      rw [take_snoc hji, List.map_append]
                      refine strsAre_snoc2 hzs ?_
                      exact ((showTagT_str he).trans (if_pos (show x = emp from eq_of_beq hx1))).symm
                    · (rename (x == _) = false => hx1)
                      unfold Wall
                      (rename Fr _ _ _ _ => F4)
                      (rename News _ _ _ _ => N4)
                      refine LCg.CompEnd.intro F4 N4 _ (fun p hp => hp) off (.inr ⟨_, .head _, rfl, _, rfl⟩) ⟨(), rfl, ?_⟩
                      rw [take_snoc hji, List.map_append]
                      refine strsAre_snoc2 hzs ?_
                      exact ((showTagT_str he).trans (if_neg (show ¬ (x = emp) from ne_of_beq_false hx1))).symm
                · rintro zs ⟨⟩ hzs D3 h tk3 F5 N5 off
                  (try dsimp only at *)
                  (try clear F3); (try clear N3)
                  rw [List.size_toArray, hyl2, List.take_length] at hzs
                  have hjl := joinTags_len (ts := ts) (rest := restOf pl4 ts.length) (by omega) (fun j hj' => by have := restOf_lt hj'; omega) htag
                  obtain ⟨hjs, hjl⟩ := hjl
                  k_steps
                  unfold Wall
                  refine wpAny_IfExp ?_
                  k_steps
                  · (rename 1 < _ => hlt)
                    (rename Fr _ _ _ _ => F4)
                    (rename News _ _ _ _ => N4)
                    rw [unused_many (by omega)] at hword
                    refine dueD_of (rest := restOf pl4 ts.length) F4 N4 hd4 hp4 hys2 l2 (.inl hword) (.head _) ?_ ?_ ?_ ?_
                    all_goals (repeat (first | exact List.Mem.head _ | apply List.Mem.tail))
                  · (rename ¬ (1 < _) => hlt)
                    (rename Fr _ _ _ _ => F4)
                    (rename News _ _ _ _ => N4)
                    rw [unused_one (by omega)] at hword
                    refine dueD_of (rest := restOf pl4 ts.length) F4 N4 hd4 hp4 hys2 l2 (.inl hword) (.head _) ?_ ?_ ?_ ?_
                    all_goals (repeat (first | exact List.Mem.head _ | apply List.Mem.tail))
end
/-! phase one -/
def usE (n : Nat) (pl : Pl) : List Int := (List.range n).map fun j => if j ∈ pl.map (·.2) then 2 else 0
theorem usE_get {n : Nat} {pl : Pl} {j : Nat} (h : j < n) : (usE n pl)[j]? = some (if j ∈ pl.map (·.2) then 2 else 0) := by
  unfold usE
  rw [List.getElem?_map, List.getElem?_range h]; rfl
theorem usE_len {n : Nat} {pl : Pl} : (usE n pl).length = n := by unfold usE; simp
theorem usE_set {n : Nat} {pl : Pl} {nm : Str} {j : Nat} (h : j < n) : (usE n pl).set j 2 = usE n (pl ++ [(nm, j)]) := by
  apply List.ext_getElem?
  intro i
  rw [List.getElem?_set]
  by_cases hi : i < n
  · rw [usE_get hi, usE_get hi, usE_len]
    by_cases e : j = i
    · subst e
      simp [h]
    · rw [if_neg e]
      have e' : ¬ i = j := fun q => e q.symm
      have e2 : (i ∈ (pl ++ [(nm, j)]).map (·.2)) ↔ (i ∈ pl.map (·.2)) := by simp [e']
      simp only [e2]
  · have h1 : (usE n pl)[i]? = none := List.getElem?_eq_none (by rw [usE_len]; omega)
    have h2 : (usE n (pl ++ [(nm, j)]))[i]? = none := List.getElem?_eq_none (by rw [usE_len]; omega)
    rw [h1, h2, usE_len]
    have e : ¬ j = i := by omega
    rw [if_neg e]
theorem usE_nil {n : Nat} : usE n [] = List.replicate n 0 := by
  unfold usE
  apply List.ext_getElem?
  intro i
  rw [List.getElem?_map, List.getElem?_replicate]
  by_cases h : i < n
  · rw [List.getElem?_range h, if_pos h]; rfl
  · rw [List.getElem?_eq_none (by simp; omega), if_neg h]; rfl
def exRes (us : List Int) (pl : Pl) (nm : Str) : List Nat → Except Str St
  | [] => .ok (us, pl)
  | [j] => .ok (us.set j 2, pl ++ [(nm, j)])
  | _ => .error (dblText nm)
theorem hasP_snoc {pl : Pl} {nm : Str} {j : Nat} : hasP (pl ++ [(nm, j)]) nm = true := by
  unfold hasP; simp
theorem ex_inner {ts : List Tag} {nm : Str} {us : List Int} {pl : Pl} (hd : nm ≠ dots) (hP : hasP pl nm = false) (hu : ∀ j : Nat, ts[j]? = some (some nm) → us[j]? = some 0) :
    ∀ i, foldE (exStep ts nm) (List.range i) (us, pl) = exRes us pl nm (sameTo ts nm i) := by
  intro i
  induction i with
  | zero => rfl
  | succ i ih =>
    have hs : sameTo ts nm (i + 1) = sameTo ts nm i ++ (if ts[i]? = some (some nm) then [i] else []) := by
      unfold sameTo
      rw [filter_succ]
      congr 1
      simp [hd]
    rw [hs, List.range_succ, foldE_append, ih]
    have hlt : ∀ j ∈ sameTo ts nm i, j < i := fun j hj => by
      unfold sameTo at hj
      exact List.mem_range.mp (List.mem_filter.mp hj).1
    revert hlt
    generalize sameTo ts nm i = l
    intro hlt
    match l, hlt with
    | [], _ =>
      simp only [exRes, foldE, List.nil_append]
      unfold exStep
      by_cases h : ts[i]? = some (some nm)
      · rw [if_pos ⟨h, hu i h⟩, if_neg (by rw [hP]; decide), if_pos h]
      · rw [if_neg (fun q => h q.1), if_neg h]
    | [j], hlt =>
      have hji : j < i := hlt j (.head _)
      simp only [exRes, foldE]
      unfold exStep
      by_cases h : ts[i]? = some (some nm)
      · have e : (us.set j 2)[i]? = some 0 := by
          rw [List.getElem?_set_ne (by omega)]
          exact hu i h
        rw [if_pos ⟨h, e⟩, if_pos hasP_snoc, if_pos h]
        rfl
      · rw [if_neg (fun q => h q.1), if_neg h]
        rfl
    | a :: b :: r, _ =>
      simp only [exRes]
      rfl
def okE (n : Nat) : Except Str Pl → Except Str St
  | .ok pl => .ok (usE n pl, pl)
  | .error m => .error m
theorem ex_step {ts : List Tag} {nm : Str} {pl : Pl} (hk : ∀ p ∈ pl, p.1 ≠ nm) (hI : ∀ p ∈ pl, ts[p.2]? = some (some p.1)) : exName ts (usE ts.length pl, pl) nm = okE ts.length (due1Step ts pl nm) := by
  unfold exName due1Step
  by_cases hd : nm = dots
  · rw [if_pos hd]
    have : sameTo ts nm ts.length = [] := by
      unfold sameTo
      rw [List.filter_eq_nil_iff]
      intro j _
      simp [hd]
    rw [this]
    rfl
  · rw [if_neg hd]
    unfold exOf
    rw [ex_inner hd (hasP_false hk) (fun j hj => ?_)]
    · have hlt : ∀ j ∈ sameTo ts nm ts.length, j < ts.length := fun j hj => by
        unfold sameTo at hj
        exact List.mem_range.mp (List.mem_filter.mp hj).1
      revert hlt
      generalize sameTo ts nm ts.length = l
      intro hlt
      match l, hlt with
      | [], _ => rfl
      | [j], hlt =>
        simp only [exRes, okE]
        rw [usE_set (hlt j (.head _))]
      | a :: b :: r, _ => rfl
    · rw [usE_get (List.getElem?_eq_some_iff.mp hj).1, if_neg]
      intro hm
      obtain ⟨p, hp, rfl⟩ := List.mem_map.mp hm
      have := hI p hp
      rw [hj] at this
      cases this
      exact hk p hp rfl
theorem due1_inv {ts : List Tag} {pl pl' : Pl} {nm : Str} (h : due1Step ts pl nm = .ok pl') (hI : ∀ p ∈ pl, ts[p.2]? = some (some p.1)) : (∀ p ∈ pl', ts[p.2]? = some (some p.1)) ∧ (∀ p ∈ pl', p ∈ pl ∨ p.1 = nm) := by
  unfold due1Step at h
  split at h
  · cases h; exact ⟨hI, fun p hp => .inl hp⟩
  · rename_i j e
    cases h
    have hj : ts[j]? = some (some nm) := by
      have : j ∈ sameTo ts nm ts.length := by rw [e]; exact .head _
      unfold sameTo at this
      have := (List.mem_filter.mp this).2
      simp at this
      exact this.2
    refine ⟨fun p hp => ?_, fun p hp => ?_⟩
    · rcases List.mem_append.mp hp with hp | hp
      · exact hI p hp
      · rw [List.mem_singleton.mp hp]; exact hj
    · rcases List.mem_append.mp hp with hp | hp
      · exact .inl hp
      · rw [List.mem_singleton.mp hp]; exact .inr rfl
  · cases h
theorem ex_all {ts : List Tag} : ∀ (l : List Str) (pl : Pl), l.Nodup → (∀ p ∈ pl, p.1 ∉ l) → (∀ p ∈ pl, ts[p.2]? = some (some p.1)) →
    foldE (exName ts) l (usE ts.length pl, pl) = okE ts.length (foldE (due1Step ts) l pl)
  | [], pl, _, _, _ => rfl
  | nm :: r, pl, hn, hk, hI => by
    simp only [foldE]
    rw [ex_step (fun p hp e => hk p hp (e ▸ .head _)) hI]
    rw [List.nodup_cons] at hn
    cases h : due1Step ts pl nm with
    | error m => rfl
    | ok pl' =>
      obtain ⟨h1, h2⟩ := due1_inv h hI
      simp only [okE]
      refine ex_all r pl' hn.2 (fun p hp hm => ?_) h1
      rcases h2 p hp with q | q
      · exact hk p q (.tail _ hm)
      · exact hn.1 (q ▸ hm)
theorem due1_tags {ts : List Tag} : ∀ (l : List Str) (pl pl' : Pl), foldE (due1Step ts) l pl = .ok pl' → (∀ p ∈ pl, ts[p.2]? = some (some p.1)) → ∀ p ∈ pl', ts[p.2]? = some (some p.1)
  | [], pl, pl', h, hI => by cases h; exact hI
  | nm :: r, pl, pl', h, hI => by
    simp only [foldE] at h
    cases h1 : due1Step ts pl nm with
    | error m => rw [h1] at h; cases h
    | ok pl1 =>
      rw [h1] at h
      exact due1_tags r pl1 pl' h (due1_inv h1 hI).1
/-! phase two -/
def uvP (pl : Pl) (pa : Pa) (j : Nat) : Int := if j ∈ pl.map (·.2) then 2 else if hasA pa j = true then 1 else 0
def usP (n : Nat) (pl : Pl) (pa : Pa) : List Int := (List.range n).map (uvP pl pa)
theorem usP_get {n : Nat} {pl : Pl} {pa : Pa} {j : Nat} (h : j < n) : (usP n pl pa)[j]? = some (uvP pl pa j) := by
  unfold usP
  rw [List.getElem?_map, List.getElem?_range h]; rfl
theorem usP_getD {n : Nat} {pl : Pl} {pa : Pa} {j : Nat} (h : j < n) : (usP n pl pa).getD j 0 = uvP pl pa j := by
  rw [List.getD_eq_getElem?_getD, usP_get h]; rfl
theorem usP_len {n : Nat} {pl : Pl} {pa : Pa} : (usP n pl pa).length = n := by unfold usP; simp
theorem usP_nil {n : Nat} {pl : Pl} : usP n pl [] = usE n pl := rfl
theorem hasA_snoc {pa : Pa} {i j : Nat} {nm : Str} : hasA (pa ++ [(j, nm)]) i = (hasA pa i || decide (j = i)) := by
  unfold hasA; simp
theorem hasN_snoc {pa : Pa} {j : Nat} {nm k : Str} : hasN (pa ++ [(j, nm)]) k = (hasN pa k || decide (nm = k)) := by
  unfold hasN; simp
theorem usP_set {n : Nat} {pl : Pl} {pa : Pa} {nm : Str} {j : Nat} (h : j < n) (hj : j ∉ pl.map (·.2)) : (usP n pl pa).set j 1 = usP n pl (pa ++ [(j, nm)]) := by
  apply List.ext_getElem?
  intro i
  rw [List.getElem?_set]
  by_cases hi : i < n
  · rw [usP_get hi, usP_get hi, usP_len]
    unfold uvP
    rw [hasA_snoc]
    by_cases e : j = i
    · subst e
      rw [if_pos rfl, if_pos h, if_neg hj]
      simp
    · rw [if_neg e]
      simp [e]
  · have h1 : (usP n pl pa)[i]? = none := List.getElem?_eq_none (by rw [usP_len]; omega)
    have h2 : (usP n pl (pa ++ [(j, nm)]))[i]? = none := List.getElem?_eq_none (by rw [usP_len]; omega)
    have e : ¬ j = i := by omega
    rw [h1, h2, usP_len, if_neg e]
theorem due3_has {pl : Pl} {pa : Pa} {nm : Str} : hasP (due3 pl pa) nm = (hasP pl nm || hasN pa nm) := by
  unfold due3
  rw [hasP_append]
  congr 1
  unfold hasP hasN
  rw [List.any_map]
  rfl
theorem due3_snoc {pl : Pl} {pa : Pa} {nm : Str} {j : Nat} : due3 pl (pa ++ [(j, nm)]) = due3 pl pa ++ [(nm, j)] := by
  unfold due3; simp
theorem paHit_dHit {nm : Str} {t : Tag} : paHit nm t = dHit nm t := by cases t <;> rfl
def okP (n : Nat) (pl : Pl) : Except Str Pa → Except Str St
  | .ok pa => .ok (usP n pl pa, due3 pl pa)
  | .error m => .error m
theorem pa_step {ts : List Tag} {nm : Str} {pl : Pl} {pa : Pa} {j : Nat} (hj : j < ts.length) (hP : hasP pl nm = false) : paStep ts nm (usP ts.length pl pa, due3 pl pa) j = okP ts.length pl (due2Step ts (pl.map (·.2)) nm pa j) := by
  unfold paStep due2Step
  dsimp only
  rw [usP_getD hj, paHit_dHit, due3_has, hP, Bool.false_or]
  by_cases h1 : j ∈ pl.map (·.2)
  · have e : uvP pl pa j = 2 := by unfold uvP; rw [if_pos h1]
    rw [if_neg (fun q => q.1 e), if_pos (.inl h1)]
    rfl
  · cases h2 : dHit nm (ts.getD j none) with
    | false => rw [if_neg (fun q => absurd q.2 (by decide)), if_pos (.inr rfl)]; rfl
    | true =>
      have hc : ¬ (j ∈ pl.map (·.2) ∨ true = false) := fun q => q.elim h1 (fun q => by cases q)
      cases h3 : hasA pa j with
      | true =>
        have e : uvP pl pa j = 1 := by unfold uvP; rw [if_neg h1, if_pos h3]
        rw [if_pos ⟨by rw [e]; decide, rfl⟩, if_pos e, if_neg hc, if_pos rfl]
        rfl
      | false =>
        have e : uvP pl pa j = 0 := by unfold uvP; rw [if_neg h1, if_neg (by rw [h3]; decide)]
        rw [if_pos ⟨by rw [e]; decide, rfl⟩, if_neg (by rw [e]; decide), if_neg hc]
        cases h4 : hasN pa nm with
        | true => rfl
        | false =>
          show Except.ok ((usP ts.length pl pa).set j 1, due3 pl pa ++ [(nm, j)]) = Except.ok (usP ts.length pl (pa ++ [(j, nm)]), due3 pl (pa ++ [(j, nm)]))
          rw [usP_set hj h1, due3_snoc]
theorem pa_inner {ts : List Tag} {nm : Str} {pl : Pl} (hP : hasP pl nm = false) : ∀ (l : List Nat) (pa : Pa), (∀ j ∈ l, j < ts.length) →
    foldE (paStep ts nm) l (usP ts.length pl pa, due3 pl pa) = okP ts.length pl (foldE (due2Step ts (pl.map (·.2)) nm) l pa)
  | [], pa, _ => rfl
  | j :: r, pa, hl => by
    simp only [foldE]
    rw [pa_step (hl j (.head _)) hP]
    cases h : due2Step ts (pl.map (·.2)) nm pa j with
    | error m => rfl
    | ok pa' => exact pa_inner hP r pa' fun j hj => hl j (.tail _ hj)
theorem pa_name {ts : List Tag} {nm : Str} {pl : Pl} {pa : Pa} (hN : hasN pa nm = false) : paName ts (usP ts.length pl pa, due3 pl pa) nm = okP ts.length pl (due2Name ts pl pa nm) := by
  unfold paName due2Name
  dsimp only
  rw [due3_has, hN, Bool.or_false]
  cases hP : hasP pl nm with
  | true => rw [if_pos rfl, if_pos rfl]; rfl
  | false =>
    rw [if_neg (by decide), if_neg (by decide)]
    exact pa_inner hP _ _ fun j hj => List.mem_range.mp hj
theorem due2_names {ts : List Tag} {pl : Pl} {pa pa' : Pa} {nm : Str} (h : due2Name ts pl pa nm = .ok pa') : ∀ p ∈ pa', p ∈ pa ∨ p.2 = nm := by
  unfold due2Name at h
  split at h
  · cases h; exact fun p hp => .inl hp
  · have := foldE_inv (f := due2Step ts (pl.map (·.2)) nm) (fun (s : Pa) _ => ∀ p ∈ s, p ∈ pa ∨ p.2 = nm) (s := pa) (fun p hp => .inl hp) (fun s a s' i hi e => by
      unfold due2Step at e
      split at e
      · cases e; exact hi
      · split at e
        · cases e
        · split at e
          · cases e
          · cases e
            intro p hp
            rcases List.mem_append.mp hp with hp | hp
            · exact hi p hp
            · rw [List.mem_singleton.mp hp]; exact .inr rfl) _ _ h
    exact this
theorem hasN_false {pa : Pa} {nm : Str} (h : ∀ p ∈ pa, p.2 ≠ nm) : hasN pa nm = false := by
  unfold hasN
  rw [List.any_eq_false]
  intro p hp
  simpa using h p hp
theorem pa_all {ts : List Tag} {pl : Pl} : ∀ (l : List Str) (pa : Pa), l.Nodup → (∀ p ∈ pa, p.2 ∉ l) → foldE (paName ts) l (usP ts.length pl pa, due3 pl pa) = okP ts.length pl (foldE (due2Name ts pl) l pa)
  | [], pa, _, _ => rfl
  | nm :: r, pa, hn, hk => by
    simp only [foldE]
    rw [pa_name (hasN_false fun p hp e => hk p hp (e ▸ .head _))]
    rw [List.nodup_cons] at hn
    cases h : due2Name ts pl pa nm with
    | error m => rfl
    | ok pa' =>
      refine pa_all r pa' hn.2 fun p hp hm => ?_
      rcases due2_names h p hp with q | q
      · exact hk p q (.tail _ hm)
      · exact hn.1 (q ▸ hm)
/-! phase three -/
def frOf (us : List Int) (ts : List Tag) (p : Nat) : List Nat := (List.range ts.length).filter fun j => decide (p ≤ j) && freeB us ts j
theorem range_at {j n : Nat} (h : j < n) : List.range n = List.range j ++ j :: (List.range (n - j - 1)).map (j + 1 + ·) := by
  have h1 : n = (j + 1) + (n - j - 1) := by omega
  conv => lhs; rw [h1, List.range_add, List.range_succ]
  simp
theorem fr_split {p : Nat → Bool} {j n : Nat} (h : j < n) (hb : ∀ i, i < j → p i = false) : (List.range n).filter p = (if p j = true then [j] else []) ++ ((List.range (n - j - 1)).map (j + 1 + ·)).filter p := by
  rw [range_at h, List.filter_append, List.filter_cons]
  have e : (List.range j).filter p = [] := by
    rw [List.filter_eq_nil_iff]
    intro i hi
    rw [hb i (List.mem_range.mp hi)]; decide
  rw [e, List.nil_append]
  cases p j <;> rfl
theorem frOf_end {us : List Int} {ts : List Tag} {p : Nat} (h : ts.length ≤ p) : frOf us ts p = [] := by
  unfold frOf
  rw [List.filter_eq_nil_iff]
  intro j hj
  have := List.mem_range.mp hj
  have e : decide (p ≤ j) = false := decide_eq_false (by omega)
  simp [e]
theorem scan_spec {us : List Int} {ts : List Tag} : ∀ (d p : Nat), ts.length - p = d → p ≤ ts.length → (frOf us ts p = [] ∧ scanF us ts p = ts.length) ∨ ∃ r, frOf us ts p = scanF us ts p :: r ∧ scanF us ts p < ts.length ∧ p ≤ scanF us ts p := by
  intro d
  induction d with
  | zero =>
    intro p hd hp
    left
    refine ⟨frOf_end (by omega), ?_⟩
    rw [scanF_stop (.inl (by omega))]; omega
  | succ d ih =>
    intro p hd hp
    have hlt : p < ts.length := by omega
    cases hf : freeB us ts p with
    | true =>
      right
      rw [scanF_stop (.inr hf)]
      refine ⟨((List.range (ts.length - p - 1)).map (p + 1 + ·)).filter fun j => decide (p ≤ j) && freeB us ts j, ?_, hlt, Nat.le_refl _⟩
      unfold frOf
      rw [fr_split hlt (fun i hi => by rw [decide_eq_false (by omega)]; rfl), if_pos (by rw [hf]; simp)]
      rfl
    | false =>
      rw [scanF_step hlt hf]
      have e : frOf us ts p = frOf us ts (p + 1) := by
        unfold frOf
        apply List.filter_congr
        intro j _
        by_cases hj : j = p
        · subst hj; rw [hf]; simp
        · have : decide (p ≤ j) = decide (p + 1 ≤ j) := decide_eq_decide.mpr (by omega)
          rw [this]
      rw [e]
      rcases ih (p + 1) (by omega) (by omega) with h | ⟨r, h1, h2, h3⟩
      · exact .inl h
      · exact .inr ⟨r, h1, h2, by omega⟩
structure PInv (ts : List Tag) (us : List Int) (pl : Pl) (p : Nat) (fr : List Nat) : Prop where
  len : us.length = ts.length
  le : p ≤ ts.length
  fr : fr = frOf us ts p
  used : ∀ j, j < ts.length → (us.getD j 0 = 0 ↔ j ∉ pl.map (·.2))
theorem getD_set_ne {us : List Int} {i j : Nat} {v : Int} (h : i ≠ j) : (us.set j v).getD i 0 = us.getD i 0 := by
  rw [List.getD_eq_getElem?_getD, List.getD_eq_getElem?_getD, List.getElem?_set_ne (Ne.symm h)]
theorem getD_set_eq {us : List Int} {j : Nat} {v : Int} (h : j < us.length) : (us.set j v).getD j 0 = v := by
  rw [List.getD_eq_getElem?_getD, List.getElem?_set_self h]; rfl
theorem pos_step {ts : List Tag} {us : List Int} {pl : Pl} {p : Nat} {fr : List Nat} (I : PInv ts us pl p fr) (nm : Str) :
    ∃ us' pl' p' fr', posStep ts ((us, pl), p) nm = ((us', pl'), p') ∧ due4Step (pl, fr) nm = (pl', fr') ∧ PInv ts us' pl' p' fr' := by
  unfold posStep due4Step
  dsimp only
  cases hP : hasP pl nm with
  | true => exact ⟨us, pl, p, fr, by rw [if_pos rfl], by rw [if_pos rfl], I⟩
  | false =>
    simp only [Bool.false_eq_true, if_false]
    rcases scan_spec (us := us) _ p rfl I.le with ⟨h1, h2⟩ | ⟨r, h1, h2, h3⟩
    · have e : fr = [] := I.fr.trans h1
      subst e
      refine ⟨us, pl, ts.length, [], ?_, rfl, I.len, Nat.le_refl _, (frOf_end (Nat.le_refl _)).symm, I.used⟩
      rw [h2, if_neg (Nat.lt_irrefl _)]
    · have e : fr = scanF us ts p :: r := I.fr.trans h1
      subst e
      generalize hj : scanF us ts p = j at *
      rw [if_pos h2]
      have hju : j < us.length := by rw [I.len]; exact h2
      refine ⟨us.set j 2, pl ++ [(nm, j)], j, r, rfl, rfl, by rw [List.length_set]; exact I.len, Nat.le_of_lt h2, ?_, ?_⟩
      · have hb : ∀ i, i < j → (decide (p ≤ i) && freeB us ts i) = false := by
          intro i hi
          cases hc : (decide (p ≤ i) && freeB us ts i) with
          | false => rfl
          | true =>
            exfalso
            have hm : i ∈ frOf us ts p := by
              unfold frOf
              exact List.mem_filter.mpr ⟨List.mem_range.mpr (by omega), hc⟩
            rw [h1] at hm
            rcases List.mem_cons.mp hm with q | q
            · omega
            · have hs : (frOf us ts p).Pairwise (· < ·) := by
                unfold frOf
                exact List.Pairwise.filter _ List.pairwise_lt_range
              rw [h1, List.pairwise_cons] at hs
              have := hs.1 i q
              omega
        have hjf : (decide (p ≤ j) && freeB us ts j) = true := by
          have hm : j ∈ frOf us ts p := by rw [h1]; exact .head _
          unfold frOf at hm
          exact (List.mem_filter.mp hm).2
        have h4 := fr_split (p := fun i => decide (p ≤ i) && freeB us ts i) h2 hb
        have h5 : frOf us ts p = _ := h4
        rw [h1, if_pos hjf] at h5
        simp only [List.singleton_append, List.cons.injEq, true_and] at h5
        rw [h5]
        unfold frOf
        rw [fr_split h2 (fun i hi => by rw [decide_eq_false (by omega)]; rfl), if_neg, List.nil_append]
        · apply List.filter_congr
          intro i hi
          obtain ⟨a, _, rfl⟩ := List.mem_map.mp hi
          have e1 : decide (p ≤ j + 1 + a) = true := decide_eq_true (by omega)
          have e2 : decide (j ≤ j + 1 + a) = true := decide_eq_true (by omega)
          rw [e1, e2]
          unfold freeB
          rw [getD_set_ne (by omega)]
        · unfold freeB
          rw [getD_set_eq hju]
          simp
      · intro i hi
        by_cases hij : i = j
        · subst hij
          rw [getD_set_eq hju]
          simp
        · rw [getD_set_ne hij, I.used i hi]
          simp [hij]
theorem pos_all {ts : List Tag} : ∀ (l : List Str) (us : List Int) (pl : Pl) (p : Nat) (fr : List Nat), PInv ts us pl p fr →
    ∃ us' pl' p' fr', l.foldl (posStep ts) ((us, pl), p) = ((us', pl'), p') ∧ l.foldl due4Step (pl, fr) = (pl', fr') ∧ PInv ts us' pl' p' fr'
  | [], us, pl, p, fr, I => ⟨us, pl, p, fr, rfl, rfl, I⟩
  | nm :: r, us, pl, p, fr, I => by
    obtain ⟨us1, pl1, p1, fr1, h1, h2, I1⟩ := pos_step I nm
    simp only [List.foldl_cons]
    rw [h1, h2]
    exact pos_all r us1 pl1 p1 fr1 I1
theorem rest_same {ts : List Tag} {us : List Int} {pl : Pl} {p : Nat} {fr : List Nat} (I : PInv ts us pl p fr) : restTo us ts.length = restOf pl ts.length := by
  unfold restTo restOf
  apply List.filter_congr
  intro j hj
  exact decide_eq_decide.mpr (I.used j (List.mem_range.mp hj))
theorem due2_hits {ts : List Tag} {pl : Pl} {l : List Str} {pa : Pa} (h : foldE (due2Name ts pl) l [] = .ok pa) : ∀ p ∈ pa, dHit p.2 (ts.getD p.1 none) = true := by
  refine foldE_inv (f := due2Name ts pl) (fun (s : Pa) _ => ∀ p ∈ s, dHit p.2 (ts.getD p.1 none) = true) (s := []) (fun _ h => nomatch h) (fun s a s' i hi e => ?_) _ _ h
  unfold due2Name at e
  split at e
  · cases e; exact hi
  · refine foldE_inv (f := due2Step ts (pl.map (·.2)) a) (fun (s : Pa) _ => ∀ p ∈ s, dHit p.2 (ts.getD p.1 none) = true) hi (fun s b s' i hi e => ?_) _ _ e
    unfold due2Step at e
    split at e
    · cases e; exact hi
    · rename_i hc
      split at e
      · cases e
      · split at e
        · cases e
        · cases e
          intro p hp
          rcases List.mem_append.mp hp with hp | hp
          · exact hi p hp
          · rw [List.mem_singleton.mp hp]
            cases hd : dHit a (ts.getD b none) with
            | true => rfl
            | false => exact absurd (.inr hd) hc
theorem mem_hasA {pa : Pa} {j : Nat} : hasA pa j = false ↔ j ∉ pa.map (·.1) := by
  constructor
  · exact hasA_mem
  · intro h
    unfold hasA
    rw [List.any_eq_false]
    intro p hp
    simp only [decide_eq_true_eq]
    intro e
    exact h (List.mem_map.mpr ⟨p, hp, e⟩)
theorem due_match {ts : List Tag} {fs : List Str} (hn : fs.Nodup) (he : emp ∉ fs) : dueP ts fs = matchP ts fs := by
  have hx : exAll ts fs (List.replicate ts.length 0, []) = okE ts.length (foldE (due1Step ts) fs []) := by
    unfold exAll
    rw [← usE_nil]
    exact ex_all fs [] hn (fun _ h => nomatch h) (fun _ h => nomatch h)
  unfold dueP matchP
  rw [hx]
  cases h1 : foldE (due1Step ts) fs [] with
  | error m => rfl
  | ok pl =>
    have htags := due1_tags fs [] pl h1 (fun _ h => nomatch h)
    have hkeys := (due1_keys (i := fs.length) (by rw [List.take_length]; exact h1)).1
    rw [List.take_length] at hkeys
    simp only [okE]
    have ha : (ahead fs).Nodup := hn.sublist (List.takeWhile_sublist _)
    have h3 : (usE ts.length pl, pl) = (usP ts.length pl [], due3 pl []) := by rw [usP_nil]; unfold due3; simp
    have hp : paAll ts (ahead fs) (usE ts.length pl, pl) = okP ts.length pl (foldE (due2Name ts pl) (ahead fs) []) := by
      unfold paAll
      rw [h3]
      exact pa_all _ _ ha (fun _ h => nomatch h)
    rw [hp]
    cases h2 : foldE (due2Name ts pl) (ahead fs) [] with
    | error m => rfl
    | ok pa =>
      have hhits := due2_hits h2
      simp only [okP]
      have hnf : ∀ j, j < ts.length → tagFree (ts.getD j (some dots)) = true → j ∉ pl.map (·.2) ∧ hasA pa j = false := by
        intro j hj hf
        constructor
        · intro hm
          obtain ⟨p, hp, rfl⟩ := List.mem_map.mp hm
          have ht := htags p hp
          rw [List.getD_eq_getElem?_getD, ht] at hf
          have e : p.1 = emp := eq_of_beq hf
          exact he (e ▸ hkeys p hp)
        · rw [mem_hasA]
          intro hm
          obtain ⟨p, hp, rfl⟩ := List.mem_map.mp hm
          have hh := hhits p hp
          rw [List.getD_eq_getElem?_getD, List.getElem?_eq_getElem hj] at hf hh
          simp only [Option.getD_some] at hf hh
          revert hf hh
          generalize ts[p.1] = y
          intro hf hh
          cases y with
          | none => cases hh
          | some x =>
            have e : x = emp := eq_of_beq hf
            subst e
            unfold dHit at hh
            simp at hh
      have hI : PInv ts (usP ts.length pl pa) (due3 pl pa) 0 (freeTo ts ts.length) := by
        refine ⟨usP_len, Nat.zero_le _, ?_, ?_⟩
        · unfold freeTo frOf
          apply List.filter_congr
          intro j hj
          have hj := List.mem_range.mp hj
          unfold freeB
          rw [usP_getD hj]
          cases hf : tagFree (ts.getD j (some dots)) with
          | false => simp
          | true =>
            obtain ⟨q1, q2⟩ := hnf j hj hf
            unfold uvP
            rw [if_neg q1, q2]
            simp
        · intro j hj
          rw [usP_getD hj]
          unfold uvP
          have e : (due3 pl pa).map (·.2) = pl.map (·.2) ++ pa.map (·.1) := by unfold due3; simp
          rw [e, List.mem_append, not_or]
          by_cases q1 : j ∈ pl.map (·.2)
          · rw [if_pos q1]
            constructor
            · intro q; cases q
            · intro q; exact absurd q1 q.1
          · rw [if_neg q1]
            cases q2 : hasA pa j with
            | true =>
              rw [if_pos rfl]
              constructor
              · intro q; cases q
              · intro q
                have := mem_hasA.mpr q.2
                rw [q2] at this; cases this
            | false =>
              rw [if_neg (by decide)]
              exact ⟨fun _ => ⟨q1, hasA_mem q2⟩, fun _ => rfl⟩
      obtain ⟨us', pl', p', fr', e1, e2, I'⟩ := pos_all (ahead fs) _ _ _ _ hI
      have e3 : posAll ts (ahead fs) (usP ts.length pl pa, due3 pl pa) = (us', pl') := by unfold posAll; rw [e1]
      rw [e2, e3]
      simp only [rest_same I']
structure PoolOk (b x y : Int) : Prop where
  x0 : 0 ≤ x
  x1 : x < 10 ^ 60
  y0 : 0 ≤ y
  y1 : y ≤ b
theorem PoolOk.up {b c x y : Int} (h : PoolOk b x y) (l : b ≤ c) : PoolOk c x y := ⟨h.x0, h.x1, h.y0, Int.le_trans h.y1 l⟩
section
variable {w : World} {mean : ExcName → Option Value} {mg mb : Str → Option Value} {base : Heap} {outer : List Env} {s : Shared} {news : List (Addr × Obj)} {A A₀ : Around} {prog : Program}
  {g : Heap} {L : Addr} {m : Str → Option Value} {env : Env} {Q : Value → Shared → Prop} {E : Value → Shared → Prop} {pa lc : Addr} {cv : List Value} {cs : List Int} {x y most b : Int} {tx ty tm : Tok} {n nc : Nat} {ug : Obj → List (Addr × Obj)}
theorem use_draw (G : Gr w mean mg mb base) (B : Below A₀ base outer g) (F : Fr g L s.heap m) (N : News g L s.heap news) (hP : PoolOk b x y) (U : UpdF pa (poolO x y tx ty lc n) news ug)
   (hlc : (lc, PySem.W.listOf cv.toArray nc) ∈ news) (hne : lc ≠ pa) (hcs : IntsAre cv cs) (hc1 : 1 ≤ cs.length) (hc2 : cs.length ≤ 40) (hb : b ≤ 100) (hm0 : 0 < most) (hm1 : most ≤ 100)
   (rm : Room A (env :: outer) 2) (hf : env.frame = some L) (hk : env.scope.kind = .function)
   (k : ∀ (j : Nat) t x' tx' y' ty' h' tk', (j : Int) < most → PoolOk (b + 1) x' y' → Fr g L h' m → News g L h' (ug (poolO x' y' tx' ty' lc n)) → Q (.int (j : Int) t) { s with heap := h', toks := tk' }) :
   wpAny (model prog w) A (call (.ref 145) [.ref pa, .int most tm]) Q E s := by
  obtain ⟨pre, post, rfl, hug, a1, a2⟩ := U.split
  refine use_plain (T := [(pa, poolO x y tx ty lc n)]) (rest := pre ++ post) (D := drawD pa lc n y most) (args := ⟨[.ref pa, .int most tm], []⟩) B F N hf hk (fun p hp => by rw [List.mem_singleton.mp hp]; simp) (fun p hp => ⟨?_, ?_⟩)
    (fun R a k => draw_c G a ⟨_, (N _ hlc).1, rfl, nc, rfl⟩ hne hcs hc1 hc2 hP.x0 hP.x1 hP.y0 (Int.le_trans hP.y1 hb) hm0 hm1 rm k) ?_
  · rcases List.mem_append.mp hp with hp | hp <;> simp [hp]
  · simp only [List.map_cons, List.map_nil, List.mem_singleton]
    rcases List.mem_append.mp hp with hp | hp
    · exact a1 p hp
    · exact a2 p hp
  · rintro v h' tk' T' F' N' ⟨d, t, x', tx', y', ty', rfl, rfl, h1, h2, h3, h4, h5, h6⟩ _
    obtain ⟨j, rfl⟩ := Int.eq_ofNat_of_zero_le h1
    refine k j t x' tx' y' ty' h' tk' h2 ⟨h3, h4, h5, by have := hP.y1; omega⟩ F' (kst_newsOf N' ?_)
    intro p hp
    rw [hug] at hp
    simp only [List.mem_append, List.mem_cons] at hp ⊢
    rcases hp with hp | rfl | hp
    · exact .inr (.inl hp)
    · exact .inl (.inl rfl)
    · exact .inr (.inr hp)
end
theorem with_lit155 {α : Type} {P : Prop} {x : Option α} {l : α} (h : x = some l) (k : x = some l → P) : P := k h
theorem cleanL143 : True := by
  w_top off
  k_with_none
  exact trivial
theorem fillL1 : (PySem.Challenge.rw_no0499_01 = PySem.Challenge.rw_no0499_01) ∧ hd.heap_39 = hd.heap_39 := by
  k_fill
  exact ⟨rfl, rfl⟩
def names0 : List Str := [Str.ofString "a", Str.ofString "ab", Str.ofString "abc", Str.ofString "b", Str.ofString "ba", Str.ofString "..."]
theorem names0_nodup : names0.Nodup := by decide +kernel
structure S6 where
  ys : List Value
  nv : List Value
  c : Nat
  fs : List Str
  ns : List Str
  x : Int
  y : Int
  tx : Tok
  ty : Tok
theorem perm_pop {fs ns : List Str} {k : Nat} {x : Str} (h : (fs ++ ns).Perm names0) (e : ns[k]? = some x) : ((fs ++ [x]) ++ (ns.take k ++ ns.drop (k + 1))).Perm names0 := by
  refine List.Perm.trans ?_ h
  have hlt := (List.getElem?_eq_some_iff.mp e).1
  have e2 : ns = ns.take k ++ x :: ns.drop (k + 1) := by
    have h3 : ns[k] = x := (List.getElem?_eq_some_iff.mp e).2
    rw [← h3, List.getElem_cons_drop, List.take_append_drop]
  conv => rhs; rw [e2]
  rw [List.append_assoc]
  refine List.Perm.append_left fs ?_
  exact (List.perm_middle (a := x) (l₁ := ns.take k) (l₂ := ns.drop (k + 1))).symm
section
variable {prog : Program} {w : World} {A : Around} {E : Value → Shared → Prop} {s : Shared} {h₀ : Heap} {L D : Addr} {m : Str → Option Value} {news news' : List (Addr × Obj)} {n : Nat}
theorem pop_strs {vs : List Value} {ns : List Str} {k : Nat} {u : Tok} {Q : Value → Shared → Prop} (F : Fr h₀ L s.heap m) (N : News h₀ L s.heap news) (hs : StrsAre vs ns) (hk : k < ns.length) (U : Upd D (PySem.W.listOf vs.toArray n) (PySem.W.listOf (vs.take k ++ vs.drop (k + 1)).toArray (n + 1)) news news') (hz : ns.length ≤ 1000)
    (h : ∀ h' x t, ns[k]? = some x → Fr h₀ L h' m → News h₀ L h' news' → StrsAre (vs.take k ++ vs.drop (k + 1)) (ns.take k ++ ns.drop (k + 1)) → Q (.str x t) { s with heap := h' }) : wpAny (model prog w) A (call (.builtin "list.pop") [.ref D, .int (k : Int) u]) Q E s := by
  obtain ⟨t, ht⟩ := hs.at (List.getElem?_eq_getElem hk)
  refine pop_led F N ht U (by rw [hs.length]; exact hz) fun h' F' N' => h h' _ t (List.getElem?_eq_getElem hk) F' N' ?_
  exact StrsAre.append' (hs.take' k) (hs.drop' (k + 1))
theorem append_u {lv : Addr} {ys : List Value} {x : Value} {Q : Value → Shared → Prop} (F : Fr h₀ L s.heap m) (N : News h₀ L s.heap news) (U : Upd lv (LCg.lst ys) (LCg.lst (ys ++ [x])) news news') (hsz : ys.length ≤ 1000)
    (h : ∀ h', Fr h₀ L h' m → News h₀ L h' news' → Q .none { s with heap := h' }) : wpAny (model prog w) A (call (.builtin "list.append") [.ref lv, x]) Q E s := by
  rw [← LCg.lst_snoc ys x] at U
  exact append_K F N U h (by rw [List.size_toArray, sizeLine_eq]; omega)
end
theorem cleanL144 : True := by
  k_with "z_k_ne" => (((try dsimp only); first | assumption | exact Ne.symm (by assumption)))
  k_with "z:exec For Name Call cons nil" => (refine wall ?_)
  k_with "z:pyIter ref" => (refine wall ?_)
  k_with "z:call type:range" => (refine wall ?_)
  k_with "z:call builtin:len" => (((with_reducible show wpAny _ _ (call (Value.builtin _) [Value.ref _]) _ _ _); k_dflt (apply len_led; (case N => k_asm); (case hm => k_mem); (case hn => k_asm); (case hs => omega))))
  k_with "z_use_draw_call_ref" => ((with_reducible show wpAny _ _ (call (Value.ref 145) [_, _]) _ _ _); apply use_draw; (case G => assumption); (case B => assumption); (case F => k_asm); (case N => k_asm); (case hP => assumption); (case U => k_updF); (case hlc => k_mem); (case hne => assumption); (case hcs => assumption); (case hc1 => omega); (case hc2 => omega); (case hb => omega); (case hm0 => omega); (case hm1 => omega); (case rm => (exact RoomUp.use (by assumption) (by omega))); (case hf => exact rfl); (case hk => exact rfl))
  k_with "z_pop_strs_call_builtin_list_pop" => ((with_reducible show wpAny _ _ (call (Value.builtin _) [Value.ref _, Value.int _ _]) _ _ _); apply pop_strs; (case F => k_asm); (case N => k_asm); (case hs => assumption); (case hk => omega); (case U => k_upd); (case hz => omega))
  k_with "z_append_u_call_builtin_list_append" => ((with_reducible show wpAny _ _ (call (Value.builtin _) [Value.ref _, _]) _ _ _); apply append_u; (case F => k_asm); (case N => k_asm); (case U => k_upd); (case hsz => omega))
  exact trivial
section
variable {w : World} {mean : ExcName → Option Value} {mg mb : Str → Option Value} {A : Around} {prog : Program} {s : Shared}
theorem law_ph3 {oc : Value} {od0 : Option Addr} {osl : Array (Option Value)} {name qual : Str} {params : Arguments} {s0 s1 s2 s3 : Stmt} {srest : List Stmt} {scope : Scope} {dV kV doc pm cdv0 cdv ct : Value} {an : Option Addr}
   (hst : (hd.heap_39 w.params).lookup 155 = some ⟨oc, od0, .func (fnX name qual params (s0 :: s1 :: s2 :: s3 :: srest) scope [] dV kV doc pm an cdv0 ct), osl⟩)
   {g : Heap} {L' : Nat} {f : Addr} {m₀ : Str → Option Value} {oP oT oA : Obj} {E : Value → Shared → Prop} {Q : Flow → Shared → Prop} {dp un : Nat} {gd : Option (List Code)}
   {fm nm pa lc : Nat} {nv0 cv : List Value} {cs : List Int} {c0 nP nL : Nat} {tx ty : Tok}
   (hA : A = (Ar dp un gd []).deeper (envOfC qual scope L' f cdv)) (hun : un + 20 * 20 < cLine) (rmU : RoomUp (Ar dp un gd []) [] 20)
   (G : Gr w mean mg mb g) (B : Below (Ar dp un gd []) g [] g) (hE : PassesOwn (model prog w) A (envOfC qual scope L' f cdv) E)
   (F0 : Fr g L' s.heap (kstB m₀ [(Str.ofString "names", .ref nm), (Str.ofString "formals", .ref fm)]))
   (N0 : News g L' s.heap [(fm, LCg.lst []), (nm, PySem.W.listOf nv0.toArray c0), (pa, poolO 0 0 tx ty lc nP), (lc, PySem.W.listOf cv.toArray nL), (L' + 1 + 1 + 1, oA), (L' + 1 + 1, oT), (L' + 1, oP)])
   (hn0 : StrsAre nv0 names0) (hcs : IntsAre cv cs) (hc1 : 1 ≤ cs.length) (hc2 : cs.length ≤ 40)
   (hl : L' + 1 + 1 + 1 < lc ∧ lc < pa ∧ pa < nm ∧ nm < fm) (dP : oP.data = .cell (some (.ref pa)))
   (k : ∀ m' h tk ys fs ns x y tx ty, StrsAre ys fs → (fs ++ ns).Perm names0 → 1 ≤ fs.length → fs.length ≤ 5 → PoolOk 6 x y → Fr g L' h (kstB m' [(Str.ofString "formals", .ref fm)]) →
     News g L' h [(fm, LCg.lst ys), (pa, poolO x y tx ty lc nP), (lc, PySem.W.listOf cv.toArray nL), (L' + 1 + 1 + 1, oA), (L' + 1 + 1, oT), (L' + 1, oP)] → Q .next { s with heap := h, toks := tk }) :
   wpAny (model prog w) A (exec s3 (envOfC qual scope L' f cdv)) Q E s := by
  refine with_lit (x := (hd.heap_39 w.params).lookup 155) (by k_is) fun e => ?_
  replace e := hst.symm.trans e
  clear hst
  cases e
  subst hA
  have X' := G.kin
  have T' := G.top
  refine hide fun P_ k_ => ?_
  obtain ⟨l1, l2, l3, l4⟩ := hl
  refine k_ ?_; clear k_ P_
  have hP0 : PoolOk 0 0 0 := ⟨by decide, by decide, by decide, by decide⟩
  have ne_lp : lc ≠ pa := Nat.ne_of_lt l2
  refine hide fun P_ k_ => ?_
  obtain ⟨_, _, _, _, _⟩ : fm ≠ pa ∧ nm ≠ pa ∧ L' + 1 + 1 + 1 ≠ pa ∧ L' + 1 + 1 ≠ pa ∧ L' + 1 ≠ pa := ⟨Nat.ne_of_gt (by omega), Nat.ne_of_gt (by omega), Nat.ne_of_lt (by omega), Nat.ne_of_lt (by omega), Nat.ne_of_lt (by omega)⟩
  obtain ⟨_, _, _, _, _⟩ : fm ≠ nm ∧ lc ≠ nm ∧ L' + 1 + 1 + 1 ≠ nm ∧ L' + 1 + 1 ≠ nm ∧ L' + 1 ≠ nm := ⟨Nat.ne_of_gt (by omega), Nat.ne_of_lt (by omega), Nat.ne_of_lt (by omega), Nat.ne_of_lt (by omega), Nat.ne_of_lt (by omega)⟩
  obtain ⟨_, _, _, _⟩ : lc ≠ fm ∧ L' + 1 + 1 + 1 ≠ fm ∧ L' + 1 + 1 ≠ fm ∧ L' + 1 ≠ fm := ⟨Nat.ne_of_lt (by omega), Nat.ne_of_lt (by omega), Nat.ne_of_lt (by omega), Nat.ne_of_lt (by omega)⟩
  refine k_ ?_; clear k_ P_
  refine For_invV g rfl rfl ?_
  k_steps
  unfold Wall
  rename_i j tj x1 tx1 y1 ty1 h1 tk1 hj hPx F1 N1
  have ej : (1 : Int) + (j : Int) = ((1 + j : Nat) : Int) := by omega
  rw [ej]
  refine range1_rows F1 N1 ?_
  intro h2 tk2 t2 u2 v2 R2 F2 N2 _
  k_steps
  unfold Wall
  (rename Fr _ _ _ _ => F3)
  (rename News _ _ _ _ => N3)
  refine loop_range (n := 1 + j) (fun c : S6 => [(fm, LCg.lst c.ys), (nm, PySem.W.listOf c.nv.toArray c.c), (pa, poolO c.x c.y c.tx c.ty lc nP), (lc, PySem.W.listOf cv.toArray nL), (L' + 1 + 1 + 1, oA), (L' + 1 + 1, oT), (L' + 1, oP)])
    (fun _ => [(Str.ofString "names", .ref nm), (Str.ofString "formals", .ref fm)]) []
    (fun i c => StrsAre c.ys c.fs ∧ StrsAre c.nv c.ns ∧ (c.fs ++ c.ns).Perm names0 ∧ c.fs.length = i ∧ PoolOk (1 + i) c.x c.y) ⟨[], nv0, c0, [], names0, x1, y1, tx1, ty1⟩ rfl R2 (small_zero (by omega)) F3 N3 ?_ ⟨.nil, hn0, List.Perm.refl _, rfl, hPx⟩ ?_ ?_
  · repeat (first | with_reducible exact allP_nil | refine allP_cons (by exact rfl) ?_)
  · rintro ⟨ys, nv, c, fs, ns, x, y, tx, ty⟩ i t u h tk I oI hi hI hq_ F N
    refine hide fun P_ k_ => ?_
    obtain ⟨hys, hnv, hpm, hfl, hP⟩ := hq_
    refine k_ ?_; clear k_ P_
    (try dsimp only at *)
    clear F1 N1 F3 N3 F0 N0 hP0 hPx
    have lI := allNe_of hI
    simp only [AllNe, and_true] at lI
    refine hide fun P_ k_ => ?_
    obtain ⟨_, _, _, _, _, _, _⟩ := lI
    refine k_ ?_; clear k_ P_
    have hlen := hpm.length_eq
    rw [List.length_append, show names0.length = 6 from rfl] at hlen
    have hnl := hnv.length
    have hyl := hys.length
    k_steps
    rename_i j2 t2 x2 tx2 y2 ty2 h2 tk2 hj2 hP2 F5 N5 h3 xs ts e2 F6 N6 hs2 h4 F7 N7
    refine LoopEnd.fin ⟨ys ++ [.str xs ts], nv.take j2 ++ nv.drop (j2 + 1), c + 1, fs ++ [xs], ns.take j2 ++ ns.drop (j2 + 1), x2, y2, tx2, ty2⟩ (.inl rfl) F7 N7 (fun p hp => .tail _ hp) (.head _) (off_of hI rfl) ?_ kst_h5 ⟨strsAre_snoc hys, hs2, perm_pop hpm e2, ?_, hP2.up (by omega)⟩
    · repeat (first | with_reducible exact allP_nil | refine allP_cons (by exact rfl) ?_)
    · rw [List.length_append, hfl]; rfl
  · rintro ⟨ys, nv, c, fs, ns, x, y, tx, ty⟩ u h tk hq_ F N
    refine hide fun P_ k_ => ?_
    obtain ⟨hys, hnv, hpm, hfl, hP⟩ := hq_
    refine k_ ?_; clear k_ P_
    (try dsimp only at *)
    refine k _ h tk ys fs ns x y tx ty hys hpm (by omega) (by omega) (hP.up (by omega)) (kstM [(Str.ofString "formals", .ref fm)] F ?_) (kst_newsOf N ?_)
    · intro p hp
      simp only [List.mem_cons, List.not_mem_nil, or_false] at hp
      rcases hp with rfl
      rfl
    · first | ((repeat (first | (with_reducible exact sub_nil) | (with_reducible exact sub_refl) | (with_reducible (refine sub_cons ?_ ?_; focus ((repeat (first | exact List.mem_cons_self | refine List.mem_cons_of_mem _ ?_)); done))) | (with_reducible refine sub_tail ?_))); done) | ((repeat (first | (exact sub_nil) | (exact sub_refl) | ((refine sub_cons ?_ ?_; focus ((repeat (first | exact List.mem_cons_self | refine List.mem_cons_of_mem _ ?_)); done))) | (refine sub_tail ?_))); done)
end
theorem cleanL245 : True := by
  w_top off
  k_with_none
  exact trivial
theorem fillL2 : (PySem.Challenge.rw_no0499_01 = PySem.Challenge.rw_no0499_01) ∧ hd.heap_39 = hd.heap_39 := by
  k_fill
  exact ⟨rfl, rfl⟩
def menu : List Tag := [none, none, some (Str.ofString ""), some (Str.ofString "a"), some (Str.ofString "ab"), some (Str.ofString "abc"), some (Str.ofString "b"), some (Str.ofString "ba"), some (Str.ofString "abcd"), some (Str.ofString "c")]
structure S7 where
  x : Int
  y : Int
  tx : Tok
  ty : Tok
  ts : List Tag
section
variable {prog : Program} {w : World} {A : Around} {E : Value → Shared → Prop} {s : Shared} {h₀ : Heap} {L : Addr} {news : List (Addr × Obj)}
theorem item_menu {value slice : Expr} {l : Addr} {vs : List Value} {nn : Nat} {ts : List Tag} {j : Nat} {u : Tok} {Q : Value → Shared → Prop}
    (N : News h₀ L s.heap news) (hm : (l, PySem.W.listOf vs.toArray nn) ∈ news) (ht : TagsAre vs ts) (hk : j < ts.length) (hb : ts.length ≤ 1000)
    (h : ∀ v y, ts[j]? = some y → IsTag v y → Q v s)
    (hs : subscripted slice false (.ref l) (.int (j : Int) u) = operate [.ref l, .int (j : Int) u] (getItem (.ref l) (.int (j : Int) u)) := by with_unfolding_all rfl) :
    wpAny (model prog w) A (subscriptTail value slice (.ref l) (.int (j : Int) u)) Q E s := by
  have hl : s.heap.IsList l vs.toArray := ⟨_, (N _ hm).1, rfl, nn, rfl⟩
  obtain ⟨v, hv, r⟩ := ht.get' (List.getElem?_eq_getElem hk)
  refine tail_any hl.typeIs slot_list_getitem.lookup (wpAny_getItem_list hl (Int.ofNat_nonneg j) (by omega) (by simpa using hv) ?_) hs
  exact h v _ (List.getElem?_eq_getElem hk) r
end
theorem cleanL246 : True := by
  k_with "z_k_ne" => (((try dsimp only); first | assumption | exact Ne.symm (by assumption)))
  k_with "z:pyIter ref" => (refine wall ?_)
  k_with "z:call type:range" => (refine wall ?_)
  k_with "z:eval ListComp" => (refine wall ?_)
  k_with "z:CompSrc" => (refine wall ?_)
  k_with "z:CompEnd" => (refine wall ?_)
  k_with "z:FinE" => (refine wall ?_)
  k_with "z:FinA" => (refine wall ?_)
  k_with "z:call builtin:len" => (((with_reducible show wpAny _ _ (call (Value.builtin _) [Value.ref _]) _ _ _); k_dflt (apply len_led; (case N => k_asm); (case hm => k_mem); (case hn => k_asm); (case hs => omega))))
  k_with "z_use_draw_call_ref" => ((with_reducible show wpAny _ _ (call (Value.ref 145) [_, _]) _ _ _); apply use_draw; (case G => assumption); (case B => assumption); (case F => k_asm); (case N => k_asm); (case hP => assumption); (case U => k_updF); (case hlc => k_mem); (case hne => assumption); (case hcs => assumption); (case hc1 => omega); (case hc2 => omega); (case hb => omega); (case hm0 => omega); (case hm1 => omega); (case rm => (exact RoomUp.use (by assumption) (by omega))); (case hf => exact rfl); (case hk => exact rfl))
  exact trivial
theorem menu_are {a b c d e f g h : Tok} : TagsAre [.none, .none, .str (Str.ofString "") a, .str (Str.ofString "a") b, .str (Str.ofString "ab") c, .str (Str.ofString "abc") d, .str (Str.ofString "b") e, .str (Str.ofString "ba") f, .str (Str.ofString "abcd") g, .str (Str.ofString "c") h] menu :=
  .cons rfl (.cons rfl (.cons ⟨_, rfl⟩ (.cons ⟨_, rfl⟩ (.cons ⟨_, rfl⟩ (.cons ⟨_, rfl⟩ (.cons ⟨_, rfl⟩ (.cons ⟨_, rfl⟩ (.cons ⟨_, rfl⟩ (.cons ⟨_, rfl⟩ .nil)))))))))
theorem menu_len : menu.length = 10 := rfl
section
variable {w : World} {mean : ExcName → Option Value} {mg mb : Str → Option Value} {A : Around} {prog : Program} {s : Shared}
theorem law_ph4 {oc : Value} {od0 : Option Addr} {osl : Array (Option Value)} {name qual : Str} {params : Arguments} {s0 s1 s2 s3 s4 : Stmt} {srest : List Stmt} {scope : Scope} {dV kV doc pm cdv0 cdv ct : Value} {an : Option Addr}
   (hst : (hd.heap_39 w.params).lookup 155 = some ⟨oc, od0, .func (fnX name qual params (s0 :: s1 :: s2 :: s3 :: s4 :: srest) scope [] dV kV doc pm an cdv0 ct), osl⟩)
   {g : Heap} {L' : Nat} {f : Addr} {m₀ : Str → Option Value} {oP oT oA : Obj} {E : Value → Shared → Prop} {Q : Flow → Shared → Prop} {dp un : Nat} {gd : Option (List Code)}
   {fm pa lc : Nat} {fv cv : List Value} {cs : List Int} {nP nL : Nat} {x y : Int} {tx ty : Tok}
   (hA : A = (Ar dp un gd []).deeper (envOfC qual scope L' f cdv)) (rmU : RoomUp (Ar dp un gd []) [] 20)
   (G : Gr w mean mg mb g) (B : Below (Ar dp un gd []) g [] g) (hE : PassesOwn (model prog w) A (envOfC qual scope L' f cdv) E)
   (F0 : Fr g L' s.heap (kstB m₀ [(Str.ofString "formals", .ref fm)]))
   (N0 : News g L' s.heap [(fm, LCg.lst fv), (pa, poolO x y tx ty lc nP), (lc, PySem.W.listOf cv.toArray nL), (L' + 1 + 1 + 1, oA), (L' + 1 + 1, oT), (L' + 1, oP)])
   (hcs : IntsAre cv cs) (hc1 : 1 ≤ cs.length) (hc2 : cs.length ≤ 40) (hP : PoolOk 6 x y)
   (hl : L' + 1 + 1 + 1 < lc ∧ lc < pa ∧ pa < fm) (dP : oP.data = .cell (some (.ref pa))) (dT : oT.data = .cell none)
   (k : ∀ m' h tk tl tv ts oT', TagsAre tv ts → ts.length ≤ 6 → (∀ y ∈ ts, y ∈ menu) → oT'.data = .cell (some (.ref tl)) → tl ≠ fm → tl ≠ L' + 1 + 1 + 1 → Fr g L' h (kstB m' [(Str.ofString "formals", .ref fm)]) →
     News g L' h [(tl, LCg.lst tv), (fm, LCg.lst fv), (L' + 1 + 1 + 1, oA), (L' + 1 + 1, oT'), (L' + 1, oP)] → Q .next { s with heap := h, toks := tk }) :
   wpAny (model prog w) A (exec s4 (envOfC qual scope L' f cdv)) Q E s := by
  refine with_lit (x := (hd.heap_39 w.params).lookup 155) (by k_is) fun e => ?_
  replace e := hst.symm.trans e
  clear hst
  cases e
  subst hA
  have X' := G.kin
  have T' := G.top
  obtain ⟨l1, l2, l3⟩ := hl
  have ne_lp : lc ≠ pa := Nat.ne_of_lt l2
  refine hide fun P_ k_ => ?_
  obtain ⟨_, _, _, _⟩ : fm ≠ pa ∧ L' + 1 + 1 + 1 ≠ pa ∧ L' + 1 + 1 ≠ pa ∧ L' + 1 ≠ pa := ⟨Nat.ne_of_gt (by omega), Nat.ne_of_lt (by omega), Nat.ne_of_lt (by omega), Nat.ne_of_lt (by omega)⟩
  refine k_ ?_; clear k_ P_
  k_steps
  unfold Wall
  refine LCg.ListComp_U (F₀ := F0) (by with_unfolding_all rfl) (by decide) (by rfl) (by decide) (by rfl) ?_
  k_steps
  unfold Wall
  rename_i j0 tj x1 tx1 y1 ty1 h1 tk1 hj hPx F1 N1
  refine range1_rows F1 N1 ?_
  intro h2 tk2 t2 u2 v2 R2 F2 N2 _
  (try dsimp only)
  k_steps
  unfold Wall
  refine LCg.CompSrc.range (n := j0) (by rfl) F2 N2 R2 (small_zero (by omega)) (by simpa using rangeSize_nat 0 j0) (by rw [sizeLine_eq]; omega) fun g' => ?_
  refine comp_inv (fun c : S7 => [(fm, LCg.lst fv), (pa, poolO c.x c.y c.tx c.ty lc nP), (lc, PySem.W.listOf cv.toArray nL), (L' + 1 + 1 + 1, oA), (L' + 1 + 1, oT), (L' + 1, oP)])
    (fun i ys c => TagsAre ys c.ts ∧ c.ts.length = i ∧ (∀ y ∈ c.ts, y ∈ menu) ∧ PoolOk (7 + i) c.x c.y) ⟨x1, y1, tx1, ty1, []⟩ ⟨.nil, rfl, (fun _ h => nomatch h), hPx⟩ ?_ ?_
  · rintro i ys ⟨x, y, tx, ty, ts⟩ v I oI C oC D m₂ h tk E' hi ⟨t0, rfl⟩ hq_ hC hx F N off ne
    refine hide fun P_ k_ => ?_
    obtain ⟨hys, htl, hmn, hP⟩ := hq_
    refine k_ ?_; clear k_ P_
    (try dsimp only at *)
    clear F1 N1 F2 N2 F0 N0 hPx
    have off' := off
    simp only [LCg.Off3, and_true] at off
    refine hide fun P_ k_ => ?_
    obtain ⟨⟨_, _, _⟩, ⟨_, _, _⟩, ⟨_, _, _⟩, ⟨_, _, _⟩, ⟨_, _, _⟩, ⟨_, _, _⟩⟩ := off
    refine k_ ?_; clear k_ P_
    k_steps
    rename_i j2 t2 x2 tx2 y2 ty2 h3 tk3 hj2 hP2 F5 N5
    refine item_menu N5 (.head _) menu_are (by rw [menu_len]; omega) (by decide) fun v2 tg e2 r2 => ?_
    k_steps
    unfold Wall
    refine LCg.CompEnd.intro F5 N5 [(fm, LCg.lst fv), (pa, poolO x2 y2 tx2 ty2 lc nP), (lc, PySem.W.listOf cv.toArray nL), (L' + 1 + 1 + 1, oA), (L' + 1 + 1, oT), (L' + 1, oP)] (fun p hp => .tail _ hp) (off3_of off' rfl) trivial ⟨⟨x2, y2, tx2, ty2, ts ++ [tg]⟩, rfl, hys.snoc r2, ?_, ?_, hP2.up (by omega)⟩
    · rw [List.length_append, htl]; rfl
    · intro q hq
      rcases List.mem_append.mp hq with hq | hq
      · exact hmn q hq
      · rw [List.mem_singleton.mp hq]; exact List.mem_of_getElem? e2
  · rintro ys ⟨x, y, tx, ty, ts⟩ hq_
    refine hide fun P_ k_ => ?_
    obtain ⟨hys, htl, hmn, hP⟩ := hq_
    refine k_ ?_; clear k_ P_
    (try dsimp only at *)
    rintro D h tk3 F3 N3 off
    simp only [LCg.Off1, and_true] at off
    clear F1 N1 F2 N2 F0 N0 hPx
    k_steps
    (rename Fr _ _ _ _ => F4)
    (rename News _ _ _ _ => N4)
    (rename _ = Data.cell _ => hd)
    refine k m₀ _ _ D ys ts _ hys (by omega) hmn hd (fun e => off.1 e.symm) (fun e => off.2.2.2.1 e.symm) F4 (kst_newsOf N4 ?_)
    first | ((repeat (first | (with_reducible exact sub_nil) | (with_reducible exact sub_refl) | (with_reducible (refine sub_cons ?_ ?_; focus ((repeat (first | exact List.mem_cons_self | refine List.mem_cons_of_mem _ ?_)); done))) | (with_reducible refine sub_tail ?_))); done) | ((repeat (first | (exact sub_nil) | (exact sub_refl) | ((refine sub_cons ?_ ?_; focus ((repeat (first | exact List.mem_cons_self | refine List.mem_cons_of_mem _ ?_)); done))) | (refine sub_tail ?_))); done)
end
theorem cleanL347 : True := by
  w_top off
  k_with_none
  exact trivial
theorem fillL3 : (PySem.Challenge.rw_no0499_01 = PySem.Challenge.rw_no0499_01) ∧ hd.heap_39 = hd.heap_39 := by
  k_fill
  exact ⟨rfl, rfl⟩
def TupIn (ext : List (Addr × Obj)) (v : Value) (q : Tag × Value) : Prop := ∃ T tv n, v = .ref T ∧ IsTag tv q.1 ∧ (T, ({ cls := .type "tuple", data := .seq #[tv, q.2] n } : Obj)) ∈ ext
theorem TupIn.up {ext ext' : List (Addr × Obj)} {v : Value} {q : Tag × Value} (h : TupIn ext v q) (k : ∀ p ∈ ext, p ∈ ext') : TupIn ext' v q := by
  refine hide fun P_ k_ => ?_
  obtain ⟨T, tv, n, h1, h2, h3⟩ := h
  refine k_ ?_; clear k_ P_
  exact ⟨T, tv, n, h1, h2, k _ h3⟩
theorem tupsIn_up {ext ext' : List (Addr × Obj)} {vs : List Value} {qs : List (Tag × Value)} (h : All2 (TupIn ext) vs qs) (k : ∀ p ∈ ext, p ∈ ext') : All2 (TupIn ext') vs qs := by
  induction h with
  | nil => exact .nil
  | cons r _ ih => exact .cons (r.up k) ih
structure QsOk (ts : List Tag) (qs : List (Tag × Value)) : Prop where
  tags : qs.map (·.1) = ts
  vals : ∀ (j : Nat) q, qs[j]? = some q → ∃ t, q.2 = .int (100 + (j : Int)) t
theorem QsOk.snoc {ts : List Tag} {qs : List (Tag × Value)} {i : Nat} {y : Tag} {t : Tok} (h : QsOk (ts.take i) qs) (hl : qs.length = i) (e : ts[i]? = some y) : QsOk (ts.take (i + 1)) (qs ++ [(y, .int (100 + (i : Int)) t)]) := by
  refine ⟨?_, fun j q hq => ?_⟩
  · rw [List.map_append, h.tags, take_snoc e]; rfl
  · rw [List.getElem?_append] at hq
    split at hq
    · exact h.vals j q hq
    · rename_i hj
      have e2 : j - qs.length = 0 := by
        by_cases h0 : j - qs.length = 0
        · exact h0
        · rw [List.getElem?_eq_none (by rw [List.length_singleton]; omega)] at hq; cases hq
      rw [e2] at hq
      cases hq
      have e3 : j = i := by omega
      exact ⟨t, by rw [e3]⟩
structure S8 where
  ext : List (Addr × Obj)
  qs : List (Tag × Value)
theorem cleanL348 : True := by
  k_with "z_k_ne" => (((try dsimp only); first | assumption | exact Ne.symm (by assumption)))
  k_with "z_k_all" => (assumption)
  k_with "z:pyIter ref" => (refine wall ?_)
  k_with "z:call type:range" => (refine wall ?_)
  k_with "z:eval ListComp" => (refine wall ?_)
  k_with "z:CompSrc" => (refine wall ?_)
  k_with "z:CompEnd" => (refine wall ?_)
  k_with "z:FinE" => (refine wall ?_)
  k_with "z:FinA" => (refine wall ?_)
  k_with "z:call builtin:len" => (((with_reducible show wpAny _ _ (call (Value.builtin _) [Value.ref _]) _ _ _); k_dflt (apply len_led; (case N => k_asm); (case hm => k_mem); (case hn => k_asm); (case hs => omega))))
  k_with "z_item_menu_subscriptTail_Name_Name_ref_int" => ((with_reducible show wpAny _ _ (subscriptTail _ _ (Value.ref _) (Value.int _ _)) _ _ _); apply item_menu; (case hs => with_unfolding_all rfl); (case N => k_asm); (case hm => k_mem); (case ht => assumption); (case hk => omega); (case hb => omega))
  exact trivial
section
variable {w : World} {mean : ExcName → Option Value} {mg mb : Str → Option Value} {A : Around} {prog : Program} {s : Shared}
theorem law_ph5 {oc : Value} {od0 : Option Addr} {osl : Array (Option Value)} {name qual : Str} {params : Arguments} {s0 s1 s2 s3 s4 s5 : Stmt} {srest : List Stmt} {scope : Scope} {dV kV doc pm cdv0 cdv ct : Value} {an : Option Addr}
   (hst : (hd.heap_39 w.params).lookup 155 = some ⟨oc, od0, .func (fnX name qual params (s0 :: s1 :: s2 :: s3 :: s4 :: s5 :: srest) scope [] dV kV doc pm an cdv0 ct), osl⟩)
   {g : Heap} {L' : Nat} {f : Addr} {m₀ : Str → Option Value} {oP oT oA : Obj} {E : Value → Shared → Prop} {Q : Flow → Shared → Prop} {dp un : Nat} {gd : Option (List Code)}
   {fm tl : Nat} {fv tv : List Value} {ts : List Tag}
   (hA : A = (Ar dp un gd []).deeper (envOfC qual scope L' f cdv))
   (G : Gr w mean mg mb g) (B : Below (Ar dp un gd []) g [] g) (hE : PassesOwn (model prog w) A (envOfC qual scope L' f cdv) E)
   (F0 : Fr g L' s.heap (kstB m₀ [(Str.ofString "formals", .ref fm)]))
   (N0 : News g L' s.heap [(tl, LCg.lst tv), (fm, LCg.lst fv), (L' + 1 + 1 + 1, oA), (L' + 1 + 1, oT), (L' + 1, oP)])
   (hts : TagsAre tv ts) (htl : ts.length ≤ 6) (dT : oT.data = .cell (some (.ref tl))) (dA : oA.data = .cell none) (hne : tl ≠ L' + 1 + 1 + 1) (hne2 : fm ≠ L' + 1 + 1 + 1)
   (k : ∀ m' h tk al av qs ext oA', All2 (TupIn ext) av qs → QsOk ts qs → oA'.data = .cell (some (.ref al)) → al ≠ tl → al ≠ fm → (∀ p ∈ ext, p.2.cls = .type "tuple") → Fr g L' h (kstB m' [(Str.ofString "formals", .ref fm)]) →
     News g L' h ((al, LCg.lst av) :: (tl, LCg.lst tv) :: (fm, LCg.lst fv) :: (L' + 1 + 1 + 1, oA') :: (L' + 1 + 1, oT) :: (L' + 1, oP) :: ext) → Q .next { s with heap := h, toks := tk }) :
   wpAny (model prog w) A (exec s5 (envOfC qual scope L' f cdv)) Q E s := by
  refine with_lit (x := (hd.heap_39 w.params).lookup 155) (by k_is) fun e => ?_
  replace e := hst.symm.trans e
  clear hst
  cases e
  subst hA
  have X' := G.kin
  have T' := G.top
  have htv := hts.length
  k_steps
  unfold Wall
  refine LCg.ListComp_U (F₀ := F0) (by with_unfolding_all rfl) (by decide) (by rfl) (by decide) (by rfl) ?_
  k_steps
  unfold Wall
  refine range1_rows F0 N0 ?_
  intro h2 tk2 t2 u2 v2 R2 F2 N2 _
  (try dsimp only)
  k_steps
  unfold Wall
  refine LCg.CompSrc.range (n := ts.length) (by rfl) F2 (kst_newsOf N2 (?_ : ∀ p ∈ [(tl, LCg.lst tv), (fm, LCg.lst fv), (L' + 1 + 1 + 1, oA), (L' + 1 + 1, oT), (L' + 1, oP)], _)) R2 (small_zero (by omega)) (by simpa using rangeSize_nat 0 ts.length) (by rw [sizeLine_eq]; omega) fun g' => ?_
  · exact fun p hp => hp
  refine comp_inv (fun c : S8 => (tl, LCg.lst tv) :: (fm, LCg.lst fv) :: (L' + 1 + 1 + 1, oA) :: (L' + 1 + 1, oT) :: (L' + 1, oP) :: c.ext)
    (fun i ys c => All2 (TupIn c.ext) ys c.qs ∧ c.qs.length = i ∧ QsOk (ts.take i) c.qs ∧ (∀ p ∈ c.ext, p.1 ≠ L' + 1 + 1 + 1) ∧ ∀ p ∈ c.ext, p.2.cls = .type "tuple") ⟨[], []⟩ ⟨.nil, rfl, ⟨rfl, fun j q h => by cases h⟩, fun _ h => (nomatch h), fun _ h => nomatch h⟩ ?_ ?_
  · rintro i ys ⟨ext, qs⟩ v I oI C oC D m₂ h tk E' hi ⟨t0, rfl⟩ hq_ hC hx F N off ne
    refine hide fun P_ k_ => ?_
    obtain ⟨hys, hql, hok, hxt, hxc⟩ := hq_
    refine k_ ?_; clear k_ P_
    (try dsimp only at *)
    clear F2 N2 F0 N0
    rw [Int.zero_add] at hx
    obtain ⟨_, _, _⟩ := ne
    k_steps
    unfold Wall
    rename_i v2 tg e2 r2 T h3 F5 N5 l5
    refine hide fun P_ k_ => ?_
    obtain ⟨q1, q2, q3, _, _, q6, _⟩ := l5
    refine k_ ?_; clear k_ P_
    refine LCg.CompEnd.intro F5 N5 ((tl, LCg.lst tv) :: (fm, LCg.lst fv) :: (L' + 1 + 1 + 1, oA) :: (L' + 1 + 1, oT) :: (L' + 1, oP) :: ((T, { cls := .type "tuple", data := .seq #[v2, .int (100 + (i : Int)) (tk + 1)] }) :: ext)) ?_ ?_ trivial ⟨⟨_, qs ++ [(tg, .int (100 + (i : Int)) (tk + 1))]⟩, rfl, ?_, ?_, hok.snoc hql e2, ?_, ?_⟩
    · first | ((repeat (first | (with_reducible exact sub_nil) | (with_reducible exact sub_refl) | (with_reducible (refine sub_cons ?_ ?_; focus ((repeat (first | exact List.mem_cons_self | refine List.mem_cons_of_mem _ ?_)); done))) | (with_reducible refine sub_tail ?_))); done) | ((repeat (first | (exact sub_nil) | (exact sub_refl) | ((refine sub_cons ?_ ?_; focus ((repeat (first | exact List.mem_cons_self | refine List.mem_cons_of_mem _ ?_)); done))) | (refine sub_tail ?_))); done)
    · refine LCg.Off3.of fun p hp => ?_
      simp only [List.mem_cons] at hp
      rcases hp with rfl | rfl | rfl | rfl | rfl | rfl | hp
      · exact off.mem _ (by simp)
      · exact off.mem _ (by simp)
      · exact off.mem _ (by simp)
      · exact off.mem _ (by simp)
      · exact off.mem _ (by simp)
      · exact ⟨Nat.ne_of_gt q1, Nat.ne_of_gt q2, Nat.ne_of_gt q3⟩
      · exact off.mem _ (by simp [hp])
    · exact (tupsIn_up hys fun p hp => .tail _ hp).snoc ⟨T, v2, _, rfl, r2, .head _⟩
    · rw [List.length_append, hql]; rfl
    · intro p hp
      rcases List.mem_cons.mp hp with rfl | hp
      · exact Nat.ne_of_gt q6
      · exact hxt p hp
    · intro p hp
      rcases List.mem_cons.mp hp with rfl | hp
      · rfl
      · exact hxc p hp
  · rintro ys ⟨ext, qs⟩ hq_
    refine hide fun P_ k_ => ?_
    obtain ⟨hys, hql, hok, hxt, hxc⟩ := hq_
    refine k_ ?_; clear k_ P_
    (try dsimp only at *)
    rintro D h tk3 F3 N3 off
    clear F2 N2 F0 N0
    have o1 := off.1
    have o2 := off.2.1
    have o3 := off.2.2.1
    (try dsimp only at o1 o2 o3)
    k_steps
    (rename Fr _ _ _ _ => F4)
    (rename News _ _ _ _ => N4)
    (rename _ = Data.cell (some (Value.ref D)) => hd)
    rw [List.take_length] at hok
    exact k m₀ _ _ D ys qs ext _ hys hok hd (fun e => o1 e.symm) (fun e => o2 e.symm) hxc F4 N4
end
theorem cleanC849 : True := by
  w_top off
  k_with_none
  exact trivial
theorem fillC8 : (PySem.Challenge.rw_no0499_01 = PySem.Challenge.rw_no0499_01) ∧ hd.heap_39 = hd.heap_39 := by
  k_fill
  exact ⟨rfl, rfl⟩
/-- a Refusal with its word, held in a frame -/
structure Exc (h : Heap) (e : Addr) (v : Value) : Prop where
  there : ∃ oe de vs, h.get? e = some oe ∧ oe.cls = .ref 44 ∧ oe.dict = some de ∧ oe.data = .fields vs ∧ h.Ns1 de (msgNs v)
theorem lookIn_ns {h : Heap} {de : Addr} {m : Str → Option Value} {x : Str} {v : Value} (n : h.Ns1 de m) (e : m x = some v) : ∃ od, h.get? de = some od ∧ lookIn x od = some (some v) := by
  obtain ⟨o, es, ep, ho, hd, _, _, hf⟩ := n
  refine ⟨o, ho, ?_⟩
  have h1 := hf x
  rw [e] at h1
  unfold nsFind findBy at h1
  obtain ⟨en, he, rfl⟩ := Option.map_eq_some_iff.mp h1
  unfold lookIn
  rw [hd]
  dsimp only
  rw [← Array.find?_toList] at he
  rw [he]
section
variable {prog : Program} {w : World} {A : Around} {E : Value → Shared → Prop} {h : Heap} {g : Array GenState} {d : Drawn} {t : Nat} {os : OsState}
theorem exc_entry {e : Addr} {ox od : Obj} {x : Str} {t1 tk : Tok} {Q : Fin → Shared → Prop} (X : (hd.heap_39 w.params).In h) (I : InstAt h e ox 44 (some od)) (hl : lookIn (Str.ofString "message") od = some (some (.str x t1))) (hq : Q (.done (.ret (.str x t1))) ⟨h, g, d, t, os⟩) :
    wpAny (model prog w) A (Builtin.«object.__getattribute__» ⟨[.ref e, .str (Str.ofString "message") tk], []⟩) Q E ⟨h, g, d, t, os⟩ := by
  have L0 := I.type (M := model prog w)
  have L1 := looks_find (M := model prog w) X I (findObj_own (K := hd.heap_39 w.params) (C := 44) (name := Str.ofString "message") (v := .str x t1) (attr := none) (by k_is) (by k_is) (by rfl) hl)
  unfold Builtin.«object.__getattribute__»
  repeat (any_goals (first | assumption | (with_reducible refine L0.at ?_) | (with_reducible refine L1.at ?_) | wp_step))
theorem exc_check {M : Model} {e : Addr} {ox : Obj} {nameV : Value} {Q : Unit → Shared → Prop} (X : (hd.heap_39 w.params).In h) (hx : h.get? e = some ox) (hc : ox.cls = .ref 44)
   (hq : Q () ⟨h, g, d, t, os⟩) : wpAny M A (checkBuiltinCall "BaseException.__getattribute__" ⟨[.ref e, nameV], []⟩) Q E ⟨h, g, d, t, os⟩ := by
  obtain ⟨nm, q, bs, sn, sub, ab, col, dd, k0, k1, k2, k3, k5, hK⟩ := cls44 w.params
  have hC := X _ _ hK
  have hk : builtinKind "BaseException.__getattribute__" = some .slot := by decide +kernel
  have hsplit : splitId "BaseException.__getattribute__" = some ("BaseException", "__getattribute__") := by decide +kernel
  have hcB : (Value.ref 44 :: [.ref 24, .type "Exception", .type "BaseException", .type "object"]).contains (.type "BaseException") = true := by decide +kernel
  have ha := F.args_bexc_ga (.ref e) nameV
  simp only [checkBuiltinCall, hk, hsplit]
  refine wpAny_bind ?_
  · unfold isInstance
    repeat (first | (with_reducible refine wpAny_loadPart_at hx ?_; rw [hc]) | (with_reducible refine wpAny_isSubtype_exc hC ?_; rw [hcB]) | wp_step)
    exact hq
theorem exc_by {e : Addr} {ox od : Obj} {x : Str} {t1 tk : Tok} {fill expr : Bool} {Q : Value → Shared → Prop} (X : (hd.heap_39 w.params).In h) (I : InstAt h e ox 44 (some od)) (hl : lookIn (Str.ofString "message") od = some (some (.str x t1))) (hq : Q (.str x t1) ⟨h, g, d, t, os⟩) :
    wpAny (model prog w) A (getAttrBy (.ref e) (.str (Str.ofString "message") tk) fill expr) Q E ⟨h, g, d, t, os⟩ := by
  have FB := PySem.F.attrBase_Exception
  have f3 := FB.ga.bind (.ref e)
  have L0 := I.type (M := model prog w)
  have hG : Looks (model prog w) h (typeLookup (.ref 44) "__getattribute__") (some (.builtin "BaseException.__getattribute__")) := looks_findIn X (by k_is)
  have hH : Looks (model prog w) h (typeLookup (.ref 44) "__getattr__") none := looks_findIn X (by k_is)
  have hx0 : (expr && onTheHeap (Value.builtin "BaseException.__getattribute__")) = false := by cases expr <;> rfl
  have hx2 : (Value.builtin "BaseException.__getattribute__" == Value.builtin "object.__getattribute__") = false := by decide +kernel
  have hx1 : (onTheHeap (Value.ref 44) && Value.builtin "BaseException.__getattribute__" == Value.builtin "object.__getattribute__") = false := by rw [hx2]; rfl
  unfold getAttrBy
  repeat (any_goals (first | assumption | (with_reducible refine L0.at ?_) | (with_reducible refine hG.at ?_) | (with_reducible refine hH.at ?_) | (with_reducible refine hG.here ?_) | (with_reducible refine hH.here ?_) | wp_step))
  refine codeAny_call_builtin FB.ga.plain F.entry_bexc_ga (exc_check X I.at_ I.cls (exc_entry X I hl ?_))
  repeat (any_goals (first | assumption | wp_step))
theorem exc_get {e : Addr} {x : Str} {t1 : Tok} {expr : Bool} {Q : Value → Shared → Prop} (X : (hd.heap_39 w.params).In h) (he : Exc h e (.str x t1)) (hq : Q (.str x t1) ⟨h, g, d, t + 1, os⟩) :
    wpAny (model prog w) A (getAttr (.ref e) (Str.ofString "message") expr) Q E ⟨h, g, d, t, os⟩ := by
  obtain ⟨oe, de, vs, h1, h2, h3, h4, h5⟩ := he
  obtain ⟨od, ho, hl⟩ := lookIn_ns (x := Str.ofString "message") (v := .str x t1) h5 (by simp [msgNs])
  have I : InstAt h e oe 44 (some od) := ⟨h1, h2, by unfold notCls; rw [h4], by rw [h3]; exact ho⟩
  unfold getAttr
  repeat (any_goals (first | assumption | with_reducible apply exc_by X I hl | wp_step))
end
theorem cleanC950 : True := by
  w_top off
  k_with_none
  exact trivial
theorem fillC9 : (PySem.Challenge.rw_no0499_01 = PySem.Challenge.rw_no0499_01) ∧ hd.heap_39 = hd.heap_39 := by
  k_fill
  exact ⟨rfl, rfl⟩
theorem FlyD.exc {B h : Heap} {l : List Env} {e de : Addr} {fl v : Value} (x : FlyD B l e de fl h) (hn : B.Ns1 de (msgNs v)) : Exc h e v := by
  obtain ⟨hkb, _, _, oe, vs, T, oT, ts, he, hcls, hd, _⟩ := x
  exact ⟨oe, de, vs, he, hcls.1, hcls.2, hd, hn.at fun o q => hkb _ _ q⟩
section
variable {w : World} {mean : ExcName → Option Value} {mg mb : Str → Option Value} {A : Around} {prog : Program} {s : Shared} {g h' : Heap} {env : Env} {L e : Addr} {m : Str → Option Value} {T news rest : List (Addr × Obj)} {v : Value} {tk : Nat}
  {x n : Str} {np pos : Pos} {b₀ : Stmt} {suite : List Stmt} {hs : List ExceptHandler} {Q : Flow → Shared → Prop} {E : Value → Shared → Prop}
theorem caught_D (G : Gr w mean mg mb g) (hA : A.frames = some [env]) (hf : env.frame = some L) (hLo : env.locals = L)
    (F : Fr g L s.heap m) (N : News g L s.heap news) (hR : ∀ p ∈ rest, p ∈ news ∧ p.1 ∉ T.map (·.1)) (hT : ∀ p ∈ T, p ∈ news)
    (fl : Flown g [env] s T v e h')
    (hx : ∀ (A' : Around) (E' : Value → Shared → Prop) (Q' : Value → Shared → Prop) (s₂ : Shared), Fr g L s₂.heap m → Q' (.ref 44) s₂ → wpAny (model prog w) A' (eval (.Name x np) env) Q' E' s₂)
    (hn : env.kindOf n = some .local) (hp : (env.scope.kind == .class || (env.scope.kind == .module && env.locals != env.globals)) = false)
    (k : ∀ h₇ tk₇, Fr g L h₇ (fun y => if y = n then some (.ref e) else m y) → News g L h₇ rest → Exc h₇ e v →
      wpAny (model prog w) (A.mark (some (.ref e))) (execs (b₀ :: suite) env)
        (fun f s₄ => wpAny (model prog w) A (do bindName env n .none; unbindBehindTheSuite env n pos) (fun _ s₅ => Q f s₅) E s₄)
        (AsSuiteRaised (model prog w) (A.mark (some (.ref e))) env n pos (notedBy (model prog w) (A.mark (some (.ref e))) env (cameBackBy (model prog w) A env E)))
        { s with heap := h₇, toks := tk₇ }) :
    wpAny (model prog w) A (noteFrame (.ref e) env)
      (fun _ s₂ => wpAny (model prog w) A (setFlight (.ref e) none) (fun _ s₃ =>
        wpAny (model prog w) A (handleBy (.ref e) env (.ExceptHandler (some (.Name x np)) (some n) (b₀ :: suite) pos :: hs)) Q E s₃) E s₂) E { s with heap := h', toks := tk } := by
  obtain ⟨⟨B, de, fly, hgB, hkeep, hns⟩, hfr⟩ := fl
  have nT : ∀ b o, g.get? b = some o → b ∉ T.map (·.1) := fun b o q z => by
    obtain ⟨p, hp, rfl⟩ := List.mem_map.mp z
    rw [(N p (hT p hp)).2.2] at q; cases q
  have hBL : B.get? L = none := (fly.frames.mem (List.mem_filterMap.mpr ⟨env, .head _, hf⟩)).1
  have F' : Fr g L h' m := by
    obtain ⟨oL, es, ep, hL, hd, r⟩ := F.ns
    obtain ⟨sl, hs⟩ := hfr L oL hL ⟨env, .head _, hf⟩
    exact ⟨⟨_, es, ep, hs, hd, r⟩, fun b o q => fly.stays b o (hgB b o q), F.above⟩
  have NB : ∀ h₁ : Heap, B.StaysIn h₁ → News g L h₁ rest := fun h₁ hst p hp => by
    have h1 := N p (hR p hp).1
    refine ⟨hst _ _ (hkeep _ _ h1.1 (hR p hp).2 fun env' he z => ?_), h1.2⟩
    rw [List.mem_singleton.mp he, hf] at z
    exact h1.2.1 (Option.some.inj z).symm
  have gst : ∀ h₁ : Heap, B.StaysIn h₁ → g.StaysIn h₁ := fun h₁ hst b o q => hst b o (hgB b o q)
  refine noteNextD (s := { s with heap := h', toks := tk }) hA hf fly fun h₁ fly₁ sm₁ => ?_
  refine landD (s := { s with heap := h₁, toks := tk }) fly₁ fun h₂ fly₂ sm₂ => ?_
  have F₂ : Fr g L h₂ m := F'.of_stays (gst _ fly₂.stays) (sm₁.trans sm₂)
  refine wpAny_handleBy_cons (codeAny_handlers_test (hx _ _ _ _ F₂ ?_)) (by intro q; cases q)
  obtain ⟨nm, q, bs, sn, sub, ab, col, dd, k0, k1, k2, k3, k5, hK⟩ := cls44 w.params
  have hC := (G.kin.keeps F₂.keep) _ _ hK
  obtain ⟨oe, vs, _, _, _, he, hcls, _⟩ := fly₂.tr
  refine wpAny_excMatches_sub_self hC he hcls.1 (by decide +kernel) (codeAny_handlers_suite_as ?_)
  refine landD (s := { s with heap := h₂, toks := tk }) fly₂ fun h₃ fly₃ sm₃ => ?_
  have F₃ : Fr g L h₃ m := F₂.of_stays (gst _ fly₃.stays) sm₃
  have ex := fly₃.exc hns
  have N₃ := NB _ fly₃.stays
  subst hLo
  refine wpAny_storeName_local (s := { s with heap := h₃, toks := tk }) hn F₃.ns (fun h₇ hns₇ sb => ?_) hp
  refine k h₇ _ (F₃.set hns₇ sb) (N₃.set sb) ?_
  obtain ⟨oe', de', vs', e1, e2, e3, e4, e5⟩ := ex
  have heL : e ≠ env.locals := fun z => by
    obtain ⟨oL, es, ep, hL, hd, _⟩ := F₃.ns
    rw [← z, e1] at hL
    cases hL
    rw [e4] at hd; cases hd
  refine ⟨oe', de, vs', (sb.2 e heL).trans e1, e2, ?_, e4, ?_⟩
  · obtain ⟨oe2, _, _, _, _, he2, hcls2, _⟩ := fly₃.tr
    rw [e1] at he2; cases he2; exact hcls2.2
  · refine hns.at fun o q => ?_
    have hdL : de ≠ env.locals := fun z => by rw [z, hBL] at q; cases q
    exact (sb.2 de hdL).trans (fly₃.stays _ _ q)
end
theorem cleanL451 : True := by
  w_top off
  k_with_none
  exact trivial
theorem fillL4 : (PySem.Challenge.rw_no0499_01 = PySem.Challenge.rw_no0499_01) ∧ hd.heap_39 = hd.heap_39 := by
  k_fill
  exact ⟨rfl, rfl⟩
section
variable {w : World} {base : Heap} {outer : List Env} {s : Shared} {T rest news : List (Addr × Obj)} {A A₀ : Around} {prog : Program}
  {g : Heap} {L : Addr} {m : Str → Option Value} {env : Env} {D : Value → List (Addr × Obj) → Prop} {P' : Value → Prop} {f : Value} {args : Args} {Q : Value → Shared → Prop} {E : Value → Shared → Prop}
theorem use_try (B : Below A₀ base outer g) (F : Fr g L s.heap m) (N : News g L s.heap news) (hf : env.frame = some L) (hk : env.scope.kind = .function) (hT : ∀ p ∈ T, p ∈ news) (hR : ∀ p ∈ rest, p ∈ news ∧ p.1 ∉ T.map (·.1))
    (hc : ∀ R, At base (env :: outer) s.heap T → (∀ v h' tk', Left s T D v h' → R (.ok (.ret v)) { s with heap := h', toks := tk' }) → (∀ e v h' tk', P' v → Flown base (env :: outer) s T v e h' → R (.error (.ref e)) { s with heap := h', toks := tk' }) → codeAny (model prog w) A (.call f args) R s)
    (k : ∀ v h' tk' T', Fr g L h' m → News g L h' (T' ++ rest) → D v T' → (∀ p ∈ T', p.1 ∈ T.map (·.1) ∨ (s.heap.objs.size ≤ p.1 ∨ s.heap.get? p.1 = none)) → Q v { s with heap := h', toks := tk' })
    (kc : ∀ e v h' tk', P' v → Flown base (env :: outer) s T v e h' → E (.ref e) { s with heap := h', toks := tk' }) :
    wpAny (model prog w) A (call f args.pos args.kw) Q E s := by
  refine wpAny_call (hc _ (at_of B F N hf hk hT) (fun v h' tk' l => ?_) kc)
  refine hide fun P_ k_ => ?_
  obtain ⟨F', T', hD, N', hn⟩ := left_back F N hT hR l
  refine k_ ?_; clear k_ P_
  exact k v h' tk' T' F' N' hD hn
end
section
variable {prog : Program} {w : World} {A : Around} {E : Value → Shared → Prop} {s : Shared} {h₀ : Heap} {L : Addr} {m : Str → Option Value} {news : List (Addr × Obj)}
theorem list_led {b : Addr} {vs : List Value} {n : Nat} {Q : Value → Shared → Prop} (F : Fr h₀ L s.heap m) (N : News h₀ L s.heap news) (hb : (b, PySem.W.listOf vs.toArray n) ∈ news) (hz : vs.length ≤ 1000)
    (h : ∀ D c h', Fr h₀ L h' m → News h₀ L h' ((D, PySem.W.listOf vs.toArray c) :: news) → (∀ q ∈ news, q.1 < D) → Q (.ref D) { s with heap := h' }) : wpAny (model prog w) A (call (.type "list") [.ref b]) Q E s :=
  kup_listOf F N hb (by simp) h (by simp only [List.length]; rw [sizeLine_eq]; omega)
end
theorem tupsIn_args {ext news : List (Addr × Obj)} {g h : Heap} {L : Addr} {av : List Value} {qs : List (Tag × Value)} (x : All2 (TupIn ext) av qs) (N : News g L h news) (k : ∀ p ∈ ext, p ∈ news) : ArgsAre h av qs := by
  induction x with
  | nil => exact .nil
  | cons r _ ih =>
    refine hide fun P_ k_ => ?_
    obtain ⟨T, tv, n, e, hg, hm⟩ := r
    refine k_ ?_; clear k_ P_
    exact .cons ⟨T, tv, e, ⟨_, (N _ (k _ hm)).1, rfl, n, rfl⟩, hg⟩ ih
theorem kstMs {g h : Heap} {L : Addr} {m : Str → Option Value} {x : Str} {word : Str} {t : Tok} (ps : List (Str × Value)) (F : Fr g L h m) (e : m x = some (.str word t)) (hp : ∀ p ∈ ps, m p.1 = some p.2) : Fr g L h (kstB m ((x, .str word t) :: ps)) :=
  kstM _ F fun p hq => by
    rcases List.mem_cons.mp hq with rfl | hq
    · exact e
    · exact hp p hq
theorem allLt_mem {d : Addr} : ∀ {l : List (Addr × Obj)}, AllLt d l → ∀ p ∈ l, p.1 < d
  | [], _, _, h => nomatch h
  | q :: r, x, p, h => by
    rcases List.mem_cons.mp h with rfl | h
    · exact x.1
    · exact allLt_mem x.2 p h
theorem cleanL452 : True := by
  k_with "z_k_ne" => (((try dsimp only); first | assumption | exact Ne.symm (by assumption)))
  k_with "z_list_led_call_type_list" => ((with_reducible show wpAny _ _ (call (Value.type _) [Value.ref _]) _ _ _); apply list_led; (case F => k_asm); (case N => k_asm); (case hb => k_mem); (case hz => omega))
  k_with "z:call ref" => (refine wall ?_)
  k_with "z:getAttr ref" => (refine wall ?_)
  exact trivial
section
variable {w : World} {mean : ExcName → Option Value} {mg mb : Str → Option Value} {A : Around} {prog : Program} {s : Shared}
abbrev psW (fm pd rd : Addr) (word : Str) (tw : Tok) : List (Str × Value) := [(Str.ofString "formals", .ref fm), (Str.ofString "word", .str word tw), (Str.ofString "places", .ref pd), (Str.ofString "rest", .ref rd)]
theorem law_ph7 {oc : Value} {od0 : Option Addr} {osl : Array (Option Value)} {name qual : Str} {params : Arguments} {s0 s1 s2 s3 s4 s5 s6 s7 : Stmt} {srest : List Stmt} {scope : Scope} {dV kV doc pm cdv0 cdv ct : Value} {an : Option Addr}
   (hst : (hd.heap_39 w.params).lookup 155 = some ⟨oc, od0, .func (fnX name qual params (s0 :: s1 :: s2 :: s3 :: s4 :: s5 :: s6 :: s7 :: srest) scope [] dV kV doc pm an cdv0 ct), osl⟩)
   {g : Heap} {L' : Nat} {f : Addr} {m₀ : Str → Option Value} {oA : Obj} {E : Value → Shared → Prop} {Q : Flow → Shared → Prop} {dp un : Nat} {gd : Option (List Code)}
   {fm al pd rd : Nat} {fv av : List Value} {ts : List Tag} {fs : List Str} {qs : List (Tag × Value)} {ext more : List (Addr × Obj)} {word : Str} {tw : Tok}
   (hA : A = (Ar dp un gd []).deeper (envOfC qual scope L' f cdv)) (rmU : RoomUp (Ar dp un gd []) [] 20)
   (G : Gr w mean mg mb g) (B : Below (Ar dp un gd []) g [] g) (hE : PassesOwn (model prog w) A (envOfC qual scope L' f cdv) E)
   (F0 : Fr g L' s.heap (kstB m₀ (psW fm pd rd word tw)))
   (N0 : News g L' s.heap ((fm, LCg.lst fv) :: (al, LCg.lst av) :: (L' + 1 + 1 + 1, oA) :: more))
   (hext : ∀ p ∈ ext, p ∈ more) (dA : oA.data = .cell (some (.ref al)))
   (hf : StrsAre fv fs) (hq : All2 (TupIn ext) av qs) (hok : QsOk ts qs) (hfl : fs.length ≤ 10) (htl : ts.length ≤ 10) (hfn : ∀ f ∈ fs, f.length ≤ 10) (htag : ∀ x, some x ∈ ts → x.length ≤ 10)
   (k1 : ∀ m' h tk tS dp od r rv kvs pl rest, matchP ts fs = .ok (pl, rest) → od.IsDictOf (PySem.strKind prog w) kvs → PlAre kvs pl → IntsAre rv (natsI rest) → (dp == sysModules) = false →
     Fr g L' h (kstB m' ((Str.ofString "said", .str emp tS) :: (Str.ofString "found", .ref dp) :: (Str.ofString "left", .ref r) :: psW fm pd rd word tw)) →
     News g L' h ((dp, od) :: (r, LCg.lst rv) :: (fm, LCg.lst fv) :: (al, LCg.lst av) :: (L' + 1 + 1 + 1, oA) :: more) → Q .next { s with heap := h, toks := tk })
   (k2 : ∀ m' h tk tS w2, matchP ts fs = .error w2 →
     Fr g L' h (kstB m' ((Str.ofString "said", .str w2 tS) :: psW fm pd rd word tw)) →
     News g L' h ((fm, LCg.lst fv) :: (al, LCg.lst av) :: (L' + 1 + 1 + 1, oA) :: more) → Q .next { s with heap := h, toks := tk }) :
   wpAny (model prog w) A (exec s7 (envOfC qual scope L' f cdv)) Q E s := by
  refine with_lit (x := (hd.heap_39 w.params).lookup 155) (by k_is) fun e => ?_
  replace e := hst.symm.trans e
  clear hst
  cases e
  subst hA
  have X' := G.kin
  have T' := G.top
  have hfvl : fv.length ≤ 10 := by rw [hf.length]; exact hfl
  have hql : qs.length = ts.length := by rw [← hok.tags, List.length_map]
  have havl : av.length ≤ 10 := by rw [hq.length, hql]; exact htl
  refine wpAny_Try_except ?_
  k_steps
  unfold Wall
  rename_i D1 c1 h1 F1 N1 l1 D2 c2 h2 F2 N2 l2
  refine hide fun P_ k_ => ?_
  obtain ⟨a1, a2, a3, a4⟩ := l1
  obtain ⟨b0, b1, b2, b3, b4⟩ := l2
  refine k_ ?_; clear k_ P_
  have hR : ∀ p ∈ (D2, PySem.W.listOf av.toArray c2) :: (fm, LCg.lst fv) :: (al, LCg.lst av) :: (L' + 1 + 1 + 1, oA) :: more, p ∈ (D2, PySem.W.listOf av.toArray c2) :: (D1, PySem.W.listOf fv.toArray c1) :: (fm, LCg.lst fv) :: (al, LCg.lst av) :: (L' + 1 + 1 + 1, oA) :: more ∧ p.1 ∉ [(D1, PySem.W.listOf fv.toArray c1)].map (·.1) := by
    intro p hp
    simp only [List.map_cons, List.map_nil, List.mem_singleton]
    simp only [List.mem_cons] at hp ⊢
    rcases hp with rfl | rfl | rfl | rfl | hp
    · exact ⟨.inl rfl, Nat.ne_of_gt b0⟩
    · exact ⟨.inr (.inr (.inl rfl)), Nat.ne_of_lt a1⟩
    · exact ⟨.inr (.inr (.inr (.inl rfl))), Nat.ne_of_lt a2⟩
    · exact ⟨.inr (.inr (.inr (.inr (.inl rfl)))), Nat.ne_of_lt a3⟩
    · exact ⟨.inr (.inr (.inr (.inr (.inr hp)))), Nat.ne_of_lt (allLt_mem a4 p hp)⟩
  have hTn : ∀ p ∈ [(D1, PySem.W.listOf fv.toArray c1)], p ∈ (D2, PySem.W.listOf av.toArray c2) :: (D1, PySem.W.listOf fv.toArray c1) :: (fm, LCg.lst fv) :: (al, LCg.lst av) :: (L' + 1 + 1 + 1, oA) :: more := fun p hp => by
    rw [List.mem_singleton.mp hp]; exact .tail _ (.head _)
  have hav := tupsIn_args hq N2 (fun p hp => .tail _ (.tail _ (.tail _ (.tail _ (.tail _ (hext p hp))))))
  have htg : qs.map (·.1) = ts := hok.tags
  refine use_try (T := [(D1, PySem.W.listOf fv.toArray c1)]) (rest := (D2, PySem.W.listOf av.toArray c2) :: (fm, LCg.lst fv) :: (al, LCg.lst av) :: (L' + 1 + 1 + 1, oA) :: more) (P' := matchE (qs.map (·.1)) fs) (D := matchD w prog D1 fv c1 (qs.map (·.1)) fs) (args := ⟨[.ref D1, .ref D2], []⟩)
    B F2 N2 rfl rfl hTn hR
    (fun R a k kr => match_c (.inr rfl) G a ⟨_, (N2 _ (.head _)).1, rfl, _, rfl⟩ (Nat.ne_of_gt b0) hav hf (by omega) hfl hfn (by rw [htg]; exact htag) (RoomUp.use rmU (by omega)) k kr) ?_ ?_
  · rintro v h' tk6 T6 F7 N7 hq_ hnew
    refine hide fun P_ k_ => ?_
    obtain ⟨t, dp, od, r, rv, kvs, pl, rest, rfl, rfl, hd1, hpl, hrv, hmat, hsys⟩ := hq_
    refine k_ ?_; clear k_ P_
    (try dsimp only)
    (try simp only [List.cons_append, List.nil_append] at N7)
    clear F0 N0 F1 N1 F2 N2
    k_steps
    (rename Fr _ _ _ _ => F8)
    (rename News _ _ _ _ => N8)
    rw [htg] at hmat
    refine k1 _ _ _ _ dp od r rv kvs pl rest hmat hd1 hpl hrv hsys (kstMs (x := Str.ofString "said") (word := emp) ((Str.ofString "found", .ref dp) :: (Str.ofString "left", .ref r) :: psW fm pd rd word tw) F8 rfl ?_) (kst_newsOf N8 ?_)
    · repeat (first | with_reducible exact allP_nil | refine allP_cons (by exact rfl) ?_)
    · first | ((repeat (first | (with_reducible exact sub_nil) | (with_reducible exact sub_refl) | (with_reducible (refine sub_cons ?_ ?_; focus ((repeat (first | exact List.mem_cons_self | refine List.mem_cons_of_mem _ ?_)); done))) | (with_reducible refine sub_tail ?_))); done) | ((repeat (first | (exact sub_nil) | (exact sub_refl) | ((refine sub_cons ?_ ?_; focus ((repeat (first | exact List.mem_cons_self | refine List.mem_cons_of_mem _ ?_)); done))) | (refine sub_tail ?_))); done)
  · rintro e v h' tk' hq_ fl
    refine hide fun P_ k_ => ?_
    obtain ⟨w2, t2, rfl, herr⟩ := hq_
    refine k_ ?_; clear k_ P_
    refine caught_D (rest := (D2, PySem.W.listOf av.toArray c2) :: (fm, LCg.lst fv) :: (al, LCg.lst av) :: (L' + 1 + 1 + 1, oA) :: more) G rfl rfl rfl F2 N2 hR hTn fl (fun A' E' Q' s₂ F h => nameX_K F X' (topRead_of T') (by k_is) h) rfl rfl fun h₇ tk₇ F7 N7 ex => ?_
    clear F0 N0 F1 N1 F2 N2
    k_steps
    unfold Wall
    rw [htg] at herr
    refine exc_get (X'.keeps F7.keep) ex ?_
    k_steps
    (rename Fr _ _ _ _ => F9)
    (rename News _ _ _ _ => N9)
    refine wpAny_nameGoes_keeps (by rfl) F9.ns (by rfl) fun h8 v8 hn8 hs8 => ?_
    have F8 := F9.set hn8 hs8
    have N8 := N9.set hs8
    clear F9 N9
    refine k2 _ _ _ _ w2 herr (kstMs (x := Str.ofString "said") (word := w2) (psW fm pd rd word tw) F8 rfl ?_) (kst_newsOf N8 ?_)
    · repeat (first | with_reducible exact allP_nil | refine allP_cons (by exact rfl) ?_)
    · first | ((repeat (first | (with_reducible exact sub_nil) | (with_reducible exact sub_refl) | (with_reducible (refine sub_cons ?_ ?_; focus ((repeat (first | exact List.mem_cons_self | refine List.mem_cons_of_mem _ ?_)); done))) | (with_reducible refine sub_tail ?_))); done) | ((repeat (first | (exact sub_nil) | (exact sub_refl) | ((refine sub_cons ?_ ?_; focus ((repeat (first | exact List.mem_cons_self | refine List.mem_cons_of_mem _ ?_)); done))) | (refine sub_tail ?_))); done)
end
theorem cleanL553 : True := by
  w_top off
  k_with_none
  exact trivial
theorem fillL5 : (PySem.Challenge.rw_no0499_01 = PySem.Challenge.rw_no0499_01) ∧ hd.heap_39 = hd.heap_39 := by
  k_fill
  exact ⟨rfl, rfl⟩
theorem cleanL554 : True := by
  k_with "z_k_ne" => (((try dsimp only); first | assumption | exact Ne.symm (by assumption)))
  k_with "z_list_led_call_type_list" => ((with_reducible show wpAny _ _ (call (Value.type _) [Value.ref _]) _ _ _); apply list_led; (case F => k_asm); (case N => k_asm); (case hb => k_mem); (case hz => omega))
  k_with "z:call ref" => (refine wall ?_)
  k_with "z:getAttr ref" => (refine wall ?_)
  k_with "z_k_ne" => (((try dsimp only); first | assumption | exact Ne.symm (by assumption)))
  k_with "z_list_led_call_type_list" => ((with_reducible show wpAny _ _ (call (Value.type _) [Value.ref _]) _ _ _); apply list_led; (case F => k_asm); (case N => k_asm); (case hb => k_mem); (case hz => omega))
  k_with "z:call ref" => (refine wall ?_)
  k_with "z:getAttr ref" => (refine wall ?_)
  exact trivial
section
variable {w : World} {mean : ExcName → Option Value} {mg mb : Str → Option Value} {A : Around} {prog : Program} {s : Shared}
def PsOk (m₀ : Str → Option Value) (fm : Addr) (ps : List (Str × Value)) : Prop :=
  ∀ p ∈ ps, p.1 ≠ Str.ofString "again" ∧ p.1 ≠ Str.ofString "values" ∧ p.1 ≠ Str.ofString "refusal" ∧ kstB m₀ ((Str.ofString "formals", .ref fm) :: ps) p.1 = some p.2
theorem law_ph8 {oc : Value} {od0 : Option Addr} {osl : Array (Option Value)} {name qual : Str} {params : Arguments} {s0 s1 s2 s3 s4 s5 s6 s7 s8 : Stmt} {srest : List Stmt} {scope : Scope} {dV kV doc pm cdv0 cdv ct : Value} {an : Option Addr}
   (hst : (hd.heap_39 w.params).lookup 155 = some ⟨oc, od0, .func (fnX name qual params (s0 :: s1 :: s2 :: s3 :: s4 :: s5 :: s6 :: s7 :: s8 :: srest) scope [] dV kV doc pm an cdv0 ct), osl⟩)
   {g : Heap} {L' : Nat} {f : Addr} {m₀ : Str → Option Value} {oA : Obj} {E : Value → Shared → Prop} {Q : Flow → Shared → Prop} {dp un : Nat} {gd : Option (List Code)}
   {fm al : Nat} {fv av : List Value} {ts : List Tag} {fs : List Str} {qs : List (Tag × Value)} {ext more : List (Addr × Obj)} {ps : List (Str × Value)}
   (hA : A = (Ar dp un gd []).deeper (envOfC qual scope L' f cdv)) (rmU : RoomUp (Ar dp un gd []) [] 20)
   (G : Gr w mean mg mb g) (B : Below (Ar dp un gd []) g [] g) (hE : PassesOwn (model prog w) A (envOfC qual scope L' f cdv) E)
   (F0 : Fr g L' s.heap (kstB m₀ ((Str.ofString "formals", .ref fm) :: ps))) (hps : PsOk m₀ fm ps)
   (N0 : News g L' s.heap ((fm, LCg.lst fv) :: (al, LCg.lst av) :: (L' + 1 + 1 + 1, oA) :: more))
   (hext : ∀ p ∈ ext, p ∈ more) (dA : oA.data = .cell (some (.ref al)))
   (hf : StrsAre fv fs) (hq : All2 (TupIn ext) av qs) (hok : QsOk ts qs) (hfl : fs.length ≤ 10) (htl : ts.length ≤ 10) (hfn : ∀ f ∈ fs, f.length ≤ 10) (htag : ∀ x, some x ∈ ts → x.length ≤ 10)
   (hne : al ≠ fm) (hne2 : L' + 1 + 1 + 1 ≠ fm) (hne3 : ∀ p ∈ more, p.1 ≠ fm)
   (k1 : ∀ m' h tk tS lv vals ext2 pl rest, matchP ts fs = .ok (pl, rest) → All2 (IsVal av ext2 pl rest) vals fs →
     Fr g L' h (kstB m' ((Str.ofString "again", .str emp tS) :: (Str.ofString "values", .ref lv) :: (Str.ofString "formals", .ref fm) :: ps)) →
     News g L' h ((lv, LCg.lst vals) :: (fm, LCg.lst fv) :: (al, LCg.lst av) :: (L' + 1 + 1 + 1, oA) :: (more ++ ext2)) → Q .next { s with heap := h, toks := tk })
   (k2 : ∀ m' h tk tS w2, matchP ts fs = .error w2 →
     Fr g L' h (kstB m' ((Str.ofString "again", .str w2 tS) :: (Str.ofString "formals", .ref fm) :: ps)) →
     News g L' h ((al, LCg.lst av) :: (L' + 1 + 1 + 1, oA) :: more) → Q .next { s with heap := h, toks := tk }) :
   wpAny (model prog w) A (exec s8 (envOfC qual scope L' f cdv)) Q E s := by
  refine with_lit (x := (hd.heap_39 w.params).lookup 155) (by k_is) fun e => ?_
  replace e := hst.symm.trans e
  clear hst
  cases e
  subst hA
  have X' := G.kin
  have T' := G.top
  have hfvl : fv.length ≤ 10 := by rw [hf.length]; exact hfl
  have hql : qs.length = ts.length := by rw [← hok.tags, List.length_map]
  have havl : av.length ≤ 10 := by rw [hq.length, hql]; exact htl
  refine wpAny_Try_except ?_
  k_steps
  unfold Wall
  rename_i D2 c2 h2 F2 N2 l2
  refine hide fun P_ k_ => ?_
  obtain ⟨b1, b2, b3, b4⟩ := l2
  refine k_ ?_; clear k_ P_
  have hR : ∀ p ∈ (D2, PySem.W.listOf av.toArray c2) :: (al, LCg.lst av) :: (L' + 1 + 1 + 1, oA) :: more, p ∈ (D2, PySem.W.listOf av.toArray c2) :: (fm, LCg.lst fv) :: (al, LCg.lst av) :: (L' + 1 + 1 + 1, oA) :: more ∧ p.1 ∉ [(fm, LCg.lst fv)].map (·.1) := by
    intro p hp
    simp only [List.map_cons, List.map_nil, List.mem_singleton]
    simp only [List.mem_cons] at hp ⊢
    rcases hp with rfl | rfl | rfl | hp
    · exact ⟨.inl rfl, Nat.ne_of_gt b1⟩
    · exact ⟨.inr (.inr (.inl rfl)), hne⟩
    · exact ⟨.inr (.inr (.inr (.inl rfl))), hne2⟩
    · exact ⟨.inr (.inr (.inr (.inr hp))), hne3 p hp⟩
  have hTn : ∀ p ∈ [(fm, LCg.lst fv)], p ∈ (D2, PySem.W.listOf av.toArray c2) :: (fm, LCg.lst fv) :: (al, LCg.lst av) :: (L' + 1 + 1 + 1, oA) :: more := fun p hp => by
    rw [List.mem_singleton.mp hp]; exact .tail _ (.head _)
  have hav := tupsIn_args hq N2 (fun p hp => .tail _ (.tail _ (.tail _ (.tail _ (hext p hp)))))
  have htg : qs.map (·.1) = ts := hok.tags
  refine use_try (T := [(fm, LCg.lst fv)]) (rest := (D2, PySem.W.listOf av.toArray c2) :: (al, LCg.lst av) :: (L' + 1 + 1 + 1, oA) :: more) (P' := matchE (qs.map (·.1)) fs) (D := takeD av fm fv fv.length (qs.map (·.1)) fs) (args := ⟨[.ref D2, .ref fm], []⟩)
    B F2 N2 rfl rfl hTn hR
    (fun R a k kr => take_c G a ⟨_, (N2 _ (.head _)).1, rfl, _, rfl⟩ (Nat.ne_of_gt b1) hav hf hok.vals (by omega) hfl hfn (by rw [htg]; exact htag) (RoomUp.use rmU (by omega)) k kr) ?_ ?_
  · rintro v h' tk6 T6 F7 N7 hq_ hnew
    refine hide fun P_ k_ => ?_
    obtain ⟨lv, vals, ext2, pl, rest, rfl, rfl, hmat, hvals⟩ := hq_
    refine k_ ?_; clear k_ P_
    (try dsimp only)
    (try simp only [List.cons_append, List.nil_append] at N7)
    clear F0 N0 F2 N2
    k_steps
    (rename Fr _ _ _ _ => F8)
    (rename News _ _ _ _ => N8)
    rw [htg] at hmat
    refine k1 _ _ _ _ lv vals ext2 pl rest hmat hvals (kstMs (x := Str.ofString "again") (word := emp) ((Str.ofString "values", .ref lv) :: (Str.ofString "formals", .ref fm) :: ps) F8 rfl ?_) (kst_newsOf N8 ?_)
    · intro p hp
      rcases List.mem_cons.mp hp with rfl | hp
      · rfl
      rcases List.mem_cons.mp hp with rfl | hp
      · rfl
      refine hide fun P_ k_ => ?_
      obtain ⟨z1, z2, z3, z4⟩ := hps p hp
      refine k_ ?_; clear k_ P_
      (try dsimp only)
      rw [if_neg z1, if_neg z2]
      exact z4
    · intro p hp
      simp only [List.mem_cons, List.mem_append] at hp ⊢
      rcases hp with rfl | rfl | rfl | rfl | hp | hp <;> first | simp | simp [hp]
  · rintro e v h' tk' hq_ fl
    refine hide fun P_ k_ => ?_
    obtain ⟨w2, t2, rfl, herr⟩ := hq_
    refine k_ ?_; clear k_ P_
    refine caught_D (rest := (D2, PySem.W.listOf av.toArray c2) :: (al, LCg.lst av) :: (L' + 1 + 1 + 1, oA) :: more) G rfl rfl rfl F2 N2 hR hTn fl (fun A' E' Q' s₂ F h => nameX_K F X' (topRead_of T') (by k_is) h) rfl rfl fun h₇ tk₇ F7 N7 ex => ?_
    clear F0 N0 F2 N2
    k_steps
    unfold Wall
    rw [htg] at herr
    refine exc_get (X'.keeps F7.keep) ex ?_
    k_steps
    (rename Fr _ _ _ _ => F9)
    (rename News _ _ _ _ => N9)
    refine wpAny_nameGoes_keeps (by rfl) F9.ns (by rfl) fun h8 v8 hn8 hs8 => ?_
    have F8 := F9.set hn8 hs8
    have N8 := N9.set hs8
    clear F9 N9
    refine k2 _ _ _ _ w2 herr (kstMs (x := Str.ofString "again") (word := w2) ((Str.ofString "formals", .ref fm) :: ps) F8 rfl ?_) (kst_newsOf N8 ?_)
    · intro p hp
      rcases List.mem_cons.mp hp with rfl | hp
      · rfl
      refine hide fun P_ k_ => ?_
      obtain ⟨z1, z2, z3, z4⟩ := hps p hp
      refine k_ ?_; clear k_ P_
      (try dsimp only)
      rw [if_neg z3, if_neg z1, if_neg z3]
      exact z4
    · first | ((repeat (first | (with_reducible exact sub_nil) | (with_reducible exact sub_refl) | (with_reducible (refine sub_cons ?_ ?_; focus ((repeat (first | exact List.mem_cons_self | refine List.mem_cons_of_mem _ ?_)); done))) | (with_reducible refine sub_tail ?_))); done) | ((repeat (first | (exact sub_nil) | (exact sub_refl) | ((refine sub_cons ?_ ?_; focus ((repeat (first | exact List.mem_cons_self | refine List.mem_cons_of_mem _ ?_)); done))) | (refine sub_tail ?_))); done)
end
/-! a refused word is not empty -/
theorem str_len_append (a b : Str) : (a ++ b).length = a.length + b.length := by
  show (a ++ b).cps.size = a.cps.size + b.cps.size
  exact Array.size_append
theorem dbl_ne {nm : Str} : dblText nm ≠ emp := fun e => by
  have h := congrArg Str.length e
  unfold dblText at h
  rw [str_len_append, str_len_append] at h
  have h1 : (Str.ofString "formal argument \"").length = 17 := by decide +kernel
  have h2 : emp.length = 0 := by decide +kernel
  omega
theorem arg_ne {j : Nat} : argText j ≠ emp := fun e => by
  have h := congrArg Str.length e
  unfold argText at h
  rw [str_len_append, str_len_append, str_len_append] at h
  have h1 : (Str.ofString "argument ").length = 9 := by decide +kernel
  have h2 : emp.length = 0 := by decide +kernel
  omega
theorem unused_ne {ts : List Tag} {r : List Nat} : unusedText ts r ≠ emp := fun e => by
  have h := congrArg Str.length e
  unfold unusedText at h
  rw [str_len_append, str_len_append, str_len_append] at h
  have h1 : (Str.ofString ")").length = 1 := by decide +kernel
  have h2 : emp.length = 0 := by decide +kernel
  omega
theorem foldE_bad {α σ ε : Type} {f : σ → α → Except ε σ} {P : ε → Prop} (hf : ∀ s a m, f s a = .error m → P m) : ∀ {l : List α} {s : σ} {m : ε}, foldE f l s = .error m → P m
  | [], s, m, h => by cases h
  | a :: r, s, m, h => by
    simp only [foldE] at h
    cases e : f s a with
    | error m' => rw [e] at h; cases h; exact hf _ _ _ e
    | ok s' => rw [e] at h; exact foldE_bad hf h
theorem due1_bad {ts : List Tag} {s : Pl} {a m : Str} (hm : due1Step ts s a = .error m) : m ≠ emp := by
  unfold due1Step at hm
  split at hm
  · exact nomatch hm
  · exact nomatch hm
  · have e := Except.error.inj hm
    rw [← e]; exact dbl_ne
theorem due2_bad {ts : List Tag} {wh : List Nat} {nm : Str} {s : Pa} {j : Nat} {m : Str} (hm : due2Step ts wh nm s j = .error m) : m ≠ emp := by
  unfold due2Step at hm
  split at hm
  · exact nomatch hm
  · split at hm
    · have e := Except.error.inj hm
      rw [← e]; exact arg_ne
    · split at hm
      · have e := Except.error.inj hm
        rw [← e]; exact dbl_ne
      · exact nomatch hm
theorem due2n_bad {ts : List Tag} {pl : Pl} {s : Pa} {a m : Str} (hm : due2Name ts pl s a = .error m) : m ≠ emp := by
  unfold due2Name at hm
  split at hm
  · exact nomatch hm
  · exact foldE_bad (P := fun m => m ≠ emp) (fun s a m h => due2_bad h) hm
theorem dueP_err_ne {ts : List Tag} {fs : List Str} {m : Str} (h : dueP ts fs = .error m) : m ≠ emp := by
  unfold dueP at h
  split at h
  · rename_i m' e
    have e2 := Except.error.inj h
    rw [← e2]
    exact foldE_bad (P := fun m => m ≠ emp) (fun s a m hm => due1_bad hm) e
  · split at h
    · rename_i m' e
      have e2 := Except.error.inj h
      rw [← e2]
      exact foldE_bad (P := fun m => m ≠ emp) (fun s a m hm => due2n_bad hm) e
    · dsimp only at h
      split at h
      · have e2 := Except.error.inj h
        rw [← e2]; exact unused_ne
      · exact nomatch h
/-! the names and the tags at hand -/
theorem names0_len : ∀ f ∈ names0, f.length ≤ 10 := by decide +kernel
theorem emp_names0 : emp ∉ names0 := by decide +kernel
theorem menu_ok : ∀ y ∈ menu, ∀ x, y = some x → x.length ≤ 10 ∧ PyData.strOk x = true := by
  intro y hy x e
  subst e
  simp only [menu, List.mem_cons, List.not_mem_nil, or_false, Option.some.injEq, reduceCtorEq, false_or] at hy
  rcases hy with rfl | rfl | rfl | rfl | rfl | rfl | rfl | rfl <;> exact ⟨by decide +kernel, by decide +kernel⟩
section
variable {prog : Program} {w : World} {A : Around} {E : Value → Shared → Prop} {s : Shared}
theorem pl_hits {kb : List (Str × Value)} {ka : List (Str × Value)} {pl : Pl} (h : PlAre ka pl) (hv : ∀ p ∈ pl, ∃ t, valueAt kb p.1 = some (.int (p.2 : Int) t)) : KeqHits A s kb ka true := by
  induction h with
  | nil => exact .nil
  | @cons a b as bs r _ ih =>
    obtain ⟨k, v⟩ := a
    obtain ⟨r1, tk, r2⟩ := r
    (try dsimp only at r1 r2)
    obtain ⟨t, ht⟩ := hv b (.head _)
    subst r2
    rw [← r1] at ht
    have e := KeqHits.hit (A := A) (s := s) ht (SeqAt.EqAt.int_int (b.2 : Int) tk (b.2 : Int) t) (ih fun p hp => hv p (.tail _ hp))
    rw [beq_self_eq_true, Bool.true_and] at e
    exact e
theorem pl_vals {kb : List (Str × Value)} {pl : Pl} (h : PlAre kb pl) (hn : (kb.map (·.1)).Nodup) : ∀ p ∈ pl, ∃ t, valueAt kb p.1 = some (.int (p.2 : Int) t) := by
  induction h with
  | nil => intro p hp; cases hp
  | @cons a b as bs r hr ih =>
    obtain ⟨k, v⟩ := a
    obtain ⟨r1, tk, r2⟩ := r
    (try dsimp only at r1 r2)
    intro p hp
    rw [List.map_cons, List.nodup_cons] at hn
    rcases List.mem_cons.mp hp with rfl | hp
    · exact ⟨tk, by simp [valueAt, r1, r2]⟩
    · obtain ⟨t, ht⟩ := ih hn.2 p hp
      refine ⟨t, ?_⟩
      have hk : k ≠ p.1 := fun e => hn.1 (by
        have hm : p.1 ∈ as.map (·.1) := by
          unfold valueAt at ht
          obtain ⟨q, hq, _⟩ := Option.map_eq_some_iff.mp ht
          have h1 := List.find?_some hq
          have h2 := List.mem_of_find?_eq_some hq
          rw [← of_decide_eq_true h1]
          exact List.mem_map_of_mem h2
        rw [← e] at hm; exact hm)
      unfold valueAt at ht ⊢
      rw [List.find?_cons, show decide ((k, v).1 = p.1) = false from decide_eq_false hk]
      exact ht
theorem dict_eq {h₀ : Heap} {L a b : Addr} {news : List (Addr × Obj)} {oa ob : Obj} {ka kb : List (Str × Value)} {pl : Pl} {Q : Value → Shared → Prop} (N : News h₀ L s.heap news) (ma : (a, oa) ∈ news) (mb : (b, ob) ∈ news)
    (da : oa.IsDictOf (PySem.strKind prog w) ka) (db : ob.IsDictOf (PySem.strKind prog w) kb) (pa : PlAre ka pl) (pb : PlAre kb pl) (ha : (a == sysModules) = false) (hb : (b == sysModules) = false) (hu : A.units < cLine) (h : Q (.bool true) s) :
    wpAny (model prog w) A (compareOp .Eq (.ref a) (.ref b)) Q E s := by
  have hn : (kb.map (·.1)).Nodup := by
    obtain ⟨_, _, _, _, _, _, hn⟩ := db
    exact hn
  refine keq_eq ha hb (Heap.dictOf_iff.mpr ⟨_, (N _ ma).1, da⟩) (Heap.dictOf_iff.mpr ⟨_, (N _ mb).1, db⟩) hu (fun _ => pl_hits pa (pl_vals pb hn)) ?_
  rw [pa.length, ← pb.length, beq_self_eq_true]
  exact h
theorem ints_eq {h₀ : Heap} {L a b : Addr} {news : List (Addr × Obj)} {va vb : List Value} {na nb : Nat} {ns : List Int} {Q : Value → Shared → Prop} (N : News h₀ L s.heap news) (ma : (a, PySem.W.listOf va.toArray na) ∈ news) (mb : (b, PySem.W.listOf vb.toArray nb) ∈ news)
    (ia : IntsAre va ns) (ib : IntsAre vb ns) (hu : A.units + 64 < cLine) (h : Q (.bool true) s) : wpAny (model prog w) A (compareOp .Eq (.ref a) (.ref b)) Q E s := by
  refine eq_dataH (reads_of_ints ⟨_, (N _ ma).1, rfl, _, rfl⟩ ia) (reads_of_ints ⟨_, (N _ mb).1, rfl, _, rfl⟩ ib) (shaped_ints ns) (shaped_ints ns) hu ?_
  rw [SeqAt.eqv_refl _ (SeqAt.canLay_of_shaped (shaped_ints ns))]
  exact h
end
def tagD : Tag → PyData
  | none => .none
  | some x => .str x
def argD (ts : List Tag) (j : Nat) : PyData := .tuple [tagD (ts.getD j none), .int (100 + (j : Int))]
def valD (ts : List Tag) (pl : Pl) (rest : List Nat) (nm : Str) : PyData :=
  if nm = dots then .list (rest.map (argD ts)) else match plAt pl nm with
    | some j => .int (100 + (j : Int))
    | none => .none
theorem canAll {α : Type} {f : α → PyData} : ∀ {l : List α}, (∀ a ∈ l, (f a).canLay0 = true) → PyData.canLayAll0 (l.map f) = true
  | [], _ => by simp [PyData.canLayAll0]
  | a :: r, h => by
    simp only [List.map_cons, PyData.canLayAll0, Bool.and_eq_true]
    exact ⟨h a (.head _), canAll fun b hb => h b (.tail _ hb)⟩
theorem depAll {α : Type} {f : α → PyData} {k : Nat} : ∀ {l : List α}, (∀ a ∈ l, (f a).depth ≤ k) → PyData.depthAll (l.map f) ≤ k
  | [], _ => by simp [PyData.depthAll]
  | a :: r, h => by
    have h1 := h a (.head _)
    have h2 := depAll (f := f) (k := k) (l := r) fun b hb => h b (.tail _ hb)
    simp only [List.map_cons, PyData.depthAll]
    omega
theorem tagD_can {ts : List Tag} (ht : ∀ y ∈ ts, y ∈ menu) (j : Nat) : (tagD (ts.getD j none)).canLay0 = true ∧ (tagD (ts.getD j none)).depth ≤ 10 := by
  cases e : ts.getD j none with
  | none => exact ⟨by simp [tagD, PyData.canLay0], by simp [tagD, PyData.depth]⟩
  | some x =>
    have hm : some x ∈ ts := by
      rw [List.getD_eq_getElem?_getD] at e
      cases q : ts[j]? with
      | none => rw [q] at e; cases e
      | some y => rw [q] at e; cases e; exact List.mem_of_getElem? q
    exact ⟨by simp [tagD, PyData.canLay0, (menu_ok _ (ht _ hm) x rfl).2], by simp [tagD, PyData.depth]⟩
theorem argD_can {ts : List Tag} (ht : ∀ y ∈ ts, y ∈ menu) (j : Nat) : (argD ts j).canLay0 = true ∧ (argD ts j).depth ≤ 20 := by
  obtain ⟨h1, h2⟩ := tagD_can ht j
  unfold argD
  refine ⟨by simp only [PyData.canLay0, PyData.canLayAll0, h1, Bool.and_true], ?_⟩
  simp only [PyData.depth, PyData.depthAll]
  omega
theorem valD_can {ts : List Tag} (ht : ∀ y ∈ ts, y ∈ menu) {pl : Pl} {rest : List Nat} (nm : Str) : (valD ts pl rest nm).canLay0 = true ∧ (valD ts pl rest nm).depth ≤ 30 := by
  unfold valD
  split
  · refine ⟨?_, ?_⟩
    · simp only [PyData.canLay0]
      exact canAll fun j _ => (argD_can ht j).1
    · have := depAll (f := argD ts) (k := 20) (l := rest) fun j _ => (argD_can ht j).2
      simp only [PyData.depth]
      omega
  · split
    · exact ⟨by simp [PyData.canLay0], by simp [PyData.depth]⟩
    · exact ⟨by simp [PyData.canLay0], by simp [PyData.depth]⟩
theorem vals_shaped {ts : List Tag} (ht : ∀ y ∈ ts, y ∈ menu) {pl : Pl} {rest : List Nat} {fs : List Str} : SeqAt.shaped (.list (fs.map (valD ts pl rest))) = true := by
  have h1 := depAll (f := valD ts pl rest) (k := 30) (l := fs) fun j _ => (valD_can ht j).2
  have h2 : PyData.depth (.list (fs.map (valD ts pl rest))) ≤ 64 := by simp only [PyData.depth]; omega
  unfold SeqAt.shaped
  rw [Bool.and_eq_true]
  refine ⟨?_, decide_eq_true h2⟩
  simp only [PyData.canLay0]
  exact canAll fun j _ => (valD_can ht j).1
section
variable {g h : Heap} {L : Addr} {news ext ext2 : List (Addr × Obj)} {av : List Value} {qs : List (Tag × Value)} {ts : List Tag} {pl : Pl} {rest : List Nat}
theorem tag_reads {v : Value} {y : Tag} (x : IsTag v y) : Reads h v (tagD y) [] := by
  cases y with
  | none => cases x; exact .none
  | some z => obtain ⟨tk, rfl⟩ := x; exact .str z tk
theorem arg_reads (N : News g L h news) (ke : ∀ p ∈ ext, p ∈ news) (hq : All2 (TupIn ext) av qs) (hok : QsOk ts qs) {v : Value} {j : Nat} (e : av[j]? = some v) : ∃ as, Reads h v (argD ts j) as := by
  obtain ⟨q, hqj, T, tv, n, rfl, hg, hm⟩ := hq.get e
  obtain ⟨t, ht⟩ := hok.vals j q hqj
  have hgt : ts.getD j none = q.1 := by
    rw [← hok.tags, List.getD_eq_getElem?_getD, List.getElem?_map, hqj]; rfl
  unfold argD
  rw [hgt]
  refine ⟨_, .tuple (N _ (ke _ hm)).1 rfl rfl (.cons (tag_reads hg) (.cons (v := q.2) (as := []) ?_ .nil))⟩
  rw [ht]
  exact .int _ t
theorem args_reads (N : News g L h news) (ke : ∀ p ∈ ext, p ∈ news) (hq : All2 (TupIn ext) av qs) (hok : QsOk ts qs) {dv : List Value} (hd : All2 (fun v j => av[j]? = some v) dv rest) : ∃ as, ReadsAll h dv (rest.map (argD ts)) as := by
  induction hd with
  | nil => exact ⟨_, .nil⟩
  | cons r _ ih =>
    obtain ⟨as, h1⟩ := arg_reads N ke hq hok r
    obtain ⟨bs, h2⟩ := ih
    exact ⟨_, .cons h1 h2⟩
theorem val_reads (N : News g L h news) (ke : ∀ p ∈ ext, p ∈ news) (ke2 : ∀ p ∈ ext2, p ∈ news) (hq : All2 (TupIn ext) av qs) (hok : QsOk ts qs) {v : Value} {nm : Str} (x : IsVal av ext2 pl rest v nm) : ∃ as, Reads h v (valD ts pl rest nm) as := by
  unfold IsVal at x
  unfold valD
  split at x
  · rename_i e
    rw [if_pos e]
    obtain ⟨D, dv, rfl, hm, hd⟩ := x
    obtain ⟨as, h1⟩ := args_reads (rest := rest) N ke hq hok hd
    exact ⟨_, .list (N _ (ke2 _ hm)).1 rfl rfl (by simpa using h1)⟩
  · rename_i e
    rw [if_neg e]
    split at x
    · rename_i j ej
      obtain ⟨t, rfl⟩ := x
      exact ⟨_, by first | (rw [ej]; exact .int _ t) | exact .int _ t⟩
    · rename_i ej
      subst x
      exact ⟨_, by first | (rw [ej]; exact .none) | exact .none⟩
theorem vals_reads (N : News g L h news) (ke : ∀ p ∈ ext, p ∈ news) (ke2 : ∀ p ∈ ext2, p ∈ news) (hq : All2 (TupIn ext) av qs) (hok : QsOk ts qs) {vals : List Value} {fs : List Str} (hv : All2 (IsVal av ext2 pl rest) vals fs) : ∃ as, ReadsAll h vals (fs.map (valD ts pl rest)) as := by
  induction hv with
  | nil => exact ⟨_, .nil⟩
  | cons r _ ih =>
    obtain ⟨as, h1⟩ := val_reads N ke ke2 hq hok r
    obtain ⟨bs, h2⟩ := ih
    exact ⟨_, .cons h1 h2⟩
end
section
variable {prog : Program} {w : World} {A : Around} {E : Value → Shared → Prop} {s : Shared}
theorem vals_eq {h₀ : Heap} {L a b : Addr} {news ext ext2 ext3 : List (Addr × Obj)} {va vb av : List Value} {qs : List (Tag × Value)} {ts : List Tag} {pl : Pl} {rest : List Nat} {fs : List Str} {Q : Value → Shared → Prop} (N : News h₀ L s.heap news) (ma : (a, LCg.lst va) ∈ news) (mb : (b, LCg.lst vb) ∈ news)
    (ke : ∀ p ∈ ext, p ∈ news) (ke2 : ∀ p ∈ ext2, p ∈ news) (ke3 : ∀ p ∈ ext3, p ∈ news) (hq : All2 (TupIn ext) av qs) (hok : QsOk ts qs) (ht : ∀ y ∈ ts, y ∈ menu)
    (ha : All2 (IsVal av ext2 pl rest) va fs) (hb : All2 (IsVal av ext3 pl rest) vb fs) (hu : A.units + 64 < cLine) (h : Q (.bool true) s) : wpAny (model prog w) A (compareOp .Eq (.ref a) (.ref b)) Q E s := by
  obtain ⟨as, ra⟩ := vals_reads N ke ke2 hq hok ha
  obtain ⟨bs, rb⟩ := vals_reads N ke ke3 hq hok hb
  have sh := vals_shaped (pl := pl) (rest := rest) (fs := fs) ht
  refine eq_dataH (.list (N _ ma).1 rfl rfl (by simpa using ra)) (.list (N _ mb).1 rfl rfl (by simpa using rb)) sh sh hu ?_
  rw [SeqAt.eqv_refl _ (SeqAt.canLay_of_shaped sh)]
  exact h
end
theorem cleanL855 : True := by
  w_top off
  k_with_none
  exact trivial
theorem fillL8 : (PySem.Challenge.rw_no0499_01 = PySem.Challenge.rw_no0499_01) ∧ hd.heap_39 = hd.heap_39 := by
  k_fill
  exact ⟨rfl, rfl⟩
section
variable {prog : Program} {w : World} {A : Around} {E : Value → Shared → Prop} {s : Shared} {h₀ : Heap} {L : Addr} {news : List (Addr × Obj)}
theorem item_val {value slice : Expr} {l : Addr} {vs : List Value} {nn : Nat} {j : Nat} {u : Tok} {Q : Value → Shared → Prop}
    (N : News h₀ L s.heap news) (hm : (l, PySem.W.listOf vs.toArray nn) ∈ news) (hk : j < vs.length) (hb : vs.length ≤ 1000)
    (h : ∀ v, vs[j]? = some v → Q v s)
    (hs : subscripted slice false (.ref l) (.int (j : Int) u) = operate [.ref l, .int (j : Int) u] (getItem (.ref l) (.int (j : Int) u)) := by with_unfolding_all rfl) :
    wpAny (model prog w) A (subscriptTail value slice (.ref l) (.int (j : Int) u)) Q E s := by
  have hl : s.heap.IsList l vs.toArray := ⟨_, (N _ hm).1, rfl, nn, rfl⟩
  refine tail_any hl.typeIs slot_list_getitem.lookup (wpAny_getItem_list hl (Int.natCast_nonneg j) (by omega) (by rw [List.getElem?_toArray]; exact List.getElem?_eq_getElem hk) ?_) hs
  exact h _ (List.getElem?_eq_getElem hk)
end
abbrev psF (du fm pd rd dp r lv : Addr) : List (Str × Value) := [(Str.ofString "due", .ref du), (Str.ofString "formals", .ref fm), (Str.ofString "places", .ref pd), (Str.ofString "rest", .ref rd), (Str.ofString "found", .ref dp), (Str.ofString "left", .ref r), (Str.ofString "values", .ref lv)]
theorem cleanL856 : True := by
  k_with "z_k_ne" => (((try dsimp only); first | assumption | exact Ne.symm (by assumption)))
  k_with "z_k_all" => (assumption)
  k_with "z:exec For Name Name cons nil" => (refine wall ?_)
  k_with "z:pyIter ref" => (refine wall ?_)
  k_with "z:eval ListComp" => (refine wall ?_)
  k_with "z:CompSrc" => (refine wall ?_)
  k_with "z:CompEnd" => (refine wall ?_)
  k_with "z:FinE" => (refine wall ?_)
  k_with "z:FinA" => (refine wall ?_)
  k_with "z:compareOp In str ref" => ((k_dflt (apply in_pl; (case N => k_asm); (case hm => k_mem); (case hd => assumption); (case hp => assumption); (case lo => assumption))))
  k_with "z:call builtin:list.append" => (((with_reducible show wpAny _ _ (call (Value.builtin _) [Value.ref _, _]) _ _ _); refine wall ?_))
  k_with "z:eval IfExp" => (refine wall ?_)
  k_with "z_item_pl_subscriptTail_Name_Name_ref_str_w" => ((with_reducible show wpAny _ _ (subscriptTail _ _ (Value.ref _) (Value.str _ _)) _ _ _); apply item_pl; (case hs => with_unfolding_all rfl); (case N => k_asm); (case hm => k_mem); (case hd => assumption); (case hp => assumption); (case hk => assumption))
  k_with "z_wall" => (refine wall ?_)
  k_with "z_item_val_subscriptTail_Name_Name_ref_int" => ((with_reducible show wpAny _ _ (subscriptTail _ _ (Value.ref _) (Value.int _ _)) _ _ _); apply item_val; (case hs => with_unfolding_all rfl); (case N => k_asm); (case hm => k_mem); (case hk => omega); (case hb => omega))
  exact trivial
section
variable {w : World} {mean : ExcName → Option Value} {mg mb : Str → Option Value} {A : Around} {prog : Program} {s : Shared}
theorem law_ph12 {oc : Value} {od0 : Option Addr} {osl : Array (Option Value)} {name qual : Str} {params : Arguments} {s0 s1 s2 s3 s4 s5 s6 s7 s8 s9 s10 s11 s12 : Stmt} {srest : List Stmt} {scope : Scope} {dV kV doc pm cdv0 cdv ct : Value} {an : Option Addr}
   (hst : (hd.heap_39 w.params).lookup 155 = some ⟨oc, od0, .func (fnX name qual params (s0 :: s1 :: s2 :: s3 :: s4 :: s5 :: s6 :: s7 :: s8 :: s9 :: s10 :: s11 :: s12 :: srest) scope [] dV kV doc pm an cdv0 ct), osl⟩)
   {g : Heap} {L' : Nat} {f : Addr} {m₀ : Str → Option Value} {oA od : Obj} {E : Value → Shared → Prop} {Q : Flow → Shared → Prop} {dp un : Nat} {gd : Option (List Code)}
   {fm al pd rd du dpa r lv : Nat} {fv av rv : List Value} {fs : List Str} {kvs : List (Str × Value)} {pl : Pl} {rest : List Nat} {more : List (Addr × Obj)}
   (hA : A = (Ar dp un gd []).deeper (envOfC qual scope L' f cdv))
   (G : Gr w mean mg mb g) (B : Below (Ar dp un gd []) g [] g) (hE : PassesOwn (model prog w) A (envOfC qual scope L' f cdv) E)
   (F0 : Fr g L' s.heap (kstB m₀ (psF du fm pd rd dpa r lv)))
   (N0 : News g L' s.heap ((du, LCg.lst []) :: (pd, od) :: (rd, LCg.lst rv) :: (fm, LCg.lst fv) :: (al, LCg.lst av) :: (L' + 1 + 1 + 1, oA) :: more))
   (dA : oA.data = .cell (some (.ref al))) (hf : StrsAre fv fs) (hfl : fs.length ≤ 10) (hd1 : od.IsDictOf (PySem.strKind prog w) kvs) (hpl : PlAre kvs pl) (hsys : (pd == sysModules) = false) (hrv : IntsAre rv (natsI rest))
   (hrl : rest.length ≤ 10) (hrj : ∀ j ∈ rest, j < av.length) (havl : av.length ≤ 10)
   (hne : pd ≠ du ∧ rd ≠ du ∧ fm ≠ du ∧ al ≠ du ∧ L' + 1 + 1 + 1 ≠ du) (hmore : ∀ p ∈ more, p.1 ≠ du)
   (k : ∀ m' h tk dues tl, (∀ p ∈ more, p ∈ tl) → All2 (IsVal av tl pl rest) dues fs → Fr g L' h (kstB m' (psF du fm pd rd dpa r lv)) →
     News g L' h ((du, LCg.lst dues) :: (pd, od) :: (rd, LCg.lst rv) :: (fm, LCg.lst fv) :: (al, LCg.lst av) :: (L' + 1 + 1 + 1, oA) :: tl) → Q .next { s with heap := h, toks := tk }) :
   wpAny (model prog w) A (exec s12 (envOfC qual scope L' f cdv)) Q E s := by
  refine with_lit (x := (hd.heap_39 w.params).lookup 155) (by k_is) fun e => ?_
  replace e := hst.symm.trans e
  clear hst
  cases e
  subst hA
  have X' := G.kin
  have T' := G.top
  refine hide fun P_ k_ => ?_
  obtain ⟨n1, n2, n3, n4, n5⟩ := hne
  refine k_ ?_; clear k_ P_
  have hfvl : fv.length ≤ 10 := by rw [hf.length]; exact hfl
  have hrvl : rv.length = rest.length := by rw [hrv.length, List.length_map]
  refine For_invV g rfl rfl ?_
  k_steps
  unfold Wall
  refine loop_list (vs := fv) (nn := fv.length) (fun q : TS => (du, LCg.lst q.vals) :: (pd, od) :: (rd, LCg.lst rv) :: (fm, LCg.lst fv) :: (al, LCg.lst av) :: (L' + 1 + 1 + 1, oA) :: q.ext) (fun _ => psF du fm pd rd dpa r lv) []
    (fun i q => (∀ p ∈ q.ext, p.1 ≠ du) ∧ (∀ p ∈ more, p ∈ q.ext) ∧ All2 (IsVal av q.ext pl rest) q.vals (fs.take i)) ⟨[], more⟩ rfl (fun q => by simp) F0 N0 ?_ ⟨hmore, fun _ h => h, .nil⟩ ?_ ?_
  · repeat (first | with_reducible exact allP_nil | refine allP_cons (by exact rfl) ?_)
  · rintro ⟨vals, ext⟩ i v u h tk I oI hv hI hq_ F N
    refine hide fun P_ k_ => ?_
    obtain ⟨hext, hmo, hvals⟩ := hq_
    obtain ⟨nm, tn, rfl, hnm⟩ := hf.item i v hv
    refine k_ ?_; clear k_ P_
    have hi10 : i < fs.length := (List.getElem?_eq_some_iff.mp hnm).1
    (try dsimp only at *)
    clear F0 N0
    have hI0 : I ≠ du := fun e => hI _ (.head _) e.symm
    have hvl : vals.length ≤ 10 := by
      rw [hvals.length, List.length_take]; omega
    k_steps
    · unfold Wall
      (rename (nm == _) = true => hx)
      have hx : nm = dots := by simpa [dots] using hx
      refine LCg.ListComp_U (F₀ := F) (by with_unfolding_all rfl) (by decide) (by rfl) (by decide) (by rfl) ?_
      k_steps
      unfold Wall
      refine LCg.CompSrc.ledger (by rfl) F N (.tail _ (.tail _ (.tail _ (.head _)))) ?_ fun g' => ?_
      · rw [List.size_toArray, hrvl, sizeLine_eq]; omega
      refine comp_inv (fun _ : Unit => (I, oI) :: (du, LCg.lst vals) :: (pd, od) :: (rd, LCg.lst rv) :: (fm, LCg.lst fv) :: (al, LCg.lst av) :: (L' + 1 + 1 + 1, oA) :: ext) (fun i ys _ => All2 (fun v j => av[j]? = some v) ys (rest.take i)) () (by exact .nil) ?_ ?_
      · rintro i2 ys ⟨⟩ v I2 oI2 C oC2 D m₂ h tk2 E' hi2 hv2 hys hC hx2 F3 N3 off ne
        refine hide fun P_ k_ => ?_
        obtain ⟨j, tj, hji, rfl⟩ := intsAre_at hrv hv2
        refine k_ ?_; clear k_ P_
        have hjm := hrj j (List.mem_of_getElem? hji)
        (try dsimp only at *)
        clear F N
        k_steps
        unfold Wall
        (rename Fr _ _ _ _ => F4)
        (rename News _ _ _ _ => N4)
        (rename av[_]? = some _ => hav1)
        refine LCg.CompEnd.intro F4 N4 _ (fun p hp => hp) off (.inr ⟨_, .tail _ (.tail _ (.tail _ (.head _))), rfl, _, rfl⟩) ⟨(), rfl, ?_⟩
        rw [take_snoc hji]
        exact hys.snoc hav1
      · rintro ys ⟨⟩ hys D h tk2 F3 N3 off
        rw [List.size_toArray, hrvl, List.take_length] at hys
        (try dsimp only)
        clear F N
        have hDn : D ≠ du ∧ D ≠ I := ⟨fun e => off.2.1 e.symm, fun e => off.1 e.symm⟩
        obtain ⟨hD1, hD2⟩ := hDn
        k_steps
        unfold Wall
        refine append_u F3 N3 (by k_upd) (by omega) fun h8 F8 N8 => ?_
        (try dsimp only)
        clear F3 N3
        k_steps
        refine LoopEnd.fin ⟨vals ++ [.ref D], (D, LCg.lst ys) :: ext⟩ (.inl rfl) F8 N8 ?_ (.tail _ (.head _)) ?_ ?_ kst_h5 ⟨?_, ?_, ?_⟩
        · first | ((repeat (first | (with_reducible exact sub_nil) | (with_reducible exact sub_refl) | (with_reducible (refine sub_cons ?_ ?_; focus ((repeat (first | exact List.mem_cons_self | refine List.mem_cons_of_mem _ ?_)); done))) | (with_reducible refine sub_tail ?_))); done) | ((repeat (first | (exact sub_nil) | (exact sub_refl) | ((refine sub_cons ?_ ?_; focus ((repeat (first | exact List.mem_cons_self | refine List.mem_cons_of_mem _ ?_)); done))) | (refine sub_tail ?_))); done)
        · intro p hp
          simp only [List.mem_cons] at hp
          rcases hp with rfl | rfl | rfl | rfl | rfl | rfl | rfl | hp
          · exact hI0.symm
          · exact hI _ (.tail _ (.head _))
          · exact hI _ (.tail _ (.tail _ (.head _)))
          · exact hI _ (.tail _ (.tail _ (.tail _ (.head _))))
          · exact hI _ (.tail _ (.tail _ (.tail _ (.tail _ (.head _)))))
          · exact hI _ (.tail _ (.tail _ (.tail _ (.tail _ (.tail _ (.head _))))))
          · exact hD2
          · exact hI _ (.tail _ (.tail _ (.tail _ (.tail _ (.tail _ (.tail _ hp))))))
        · repeat (first | with_reducible exact allP_nil | refine allP_cons (by exact rfl) ?_)
        · intro p hp
          rcases List.mem_cons.mp hp with rfl | hp
          · exact hD1
          · exact hext p hp
        · exact fun p hp => .tail _ (hmo p hp)
        · rw [take_snoc hnm]
          refine (isVals_ext hvals fun p hp => .tail _ hp).snoc ?_
          unfold IsVal
          rw [if_pos hx]
          exact ⟨D, ys, rfl, .head _, hys⟩
    · unfold Wall
      (rename (nm == _) = false => hx)
      have hx : nm ≠ dots := by simpa [dots] using hx
      refine wpAny_IfExp ?_
      k_steps
      · unfold Wall
        (rename hasP pl nm = true => hh)
        (rename plAt pl nm = some _ => hj)
        rename_i j1 tj1
        k_steps
        unfold Wall
        refine append_u F N (by k_upd) (by omega) fun h8 F8 N8 => ?_
        (try dsimp only)
        clear F N
        k_steps
        refine LoopEnd.fin ⟨vals ++ [.int (100 + (j1 : Int)) _], ext⟩ (.inl rfl) F8 N8 (fun p hp => .tail _ hp) (.head _) (off_of hI rfl) ?_ kst_h5 ⟨hext, hmo, ?_⟩
        · repeat (first | with_reducible exact allP_nil | refine allP_cons (by exact rfl) ?_)
        · rw [take_snoc hnm]
          refine hvals.snoc ?_
          unfold IsVal
          rw [if_neg hx, hj]
          exact ⟨_, rfl⟩
      · unfold Wall
        (rename hasP pl nm = false => hh)
        refine append_u (x := .none) F N (by k_upd) (by omega) fun h8 F8 N8 => ?_
        (try dsimp only)
        clear F N
        k_steps
        refine LoopEnd.fin ⟨vals ++ [.none], ext⟩ (.inl rfl) F8 N8 (fun p hp => .tail _ hp) (.head _) (off_of hI rfl) ?_ kst_h5 ⟨hext, hmo, ?_⟩
        · repeat (first | with_reducible exact allP_nil | refine allP_cons (by exact rfl) ?_)
        · rw [take_snoc hnm]
          refine hvals.snoc ?_
          unfold IsVal
          rw [if_neg hx, plAt_none hh]
  · rintro ⟨vals, ext⟩ u h tk hq_ F N
    refine hide fun P_ k_ => ?_
    obtain ⟨hext, hmo, hvals⟩ := hq_
    refine k_ ?_; clear k_ P_
    rw [hf.length, List.take_length] at hvals
    (try dsimp only at *)
    refine k _ h tk vals ext hmo hvals (kstM (psF du fm pd rd dpa r lv) F ?_) N
    repeat (first | with_reducible exact allP_nil | refine allP_cons (by exact rfl) ?_)
end
theorem cleanL957 : True := by
  w_top off
  k_with_none
  exact trivial
theorem fillL9 : (PySem.Challenge.rw_no0499_01 = PySem.Challenge.rw_no0499_01) ∧ hd.heap_39 = hd.heap_39 := by
  k_fill
  exact ⟨rfl, rfl⟩
theorem names_are {a b c d e f : Tok} : StrsAre [.str (Str.ofString "a") a, .str (Str.ofString "ab") b, .str (Str.ofString "abc") c, .str (Str.ofString "b") d, .str (Str.ofString "ba") e, .str (Str.ofString "...") f] names0 :=
  .cons _ _ (.cons _ _ (.cons _ _ (.cons _ _ (.cons _ _ (.cons _ _ .nil)))))
theorem ne_of_obj {g h : Heap} {L : Addr} {news : List (Addr × Obj)} (N : News g L h news) {a b : Addr} {o1 o2 : Obj} (m1 : (a, o1) ∈ news) (m2 : (b, o2) ∈ news) (n : o1 ≠ o2) : a ≠ b := fun e => by
  have h1 := (N _ m1).1
  have h2 := (N _ m2).1
  dsimp only at h1 h2
  rw [e, h2] at h1
  exact n (Option.some.inj h1).symm
theorem ne_cell {o : Obj} {v : Option Value} {vs : List Value} (d : o.data = .cell v) : o ≠ LCg.lst vs := fun e => by rw [e] at d; cases d
theorem ne_tup {o : Obj} {vs : List Value} (c : o.cls = .type "tuple") : o ≠ LCg.lst vs := fun e => by
  rw [e] at c
  have h : (Value.type "list") = Value.type "tuple" := c
  injection h with h
  exact absurd h (by decide)
theorem ne_dict {prog : Program} {w : World} {o : Obj} {kvs : List (Str × Value)} {vs : List Value} (d : o.IsDictOf (PySem.strKind prog w) kvs) : o ≠ LCg.lst vs := fun e => by
  refine hide fun P_ k_ => ?_
  obtain ⟨es, ep, _, hd, _⟩ := d
  refine k_ ?_; clear k_ P_
  rw [e] at hd; cases hd
theorem ne_ints {rv fv : List Value} {ns : List Int} {fs : List Str} (hr : IntsAre rv ns) (hf : StrsAre fv fs) (h1 : 1 ≤ fs.length) : LCg.lst rv ≠ LCg.lst fv := fun e => by
  have e2 : rv = fv := by
    have h := congrArg (fun o : Obj => o.data) e
    (try dsimp only at h)
    injection h with h _
    simpa using h
  subst e2
  cases hf with
  | nil => simp at h1
  | cons y t _ => cases hr
theorem str_ne_self {x : Str} (h : (x != x) = true) : False := by simp at h
theorem news_drop56 {g h : Heap} {L : Addr} {a b c d x y p q r : Addr × Obj} (N : News g L h [a, b, c, d, x, y, p, q, r]) : News g L h [a, b, c, d, p, q, r] :=
  kst_newsOf N fun z hz => by
    simp only [List.mem_cons, List.not_mem_nil, or_false] at hz ⊢
    rcases hz with rfl | rfl | rfl | rfl | rfl | rfl | rfl <;> simp
theorem cleanL958 : True := by
  k_with "z_k_ne" => (((try dsimp only); first | assumption | exact Ne.symm (by assumption)))
  k_with "z:exec For Name Call cons nil" => (refine wall ?_)
  k_with "z:exec For Name Name cons nil" => (refine wall ?_)
  k_with "z:eval ListComp" => (refine wall ?_)
  k_with "z:exec Assign cons ListComp" => (refine wall ?_)
  k_with "z:call ref" => (refine wall ?_)
  k_with "z:compareOp Eq ref ref" => (refine wall ?_)
  k_with "z:exec Try" => (refine wall ?_)
  exact trivial
section
variable {w : World} {mean : ExcName → Option Value} {mg mb : Str → Option Value} {A : Around} {prog : Program} {s : Shared}
theorem law_all {oc : Value} {od0 : Option Addr} {osl : Array (Option Value)} {name qual : Str} {params : Arguments} {body : List Stmt} {scope : Scope} {dV kV doc pm cdv0 cdv ct : Value} {an : Option Addr}
   (hst : (hd.heap_39 w.params).lookup 155 = some ⟨oc, od0, .func (fnX name qual params body scope [] dV kV doc pm an cdv0 ct), osl⟩)
   {g : Heap} {L' : Nat} {f : Addr} {m₀ : Str → Option Value} {oP oT oA : Obj} {E : Value → Shared → Prop} {Q : Flow → Shared → Prop} {dp un : Nat} {gd : Option (List Code)} {sc : Addr} {sv : List Value} {si : List Int} {tk : Nat} {h₁ : Heap}
   (hA : A = (Ar dp un gd []).deeper (envOfC qual scope L' f cdv)) (hun : un + 20 * 21 < cLine) (hdp : dp + 2 * 21 < recursionLimit)
   (G : Gr w mean mg mb g) (B : Below (Ar dp un gd []) g [] g) (hsc : g.IsList sc sv.toArray) (hsi : IntsAre sv si) (hsl : si.length ≤ 63)
   (hE : PassesOwn (model prog w) A (envOfC qual scope L' f cdv) E)
   (F0 : Fr g L' h₁ (kstB m₀ [(Str.ofString "script", .ref sc)]))
   (N0 : News g L' h₁ [(L' + 1 + 1 + 1, oA), (L' + 1 + 1, oT), (L' + 1, oP)]) (dP : oP.data = .cell none) (dT : oT.data = .cell none) (dA : oA.data = .cell none)
   (fin : ∀ h tk m, Fr g L' h m → Q (.ret (.bool true)) { s with heap := h, toks := tk }) :
   wpAny (model prog w) A (execs body (envOfC qual scope L' f cdv)) Q E { s with heap := h₁, toks := tk } := by
  have rmU : RoomUp (Ar dp un gd []) [] 20 := Room.up (A := Ar dp un gd []) (envs := []) (n := 20) ⟨rfl, rfl, hdp, hun⟩
  refine with_lit (x := (hd.heap_39 w.params).lookup 155) (by k_is) fun e => ?_
  replace e := hst.symm.trans e
  clear hst
  cases e
  subst hA
  have X' := G.kin
  have T' := G.top
  (try dsimp only)
  k_steps
  unfold Wall
  rename_i z3 h3 l3 D1 ws1 h31 i1 l31 D2 ws2 h32 i2 _ _ l32 pa h33 l33 h34 oP' dP' tk34 nm h35 l35 h36 tk36 fm h37 l37 h38 F1 N1
  refine law_ph3 (m₀ := _) (by k_is) rfl (by omega) rmU G B hE (s := { s with heap := h38, toks := _ }) (kstM [(Str.ofString "names", .ref nm), (Str.ofString "formals", .ref fm)] F1 ?_) (news_drop56 N1) names_are i2 ?_ ?_ ?_ dP' ?_
  · repeat (first | with_reducible exact allP_nil | refine allP_cons (by exact rfl) ?_)
  · rw [List.length_take, List.length_append, List.length_singleton]; omega
  · rw [List.length_take]; omega
  · exact ⟨l32.2.2.1, l33.1, l35.1, l37.1⟩
  rintro m3 h4 tk4 fv fs ns x3 y3 tx3 ty3 hf hpm hf1 hf2 hP3 F3 N3
  (try dsimp only)
  clear F1 N1
  k_steps
  unfold Wall
  have k1 := l32.2.2.1
  have k2 := l33.1
  have k3 : pa < fm := l37.2.1
  have k4 : L' + 1 + 1 + 1 < fm := l37.2.2.2.2.2.1
  refine law_ph4 (m₀ := _) (by k_is) rfl rmU G B hE (s := { s with heap := h4, toks := _ }) F3 N3 i2 (by rw [List.length_take, List.length_append, List.length_singleton]; omega) (by rw [List.length_take]; omega) hP3 ⟨k1, k2, k3⟩ dP' dT ?_
  rintro m4 h5 tk5 tl tv ts oT' htv htl htm dT' hn1 hn2 F4 N4
  (try dsimp only)
  clear F3 N3
  k_steps
  unfold Wall
  refine law_ph5 (m₀ := _) (by k_is) rfl G B hE (s := { s with heap := h5, toks := _ }) F4 N4 htv htl dT' dA hn2 (Nat.ne_of_gt k4) ?_
  rintro m5 h6 tk6 al av qs ext oA' hq hok dA' hn3 hn4 hxc F5 N5
  (try dsimp only)
  clear F4 N4
  k_steps
  unfold Wall
  have hfmem : ∀ f ∈ fs, f ∈ names0 := fun f hf => hpm.mem_iff.mp (List.mem_append_left _ hf)
  have hfn : ∀ f ∈ fs, f.length ≤ 10 := fun f hf => names0_len f (hfmem f hf)
  have htag : ∀ x, some x ∈ ts → x.length ≤ 10 := fun x hx => (menu_ok _ (htm _ hx) x rfl).1
  have hnd : fs.Nodup := (List.nodup_append.mp (hpm.nodup_iff.mpr names0_nodup)).1
  have hemp : emp ∉ fs := fun h => emp_names0 (hfmem _ h)
  have hdm := due_match (ts := ts) hnd hemp
  have c3 : L' + 1 + 1 + 1 ≠ tl := ne_of_obj N5 (a := L' + 1 + 1 + 1) (b := tl) (o1 := oA') (o2 := LCg.lst tv) (by repeat (first | with_reducible exact List.mem_cons_self | with_reducible refine List.mem_cons_of_mem _ ?_)) (by repeat (first | with_reducible exact List.mem_cons_self | with_reducible refine List.mem_cons_of_mem _ ?_)) (ne_cell dA')
  have c2 : L' + 1 + 1 ≠ tl := ne_of_obj N5 (a := L' + 1 + 1) (b := tl) (o1 := oT') (o2 := LCg.lst tv) (by repeat (first | with_reducible exact List.mem_cons_self | with_reducible refine List.mem_cons_of_mem _ ?_)) (by repeat (first | with_reducible exact List.mem_cons_self | with_reducible refine List.mem_cons_of_mem _ ?_)) (ne_cell dT')
  have c1 : L' + 1 ≠ tl := ne_of_obj N5 (a := L' + 1) (b := tl) (o1 := oP') (o2 := LCg.lst tv) (by repeat (first | with_reducible exact List.mem_cons_self | with_reducible refine List.mem_cons_of_mem _ ?_)) (by repeat (first | with_reducible exact List.mem_cons_self | with_reducible refine List.mem_cons_of_mem _ ?_)) (ne_cell dP')
  have f3 : L' + 1 + 1 + 1 ≠ fm := Nat.ne_of_lt k4
  have f2 : L' + 1 + 1 ≠ fm := Nat.ne_of_lt (by omega)
  have f1 : L' + 1 ≠ fm := Nat.ne_of_lt (by omega)
  have ce : ∀ p ∈ ext, p.1 ≠ tl ∧ p.1 ≠ fm := fun p hp => ⟨ne_of_obj N5 (a := p.1) (b := tl) (o1 := p.2) (o2 := LCg.lst tv) (by repeat (first | with_reducible exact hp | with_reducible refine List.mem_cons_of_mem _ ?_)) (by repeat (first | with_reducible exact List.mem_cons_self | with_reducible refine List.mem_cons_of_mem _ ?_)) (ne_tup (hxc p hp)), ne_of_obj N5 (a := p.1) (b := fm) (o1 := p.2) (o2 := LCg.lst fv) (by repeat (first | with_reducible exact hp | with_reducible refine List.mem_cons_of_mem _ ?_)) (by repeat (first | with_reducible exact List.mem_cons_self | with_reducible refine List.mem_cons_of_mem _ ?_)) (ne_tup (hxc p hp))⟩
  refine use_plain (T := [(fm, LCg.lst fv), (tl, LCg.lst tv)]) (rest := (al, LCg.lst av) :: (L' + 1 + 1 + 1, oA') :: (L' + 1 + 1, oT') :: (L' + 1, oP') :: ext) (D := dueD w prog fm tl fv tv fv.length tv.length ts fs) (args := ⟨[.ref fm, .ref tl], []⟩)
    B F5 N5 rfl rfl ?_ ?_
    (fun R a k => due_c G a hf htv (by omega) (by omega) hfn htag hnd (RoomUp.use rmU (by omega)) k) ?_
  · first | ((repeat (first | (with_reducible exact sub_nil) | (with_reducible exact sub_refl) | (with_reducible (refine sub_cons ?_ ?_; focus ((repeat (first | exact List.mem_cons_self | refine List.mem_cons_of_mem _ ?_)); done))) | (with_reducible refine sub_tail ?_))); done) | ((repeat (first | (exact sub_nil) | (exact sub_refl) | ((refine sub_cons ?_ ?_; focus ((repeat (first | exact List.mem_cons_self | refine List.mem_cons_of_mem _ ?_)); done))) | (refine sub_tail ?_))); done)
  · intro p hp
    simp only [List.mem_cons, List.map_cons, List.map_nil, List.not_mem_nil, or_false, not_or] at hp ⊢
    rcases hp with rfl | rfl | rfl | rfl | hp
    · exact ⟨by simp, hn4, hn3⟩
    · exact ⟨by simp, f3, c3⟩
    · exact ⟨by simp, f2, c2⟩
    · exact ⟨by simp, f1, c1⟩
    · exact ⟨by simp [hp], (ce p hp).2, (ce p hp).1⟩
  · rintro v h' tk7 T7 F7 N7 hq_ hnew
    refine hide fun P_ k_ => ?_
    obtain ⟨t, word, tw, pd, od, rd, rv, kvs, pl, rest, rfl, rfl, hd1, hpl, hrv, hsys, hdue⟩ := hq_
    refine k_ ?_; clear k_ P_
    (try dsimp only)
    (try simp only [List.cons_append, List.nil_append] at N7)
    clear F5 N5
    k_steps
    unfold Wall
    (rename Fr _ _ _ _ => F8)
    (rename News _ _ _ _ => N8)
    (try clear F7); (try clear N7)
    refine law_ph7 (m₀ := _) (ext := ext) (more := (pd, od) :: (rd, LCg.lst rv) :: (tl, LCg.lst tv) :: (L' + 1 + 1, oT') :: (L' + 1, oP') :: ext) (by k_is) rfl rmU G B hE (s := { s with heap := _, toks := _ }) (kstM (psW fm pd rd word tw) F8 ?_) (kst_newsOf N8 ?_) (by repeat (first | with_reducible exact sub_refl | with_reducible refine sub_tail ?_)) dA' hf hq hok (by omega) (by omega) hfn htag ?_ ?_
    · repeat (first | with_reducible exact allP_nil | refine allP_cons (by exact rfl) ?_)
    · first | ((repeat (first | (with_reducible exact sub_nil) | (with_reducible exact sub_refl) | (with_reducible (refine sub_cons ?_ ?_; focus ((repeat (first | exact List.mem_cons_self | refine List.mem_cons_of_mem _ ?_)); done))) | (with_reducible refine sub_tail ?_))); done) | ((repeat (first | (exact sub_nil) | (exact sub_refl) | ((refine sub_cons ?_ ?_; focus ((repeat (first | exact List.mem_cons_self | refine List.mem_cons_of_mem _ ?_)); done))) | (refine sub_tail ?_))); done)
    · clear F8 N8
      rintro m8 h8 tk8 tS dpa od2 r rv2 kvs2 pl2 rest2 hmat hd2 hpl2 hrv2 hsys2 F8 N8
      (try dsimp only)
      have hdq : dueP ts fs = .ok (pl2, rest2) := hdm.trans hmat
      obtain ⟨hd3, hw⟩ : dueP ts fs = .ok (pl, rest) ∧ word = emp := by
        rcases hdue with h | h
        · rw [hdq] at h; cases h
        · exact h
      rw [hdq] at hd3
      have hpr := Except.ok.inj hd3
      have hp1 : pl2 = pl := congrArg Prod.fst hpr
      have hp2 : rest2 = rest := congrArg Prod.snd hpr
      subst hp1
      subst hp2
      subst hw
      k_steps
      unfold Wall
      have N8' : News g L' h8 ((fm, LCg.lst fv) :: (al, LCg.lst av) :: (L' + 1 + 1 + 1, oA') :: (dpa, od2) :: (r, LCg.lst rv2) :: (pd, od) :: (rd, LCg.lst rv) :: (tl, LCg.lst tv) :: (L' + 1 + 1, oT') :: (L' + 1, oP') :: ext) := kst_newsOf N8 (by
        first | ((repeat (first | (with_reducible exact sub_nil) | (with_reducible exact sub_refl) | (with_reducible (refine sub_cons ?_ ?_; focus ((repeat (first | exact List.mem_cons_self | refine List.mem_cons_of_mem _ ?_)); done))) | (with_reducible refine sub_tail ?_))); done) | ((repeat (first | (exact sub_nil) | (exact sub_refl) | ((refine sub_cons ?_ ?_; focus ((repeat (first | exact List.mem_cons_self | refine List.mem_cons_of_mem _ ?_)); done))) | (refine sub_tail ?_))); done))
      clear N8
      have hne3 : ∀ p ∈ (dpa, od2) :: (r, LCg.lst rv2) :: (pd, od) :: (rd, LCg.lst rv) :: (tl, LCg.lst tv) :: (L' + 1 + 1, oT') :: (L' + 1, oP') :: ext, p.1 ≠ fm := by
        intro p hp
        simp only [List.mem_cons] at hp
        rcases hp with rfl | rfl | rfl | rfl | rfl | rfl | rfl | hp
        · exact ne_of_obj N8' (o1 := od2) (o2 := LCg.lst fv) (by repeat (first | with_reducible exact List.mem_cons_self | with_reducible refine List.mem_cons_of_mem _ ?_)) (by repeat (first | with_reducible exact List.mem_cons_self | with_reducible refine List.mem_cons_of_mem _ ?_)) (ne_dict hd2)
        · exact ne_of_obj N8' (o1 := LCg.lst rv2) (o2 := LCg.lst fv) (by repeat (first | with_reducible exact List.mem_cons_self | with_reducible refine List.mem_cons_of_mem _ ?_)) (by repeat (first | with_reducible exact List.mem_cons_self | with_reducible refine List.mem_cons_of_mem _ ?_)) (ne_ints hrv2 hf hf1)
        · exact ne_of_obj N8' (o1 := od) (o2 := LCg.lst fv) (by repeat (first | with_reducible exact List.mem_cons_self | with_reducible refine List.mem_cons_of_mem _ ?_)) (by repeat (first | with_reducible exact List.mem_cons_self | with_reducible refine List.mem_cons_of_mem _ ?_)) (ne_dict hd1)
        · exact ne_of_obj N8' (o1 := LCg.lst rv) (o2 := LCg.lst fv) (by repeat (first | with_reducible exact List.mem_cons_self | with_reducible refine List.mem_cons_of_mem _ ?_)) (by repeat (first | with_reducible exact List.mem_cons_self | with_reducible refine List.mem_cons_of_mem _ ?_)) (ne_ints hrv hf hf1)
        · exact hn1
        · exact f2
        · exact f1
        · exact (ce p hp).2
      refine law_ph8 (m₀ := _) (ext := ext) (ps := [(Str.ofString "said", .str emp tS), (Str.ofString "found", .ref dpa), (Str.ofString "left", .ref r), (Str.ofString "word", .str emp tw), (Str.ofString "places", .ref pd), (Str.ofString "rest", .ref rd)]) (by k_is) rfl rmU G B hE (s := { s with heap := h8, toks := _ }) (kstM ((Str.ofString "formals", .ref fm) :: [(Str.ofString "said", .str emp tS), (Str.ofString "found", .ref dpa), (Str.ofString "left", .ref r), (Str.ofString "word", .str emp tw), (Str.ofString "places", .ref pd), (Str.ofString "rest", .ref rd)]) F8 ?_) ?_ N8' (by repeat (first | with_reducible exact sub_refl | with_reducible refine sub_tail ?_)) dA' hf hq hok (by omega) (by omega) hfn htag hn4 f3 hne3 ?_ ?_
      · repeat (first | with_reducible exact allP_nil | refine allP_cons (by exact rfl) ?_)
      · intro p hp
        simp only [List.mem_cons, List.not_mem_nil, or_false] at hp
        rcases hp with rfl | rfl | rfl | rfl | rfl | rfl <;> exact ⟨by dsimp only; decide +kernel, by dsimp only; decide +kernel, by dsimp only; decide +kernel, rfl⟩
      · clear F8 N8'
        rintro m9 h9 tk9 tA lv vals ext2 pl3 rest3 hmat3 hvals F9 N9
        (try dsimp only)
        rw [hmat] at hmat3
        have hpr3 := Except.ok.inj hmat3
        have hp3 : pl2 = pl3 := congrArg Prod.fst hpr3
        have hp4 : rest2 = rest3 := congrArg Prod.snd hpr3
        subst hp3
        subst hp4
        simp only [List.cons_append] at N9
        k_steps
        all_goals first
          | (exfalso; (rename (_ != _) = true => hb); first | exact str_ne_self hb | exact absurd hb (by decide +kernel))
          | skip
        unfold Wall
        rename_i du h10 l10 h11 F10 N10
        refine hide fun P_ k_ => ?_
        obtain ⟨q1, q2, q3, q4, q5, q6, q7, q8, q9, q10, q11, q12⟩ := l10
        obtain ⟨hpj, hrj, hrl⟩ := matchP_lt hmat
        refine k_ ?_; clear k_ P_
        have hql : qs.length = ts.length := by rw [← hok.tags, List.length_map]
        have havl : av.length = ts.length := by rw [hq.length, hql]
        refine law_ph12 (m₀ := _) (more := (lv, LCg.lst vals) :: (dpa, od2) :: (r, LCg.lst rv2) :: (tl, LCg.lst tv) :: (L' + 1 + 1, oT') :: (L' + 1, oP') :: (ext ++ ext2)) (by k_is) rfl G B hE (s := { s with heap := h11, toks := _ }) (kstM (psF du fm pd rd dpa r lv) F10 ?_) (kst_newsOf N10 ?_) dA' hf (by omega) hd1 hpl hsys hrv (by omega) (fun j hj => Nat.lt_of_lt_of_eq (hrj j hj) havl.symm) (by omega) ⟨Nat.ne_of_lt q7, Nat.ne_of_lt q8, Nat.ne_of_lt q2, Nat.ne_of_lt q3, Nat.ne_of_lt q4⟩ ?_ ?_
        · repeat (first | with_reducible exact allP_nil | refine allP_cons (by exact rfl) ?_)
        · first | ((repeat (first | (with_reducible exact sub_nil) | (with_reducible exact sub_refl) | (with_reducible (refine sub_cons ?_ ?_; focus ((repeat (first | exact List.mem_cons_self | refine List.mem_cons_of_mem _ ?_)); done))) | (with_reducible refine sub_tail ?_))); done) | ((repeat (first | (exact sub_nil) | (exact sub_refl) | ((refine sub_cons ?_ ?_; focus ((repeat (first | exact List.mem_cons_self | refine List.mem_cons_of_mem _ ?_)); done))) | (refine sub_tail ?_))); done)
        · intro p hp
          simp only [List.mem_cons] at hp
          rcases hp with rfl | rfl | rfl | rfl | rfl | rfl | hp
          · exact Nat.ne_of_lt q1
          · exact Nat.ne_of_lt q5
          · exact Nat.ne_of_lt q6
          · exact Nat.ne_of_lt q9
          · exact Nat.ne_of_lt q10
          · exact Nat.ne_of_lt q11
          · exact Nat.ne_of_lt (allLt_mem q12 p hp)
        · rintro m10 h12 tk12 dues tl12 hmo hdues F11 N11
          (try dsimp only)
          (try clear F10); (try clear N10); (try clear F9); (try clear N9)
          have m1 : (dpa, od2) ∈ tl12 := hmo _ (by repeat (first | with_reducible exact List.mem_cons_self | with_reducible refine List.mem_cons_of_mem _ ?_))
          have m2 : (r, LCg.lst rv2) ∈ tl12 := hmo _ (by repeat (first | with_reducible exact List.mem_cons_self | with_reducible refine List.mem_cons_of_mem _ ?_))
          have m3 : (lv, LCg.lst vals) ∈ tl12 := hmo _ (by repeat (first | with_reducible exact List.mem_cons_self | with_reducible refine List.mem_cons_of_mem _ ?_))
          have me : ∀ p ∈ ext, p ∈ tl12 := fun p hp => hmo p (by simp [hp])
          have me2 : ∀ p ∈ ext2, p ∈ tl12 := fun p hp => hmo p (by simp [hp])
          have up : ∀ p ∈ tl12, p ∈ (du, LCg.lst dues) :: (pd, od) :: (rd, LCg.lst rv) :: (fm, LCg.lst fv) :: (al, LCg.lst av) :: (L' + 1 + 1 + 1, oA') :: tl12 := fun p hp => by simp [hp]
          have hu1 : un + 3 + 64 < cLine := by omega
          k_steps
          unfold Wall
          refine dict_eq N11 (up _ m1) (.tail _ (.head _)) hd2 hd1 hpl2 hpl hsys2 hsys (show un + 3 < cLine by omega) ?_
          k_steps
          unfold Wall
          refine ints_eq N11 (up _ m2) (.tail _ (.tail _ (.head _))) hrv2 hrv hu1 ?_
          k_steps
          unfold Wall
          refine vals_eq N11 (up _ m3) (.head _) (fun p hp => up p (me p hp)) (fun p hp => up p (me2 p hp)) up hq hok htm hvals hdues hu1 ?_
          k_steps
          exact fin _ _ _ F11
      · rintro m9 h9 tk9 tA w3 herr3
        rw [hmat] at herr3
        cases herr3
    · clear F8 N8
      rintro m8 h8 tk8 tS w2 herr F8 N8
      (try dsimp only)
      have hdq : dueP ts fs = .error w2 := hdm.trans herr
      have hwe := dueP_err_ne hdq
      have hw : word = w2 := by
        rcases hdue with h | h
        · rw [hdq] at h; exact (Except.error.inj h).symm
        · rw [hdq] at h; cases h.1
      subst hw
      k_steps
      unfold Wall
      have hne3 : ∀ p ∈ (pd, od) :: (rd, LCg.lst rv) :: (tl, LCg.lst tv) :: (L' + 1 + 1, oT') :: (L' + 1, oP') :: ext, p.1 ≠ fm := by
        intro p hp
        simp only [List.mem_cons] at hp
        rcases hp with rfl | rfl | rfl | rfl | rfl | hp
        · exact ne_of_obj N8 (o1 := od) (o2 := LCg.lst fv) (by repeat (first | with_reducible exact List.mem_cons_self | with_reducible refine List.mem_cons_of_mem _ ?_)) (by repeat (first | with_reducible exact List.mem_cons_self | with_reducible refine List.mem_cons_of_mem _ ?_)) (ne_dict hd1)
        · exact ne_of_obj N8 (o1 := LCg.lst rv) (o2 := LCg.lst fv) (by repeat (first | with_reducible exact List.mem_cons_self | with_reducible refine List.mem_cons_of_mem _ ?_)) (by repeat (first | with_reducible exact List.mem_cons_self | with_reducible refine List.mem_cons_of_mem _ ?_)) (ne_ints hrv hf hf1)
        · exact hn1
        · exact f2
        · exact f1
        · exact (ce p hp).2
      refine law_ph8 (m₀ := _) (ext := ext) (ps := [(Str.ofString "said", .str word tS), (Str.ofString "word", .str word tw), (Str.ofString "places", .ref pd), (Str.ofString "rest", .ref rd)]) (by k_is) rfl rmU G B hE (s := { s with heap := h8, toks := _ }) (kstM ((Str.ofString "formals", .ref fm) :: [(Str.ofString "said", .str word tS), (Str.ofString "word", .str word tw), (Str.ofString "places", .ref pd), (Str.ofString "rest", .ref rd)]) F8 ?_) ?_ N8 (by repeat (first | with_reducible exact sub_refl | with_reducible refine sub_tail ?_)) dA' hf hq hok (by omega) (by omega) hfn htag hn4 f3 hne3 ?_ ?_
      · repeat (first | with_reducible exact allP_nil | refine allP_cons (by exact rfl) ?_)
      · intro p hp
        simp only [List.mem_cons, List.not_mem_nil, or_false] at hp
        rcases hp with rfl | rfl | rfl | rfl <;> exact ⟨by dsimp only; decide +kernel, by dsimp only; decide +kernel, by dsimp only; decide +kernel, rfl⟩
      · clear F8 N8
        rintro m9 h9 tk9 tA lv vals ext2 pl3 rest3 hmat3
        rw [herr] at hmat3
        cases hmat3
      · clear F8 N8
        rintro m9 h9 tk9 tA w3 herr3 F9 N9
        (try dsimp only)
        have hw3 : w3 = word := by rw [herr] at herr3; exact (Except.error.inj herr3).symm
        subst hw3
        k_steps
        all_goals first
          | exact fin _ _ _ (by assumption)
          | (exfalso; (rename (_ != _) = true => hb); exact str_ne_self hb)
          | (exfalso; (rename (_ != Str.ofString "") = false => hb); exact hwe (by simpa [emp] using hb))
end
end Mine
set_option maxRecDepth 100000 in
set_option maxHeartbeats 8000000 in
theorem PySem.Challenge.cw_no0499_01_holds : PySem.Challenge.rw_no0499_01.Holds := by
  exact Mine.hd (by
    w_top off
    k_with_none
    k_go0
    all_goals try k_fold
    (rename Fr _ _ _ _ => F)
    (rename News _ _ _ _ => N)
    (rename Below _ _ _ _ => B)
    (rename Top _ _ _ _ _ _ => T)
    (rename Frag.In _ _ => KX)
    (rename IntsAre _ _ => hI)
    refine Mine.law_all (m₀ := fun _ => none) (by k_is) rfl ?_ ?_ ⟨KX, T⟩ B ?_ hI ?_ ?_ F N ?_ ?_ ?_ ?_
    · decide +kernel
    · decide +kernel
    · assumption
    · omega
    · first | exact PassesOwn.leaving | passes_own
    · assumption
    · assumption
    · assumption
    · intro h tk m F
      k_steps)
