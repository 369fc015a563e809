import PyProof.Rows.All
import Wide.All
import OpenK.AllK
import Wide.FinOn
import PySem.Challenge.RW_qz0116_01
set_option Elab.async false
set_option compiler.extract_closed false
set_option compiler.reuse false
set_option linter.all false
set_option maxRecDepth 100000
set_option maxHeartbeats 8000000
-- Pre
section
open PySem PySem.W PyProof.Rows
namespace Mine
section
local macro_rules | `(tactic| o_head $_) => `(tactic| assumption)
theorem pre (h : OpenRow.Holds PySem.Challenge.rw_qz0116_01.row) : OpenRow.Holds PySem.Challenge.rw_qz0116_01.row := by k_head
end

end Mine
end
-- SBase0
section
open PySem PySem.W PyProof.Rows PySem.Calls PySem.Spec
namespace Mine
theorem room_a {A : Around} {env : Env} {k K n : Nat} (h : A.depth + K < n) (hk : Nat.ble (k + 1) K = true) : (A.deeper env).depth + k < n := by
  have := Nat.le_of_ble_eq_true hk
  rw [depth_deeper]; omega
theorem room_b {A : Around} {env : Env} {k j c n : Nat} (h : A.depth + (j + c) < n) (hk : Nat.ble (k + 1) c = true) : (A.deeper env).depth + k < n := by
  have := Nat.le_of_ble_eq_true hk
  rw [depth_deeper]; omega
theorem room_c {A : Around} {env : Env} {K n : Nat} (h : A.depth + K < n) (hk : Nat.ble 2 K = true) : (A.deeper env).depth < n := by
  have := Nat.le_of_ble_eq_true hk
  rw [depth_deeper]; omega
theorem room_e {A : Around} {env : Env} {j c n : Nat} (h : A.depth + (j + c) < n) (hk : Nat.ble 2 c = true) : (A.deeper env).depth < n := by
  have := Nat.le_of_ble_eq_true hk
  rw [depth_deeper]; omega
theorem room_d {d K n : Nat} (h : d + K < n) : d < n := by omega
theorem room_f {d k K n : Nat} (h : d + K < n) (hk : Nat.ble k K = true) : d + k < n := by
  have := Nat.le_of_ble_eq_true hk
  omega
theorem uni_a {A : Around} {env : Env} {k K n : Nat} (h : A.units + K < n) (hk : Nat.ble (k + 3) K = true) : (A.deeper env).units + k < n := by
  have := Nat.le_of_ble_eq_true hk
  rw [units_deeper]; omega
theorem lt_ne {news : List (Addr × Obj)} {a d : Addr} {o : Obj} (l : ∀ p ∈ news, p.1 < d) (m : (a, o) ∈ news) : a ≠ d := Nat.ne_of_lt (l _ m)
theorem lt_all {news : List (Addr × Obj)} {d : Addr} (l : ∀ p ∈ news, p.1 < d) : ∀ p ∈ news, p.1 ≠ d := fun p hp => Nat.ne_of_lt (l p hp)
theorem off3_I {news : List (Addr × Obj)} {a I C D : Addr} {o : Obj} (x : LCg.Off3 I C D news) (m : (a, o) ∈ news) : a ≠ I := (x.mem _ m).1
theorem off3_C {news : List (Addr × Obj)} {a I C D : Addr} {o : Obj} (x : LCg.Off3 I C D news) (m : (a, o) ∈ news) : a ≠ C := (x.mem _ m).2.1
theorem off3_D {news : List (Addr × Obj)} {a I C D : Addr} {o : Obj} (x : LCg.Off3 I C D news) (m : (a, o) ∈ news) : a ≠ D := (x.mem _ m).2.2

end Mine
end
open PySem PySem.W PyProof.Rows PySem.Calls PySem.Spec Mine
local macro_rules | `(tactic| k_lt $_) => `(tactic| skip)
local macro_rules | `(tactic| k_ne) => `(tactic| (refine neN ?_; (try dsimp only); first | assumption | exact Ne.symm (by assumption) | exact Nat.ne_of_lt (by assumption) | exact Nat.ne_of_gt (by assumption) | exact lt_ne (by assumption) (by k_mem) | exact Ne.symm (lt_ne (by assumption) (by k_mem)) | exact off3_I (by assumption) (by k_mem) | exact off3_C (by assumption) (by k_mem) | exact off3_D (by assumption) (by k_mem) | exact Ne.symm (off3_I (by assumption) (by k_mem)) | exact Ne.symm (off3_C (by assumption) (by k_mem)) | exact Ne.symm (off3_D (by assumption) (by k_mem)) | omega))
-- SBase
section
open PySem PySem.W PyProof.Rows PySem.Calls PySem.Spec
namespace Mine
noncomputable abbrev prg : Program := PySem.Challenge.rw_qz0116_01.row.toRowW.1
noncomputable abbrev KF (w : World) : Frag := pre.heap_1 w.params

/-- what a call leaves alone -/
def Kept (h : Heap) (l : List Addr) (h' : Heap) : Prop := ∀ b o, h.get? b = some o → b ∉ l → h'.get? b = some o
def Fresh (h : Heap) (tl : List (Addr × Obj)) : Prop := ∀ p ∈ tl, h.get? p.1 = none

section
variable {prog : Program} {w : World} {A₀ A : Around} {s : Shared} {base h₀ : Heap} {outer : List Env} {L : Addr} {m : Str → Option Value} {env : Env} {news : List (Addr × Obj)} {K : Frag}
  {p : Program} {loose : List Str} {mean : ExcName → Option Value} {mg mb : Str → Option Value}
  {R : Result → Shared → Prop} {name qual : Str} {params : Arguments} {body : List Stmt} {scope : Scope} {dV kV doc pm cdv ct oc : Value} {an od : Option Addr} {osl : Array (Option Value)} {f : Addr} {args : Args} {binds : List (Str × Value)}

theorem enterS (B : Below A₀ base outer h₀) (F : Fr h₀ L s.heap m) (X₀ : K.In h₀) (N : News h₀ L s.heap news) (T : Top p loose mean mg mb h₀) (hA : A.frames = some (env :: outer)) (hf : env.frame = some L) (hke : env.scope.kind = .function)
    (ho : K.lookup f = some ⟨oc, od, .func (fnOf name qual params body scope dV kV doc pm an cdv ct), osl⟩) (hcd : codeIn K cdv qual = true) (hroom : A.depth < recursionLimit)
    (hbind : BindsTo s (fnOf name qual params body scope dV kV doc pm an cdv ct) args binds) (hloc : ∀ y ∈ binds, scope.names.lookup y.1 = some .local)
    (h : ∀ g L' h₁, Fr h₀ L g m → Fr g L' h₁ (fun y => binds.reverse.lookup y) → News g L' h₁ news → Below A base (env :: outer) g → K.In g → Top p loose mean mg mb g → (∀ p ∈ news, p.1 < L') →
      Kept s.heap (news.map (·.1)) g → (∀ b o, g.get? b = some o → s.heap.get? b = some o) → L' = s.heap.objs.size →
      wpAny (model prog w) (A.deeper (envOf qual scope L' f cdv)) (execs body (envOf qual scope L' f cdv))
        (fun fl s' => LeaveK h₀ L m g R (match fl with | .ret v => v | _ => .none) s')
        (fun e s' => wpAny (model prog w) (A.deeper (envOf qual scope L' f cdv)) (leaving (envOf qual scope L' f cdv) e) (fun _ s'' => R (.error e) s'') (fun e' s'' => R (.error e') s'') s')
        { s with heap := h₁, toks := s.toks + binds.length })
    (hco : scope.isCoroutine = false) (hgen : scope.isGenerator = false) (hk : scope.kind = .function)
    (hcell : ∀ x ∈ scope.names, x.2 ≠ .cell) : codeAny (model prog w) A (.call (.ref f) args) R s := by
  obtain ⟨FG, BG, st, lv⟩ := groundX (R := R) B F N hA hf hke
  have XS := X₀.keeps F.keep
  refine codeAny_call_def (fd := fnOf name qual params body scope dV kV doc pm an cdv ct) (body := body) (binds := binds) hroom (XS _ _ ho) rfl (T.nolimit.keeps F.keep) (codeRec_of XS hcd) rfl hbind hcell hloc (fun h₁ hns hk₁ => ?_) hco hgen hk
  exact wpAny_mono (h _ s.heap.objs.size h₁ FG ⟨hns, fun b o e => hk₁ b o (of_hideAll _ e), Nat.le_of_eq (hideAll_size _ _)⟩
    (fun p hp => ⟨hk₁ _ _ (N p hp).1, Nat.ne_of_lt (Heap.lt_size (N p hp).1), hideAll_none _ (List.mem_map_of_mem hp)⟩) BG (X₀.keeps st) (T.keeps st) (fun p hp => Heap.lt_size (N p hp).1)
      (fun b o e hn => hideAll_get _ e hn) (fun b o e => of_hideAll _ e) rfl) (fun fl s' hl => lv _ _ hl) fun _ _ y => y
end

theorem News.sub {h₀ h : Heap} {L : Addr} {l l' : List (Addr × Obj)} (N : News h₀ L h l) (hs : ∀ p ∈ l', p ∈ l) : News h₀ L h l' := fun p hp => N p (hs p hp)
theorem Kept.trans {h h₁ h₂ : Heap} {l : List Addr} (a : Kept h l h₁) (b : ∀ x o, h₁.get? x = some o → h₂.get? x = some o) : Kept h l h₂ := fun x o e n => b x o (a x o e n)

/-- the caller's ledger behind a call: one object turned, the call's own behind it -/
theorem after1 {h₀ h h' : Heap} {L x dx : Addr} {ox o o' : Obj} {news tl : List (Addr × Obj)} {g : Obj → List (Addr × Obj)}
    (N : News h₀ L h news) (U : UpdF dx o news g) (hx : (x, ox) ∈ news) (hk : Kept h [x, dx] h') (N' : News h₀ L h' ((x, ox) :: (dx, o') :: tl)) : News h₀ L h' (g o' ++ tl) := by
  obtain ⟨pre, post, rfl, hg, h1, h2⟩ := U.split
  rw [hg]
  have key : ∀ p ∈ pre ++ (dx, o) :: post, p.1 ≠ dx → News h₀ L h' [p] := by
    intro p hp hne q hq
    obtain rfl := List.mem_singleton.mp hq
    have z := N _ hp
    refine ⟨?_, z.2⟩
    by_cases e : q.1 = x
    · have z2 := (N _ hx).1
      have e2 : q.2 = ox := by rw [e] at z; exact Option.some.inj (z.1.symm.trans z2)
      have := (N' (x, ox) (.head _)).1
      rw [e, e2]; exact this
    · exact hk _ _ z.1 (by simp [e, hne])
  intro p hp
  rcases List.mem_append.mp hp with hp | hp
  · rcases List.mem_append.mp hp with hp | hp
    · exact key p (List.mem_append.mpr (.inl hp)) (h1 p hp) p (.head _)
    · rcases List.mem_cons.mp hp with rfl | hp
      · exact N' _ (.tail _ (.head _))
      · exact key p (List.mem_append.mpr (.inr (.tail _ hp))) (h2 p hp) p (.head _)
  · exact N' p (.tail _ (.tail _ hp))

theorem after1n {h₀ h h' : Heap} {L x dx : Addr} {ox o o' : Obj} {news : List (Addr × Obj)} {g : Obj → List (Addr × Obj)}
    (N : News h₀ L h news) (U : UpdF dx o news g) (hx : (x, ox) ∈ news) (hk : Kept h [x, dx] h') (N' : News h₀ L h' [(x, ox), (dx, o')]) : News h₀ L h' (g o') := by
  have z := after1 (tl := []) N U hx hk N'
  rwa [List.append_nil] at z
theorem UpdF.mem {d : Addr} {o : Obj} {l : List (Addr × Obj)} {g : Obj → List (Addr × Obj)} (U : UpdF d o l g) : (d, o) ∈ l := by
  obtain ⟨pre, post, rfl, _⟩ := U.split
  simp
theorem fc_ {α : Type} {P : α → Prop} {a : α} {l : List α} (h : P a) (t : ∀ p ∈ l, P p) : ∀ p ∈ a :: l, P p := List.forall_mem_cons.mpr ⟨h, t⟩
theorem fn_ {α : Type} {P : α → Prop} : ∀ p ∈ ([] : List α), P p := fun _ h => nomatch h
theorem in2 {a b : Addr × Obj} {l : List (Addr × Obj)} (h1 : a ∈ l) (h2 : b ∈ l) : ∀ p ∈ [a, b], p ∈ l := by
  intro p hp
  simp only [List.mem_cons, List.not_mem_nil, or_false] at hp
  rcases hp with rfl | rfl <;> assumption
theorem inst_ne {h₀ h : Heap} {L x dx C : Addr} {es : List DictEntry} {n : Nat} {news : List (Addr × Obj)} (N : News h₀ L h news) (m1 : (x, instObj C dx) ∈ news) (m2 : (dx, dictOf es n) ∈ news) : x ≠ dx := fun e => by
  have z1 := (N _ m1).1
  have z2 := (N _ m2).1
  rw [e, z2] at z1
  cases z1
/-- the caller's ledger behind a call -/
theorem after {h₀ h h' : Heap} {L : Addr} {news mods news' l : List (Addr × Obj)} (N : News h₀ L h news) (hk : Kept h (mods.map (·.1)) h') (N' : News h₀ L h' l)
    (hn : ∀ p ∈ news', p ∈ l ∨ (p ∈ news ∧ p.1 ∉ mods.map (·.1))) : News h₀ L h' news' := by
  intro p hp
  rcases hn p hp with q | ⟨q, n⟩
  · exact N' p q
  · exact ⟨hk _ _ (N p q).1 n, (N p q).2⟩
/-- nothing turned -/
theorem after0 {h₀ h h' : Heap} {L : Addr} {news mods : List (Addr × Obj)} (N : News h₀ L h news) (hin : ∀ p ∈ mods, p ∈ news) (hk : Kept h (mods.map (·.1)) h') (N' : News h₀ L h' mods) : News h₀ L h' news := by
  refine after N hk N' fun p hp => ?_
  by_cases q : p.1 ∈ mods.map (·.1)
  · obtain ⟨r, hr, e⟩ := List.mem_map.mp q
    have z1 := (N p hp).1
    have z2 := (N r (hin r hr)).1
    rw [← e, z2] at z1
    have : p = r := Prod.ext e.symm (Option.some.inj z1).symm
    exact .inl (this ▸ hr)
  · exact .inr ⟨hp, q⟩

end Mine
end
-- PText
section
open PySem PyProof.Rows
namespace Mine
theorem filterMap_range (l : List Nat) : ∀ (a k : Nat), (List.map (fun i => a + i) (List.range k)).filterMap (fun i => l[i]?) = (l.drop a).take k := by
  intro a k
  induction k generalizing a with
  | zero => simp
  | succ k ih =>
    rw [List.range_succ_eq_map]
    simp only [List.map_cons, List.map_map, List.filterMap_cons, Nat.add_zero]
    have e : (List.map ((fun i => a + i) ∘ Nat.succ) (List.range k)) = List.map (fun i => (a + 1) + i) (List.range k) := by
      apply List.map_congr_left; intro x _; simp; omega
    rw [e, ih (a + 1)]
    by_cases h : a < l.length
    · rw [List.getElem?_eq_getElem h]
      simp only
      rw [List.drop_eq_getElem_cons h, List.take_succ_cons]
    · rw [List.getElem?_eq_none (by omega)]
      simp only
      rw [List.drop_eq_nil_of_le (by omega), List.drop_eq_nil_of_le (by omega)]
      simp
theorem clip {a n : Nat} : max 0 (min (a : Int) (n : Int)) = ((min a n : Nat) : Int) := by
  rcases Nat.le_total a n with h | h
  · rw [Nat.min_eq_left h, Int.min_eq_left (Int.ofNat_le.mpr h), Int.max_eq_right (Int.natCast_nonneg a)]
  · rw [Nat.min_eq_right h, Int.min_eq_right (Int.ofNat_le.mpr h), Int.max_eq_right (Int.natCast_nonneg n)]
theorem span {p q : Nat} : (if (p : Int) < (q : Int) then ((q : Int) - p + 1 - 1) / 1 else 0).toNat = q - p := by
  split <;> omega
theorem step_at {p k : Nat} : ((p : Int) + 1 * (k : Int)).toNat = p + k := by omega
theorem sliceIdx {a b n : Nat} : Builtin.Str.strSliceIndices (some (a : Int)) (some (b : Int)) 1 n = List.map (fun k => min a n + k) (List.range (min b n - min a n)) := by
  unfold Builtin.Str.strSliceIndices
  have e1 : ¬ (a : Int) < 0 := Int.not_lt.mpr (Int.natCast_nonneg a)
  have e2 : ¬ (b : Int) < 0 := Int.not_lt.mpr (Int.natCast_nonneg b)
  simp only [e1, e2, if_false]
  unfold sliceRange
  simp only [show (1 : Int) > 0 by decide, if_true]
  rw [clip, clip, span]
  apply List.map_congr_left
  intro k _
  exact step_at
theorem slice_nat {x : Str} {a b : Nat} (hab : a ≤ b) : (Txt.slice x (some (a : Int)) (some (b : Int))).cps.toList = (x.cps.toList.drop a).take (b - a) := by
  have hlen : x.length = x.cps.toList.length := rfl
  unfold Txt.slice
  rw [sliceIdx]
  have hf : (fun k : Nat => x.cps[k]?) = fun k : Nat => x.cps.toList[k]? := by funext k; simp
  have base : ((List.map (fun k => min a x.length + k) (List.range (min b x.length - min a x.length))).filterMap (fun k : Nat => x.cps[k]?)) = (x.cps.toList.drop a).take (b - a) := by
    rw [hf, filterMap_range]
    rcases Nat.le_total a x.length with h | h
    · rw [Nat.min_eq_left h]
      rcases Nat.le_total b x.length with h2 | h2
      · rw [Nat.min_eq_left h2]
      · rw [Nat.min_eq_right h2, List.take_of_length_le (by rw [List.length_drop, ← hlen]; exact Nat.le_refl _), List.take_of_length_le (by rw [List.length_drop, ← hlen]; exact Nat.sub_le_sub_right h2 a)]
    · rw [Nat.min_eq_right h, List.drop_eq_nil_of_le (by rw [← hlen]; exact Nat.le_refl _), List.drop_eq_nil_of_le (by rw [← hlen]; exact h), List.take_nil, List.take_nil]
  split
  · rename_i h
    simp only [beq_self_eq_true, Bool.true_and, List.length_map, List.length_range, beq_iff_eq] at h
    rw [← base]
    have h1 : min a x.length ≤ 0 ∨ x.length = 0 := by
      rcases Nat.eq_zero_or_pos x.length with e | e
      · exact .inr e
      · refine .inl (Nat.le_of_not_lt fun hp => ?_)
        have := Nat.min_le_right b x.length
        have hlt : min b x.length - min a x.length < x.length := Nat.lt_of_lt_of_le (Nat.sub_lt_self hp (Nat.le_min.mpr ⟨Nat.le_trans (Nat.min_le_left _ _) hab, Nat.min_le_right _ _⟩)) this
        exact absurd h (Nat.ne_of_lt hlt)
    rcases h1 with h1 | hn
    · have h1 := Nat.le_zero.mp h1
      rw [h1, Nat.sub_zero] at h
      rw [h1, h, hf, filterMap_range, List.drop_zero, Nat.sub_zero, hlen, List.take_length]
    · have : x.cps.toList = [] := List.eq_nil_of_length_eq_zero (by rw [← hlen]; exact hn)
      rw [hn, this]; simp
  · exact base
theorem slice_toList {x : Str} {i j : Int} (hi : 0 ≤ i) (hij : i ≤ j) : (Txt.slice x (some i) (some j)).cps.toList = (x.cps.toList.drop i.toNat).take (j - i).toNat := by
  obtain ⟨a, rfl⟩ := Int.eq_ofNat_of_zero_le hi
  obtain ⟨b, rfl⟩ := Int.eq_ofNat_of_zero_le (Int.le_trans hi hij)
  rw [slice_nat (Int.ofNat_le.mp hij), Int.toNat_natCast, Int.toNat_sub]
/-- the signs that our patterns are made of -/
def good (c : Nat) : Bool := c == 40 || c == 41 || c == 97 || c == 98 || c == 99
def Good (x : Str) : Prop := ∀ c ∈ x.cps.toList, good c = true
theorem str_toList_inj {a b : Str} (h : a.cps.toList = b.cps.toList) : a = b := by
  cases a; cases b
  simp only [Str.mk.injEq]
  exact Array.toList_inj.mp h
theorem slice_good_ne {x w : Str} {i j : Int} (hg : Good x) (hi : 0 ≤ i) (hij : i ≤ j) (hw : (w.cps.toList.all good) = false) : ¬ Txt.slice x (some i) (some j) = w := by
  intro e
  have z := slice_toList (x := x) hi hij
  rw [e] at z
  have : w.cps.toList.all good = true := by
    rw [z, List.all_eq_true]
    intro c hc
    exact hg c (List.mem_of_mem_drop (List.mem_of_mem_take hc))
  rw [this] at hw; cases hw
theorem slice_is {x w : Str} {i j : Int} {l : List Nat} (hi : 0 ≤ i) (hij : i ≤ j) (hd : x.cps.toList.drop i.toNat = l) (hw : w.cps.toList = l.take (j - i).toNat) : Txt.slice x (some i) (some j) = w := by
  apply str_toList_inj
  rw [slice_toList hi hij, hd, hw]
theorem slice_isnt {x w : Str} {i j : Int} {l : List Nat} (hi : 0 ≤ i) (hij : i ≤ j) (hd : x.cps.toList.drop i.toNat = l) (hw : ¬ w.cps.toList = l.take (j - i).toNat) : ¬ Txt.slice x (some i) (some j) = w := by
  intro e
  have z := slice_toList (x := x) hi hij
  rw [e, hd] at z
  exact hw z

end Mine
end
-- S1
section
open PySem PySem.W PyProof.Rows PySem.Calls PySem.Spec
namespace Mine
theorem fill0 (w : World) (h : Heap) (X : (pre.heap_1 w.params).In h) : PySem.Challenge.rw_qz0116_01.prog = PySem.Challenge.rw_qz0116_01.prog ∧ (pre.heap_1 w.params).In h := by
  revert X; k_fill; intro X; exact ⟨rfl, X⟩
abbrev ptE (h1 h2 h3 h4 h5 h6 h7 : Int) (k1 k2 k3 k4 k5 k6 k7 : Tok) (v1 v2 v3 v4 v5 v6 v7 : Value) : List DictEntry := 
  [⟨h1, .str (Str.ofString "text") k1, v1⟩, ⟨h2, .str (Str.ofString "total") k2, v2⟩, ⟨h3, .str (Str.ofString "at") k3, v3⟩, ⟨h4, .str (Str.ofString "groups") k4, v4⟩, ⟨h5, .str (Str.ofString "depth") k5, v5⟩, ⟨h6, .str (Str.ofString "names") k6, v6⟩, ⟨h7, .str (Str.ofString "spoken") k7, v7⟩]

section
variable {w : World} {vw : Program} {lo : List Str} {mean : ExcName → Option Value} {mg mb : Str → Option Value} {A₀ A : Around} {base h₀ : Heap} {env : Env} {outer : List Env} {L : Addr} {m : Str → Option Value} {s : Shared} {Q E : Value → Shared → Prop} {news : List (Addr × Obj)}
  {x dx : Addr} {txt : Str} {t1 t3 t4 t5 : Tok} {i gn dn : Int} {h1 h2 h3 h4 h5 h6 h7 : Int} {k1 k2 k3 k4 k5 k6 k7 : Tok} {v2 v4 v5 v6 v7 : Value}

theorem peek_is {lit : Str}
  (B : Below A₀ base outer h₀) (F : Fr h₀ L s.heap m) (X : (pre.heap_1 w.params).In h₀) (N : News h₀ L s.heap news) (T : Top vw lo mean mg mb h₀) (hA : A.frames = some (env :: outer)) (hf : env.frame = some L) (hke : env.scope.kind = .function) (hh : A.handled = none)
  (hdp : A.depth + 1 < recursionLimit)
  (m1 : (x, instObj 273 dx) ∈ news) (m2 : (dx, dictOf (ptE h1 h2 h3 h4 h5 h6 h7 k1 k2 k3 k4 k5 k6 k7 (.str txt t1) v2 (.int i t3) v4 v5 v6 v7) 7) ∈ news)
  (hi : 0 ≤ i) (hlen : txt.length ≤ 100) (hp : Txt.slice txt (some i) (some (i + 1)) = lit)
  (hret : ∀ t h' tk', Fr h₀ L h' m → News h₀ L h' news → Q (.str lit t) { s with heap := h', toks := tk' }) :
  wpAny (model PySem.Challenge.rw_qz0116_01.row.toRowW.1 w) A (call (.ref 263) [.ref x]) Q E s := by
  refine wpAny_call ?_
  have hin := in2 m1 m2
  have N2 := News.sub N hin
  (k_dflt (refine' enterS B F X N2 T ?kA hf hke ?k6 ?k7 ?k8 ?k9 ?kB ?_ ?c2 ?c3 ?c4 ?c5; (case kA => exact hA); (case k6 => k_is); (case k7 => k_is); (case k8 => (first | assumption | exact room_d (by assumption) | exact room_f (by assumption) (by decide) | exact room_a (by assumption) (by decide) | exact room_b (by assumption) (by decide) | exact room_c (by assumption) (by decide) | exact room_e (by assumption) (by decide) | omega | (simp only [depth_deeper] at *; omega))); (case k9 => exact BindsTo.of_eq rfl); (case c5 => decide); (case kB => exact locs rfl); (case c2 => exact rfl); (case c3 => exact rfl); (case c4 => exact rfl)))
  intro g L' hq FG F' N' B' X' T' l1 hK hS hL
  (try k_lt l1)
  (try dsimp only); (try k_fold)
  k_steps
  rename Fr g L' _ _ => Fe
  rename Fr h₀ L _ m => kF
  rename News h₀ L _ [_, _] => kN
  rw [hp]
  exact hret _ _ _ kF (after0 N hin (hK.trans Fe.keep) kN)

theorem skips_core {word : Str} {tw : Tok}
  (B : Below A₀ base outer h₀) (F : Fr h₀ L s.heap m) (X : (pre.heap_1 w.params).In h₀) (N : News h₀ L s.heap news) (T : Top vw lo mean mg mb h₀) (hA : A.frames = some (env :: outer)) (hf : env.frame = some L) (hke : env.scope.kind = .function) (hh : A.handled = none)
  (hdp : A.depth + 1 < recursionLimit)
  (m1 : (x, instObj 273 dx) ∈ news) (m2 : (dx, dictOf (ptE h1 h2 h3 h4 h5 h6 h7 k1 k2 k3 k4 k5 k6 k7 (.str txt t1) v2 (.int i t3) v4 v5 v6 v7) 7) ∈ news)
  (hi : 0 ≤ i) (hi2 : i ≤ 100) (hlen : txt.length ≤ 100) (hw : word.length ≤ 100)
  (hT : Txt.slice txt (some i) (some (i + word.length)) = word → ∀ t h' tk', Fr h₀ L h' m → Kept s.heap [x, dx] h' → News h₀ L h' [(x, instObj 273 dx), (dx, dictOf (ptE h1 h2 h3 h4 h5 h6 h7 k1 k2 k3 k4 k5 k6 k7 (.str txt t1) v2 (.int (i + word.length) t) v4 v5 v6 v7) 7)] → Q (.bool true) { s with heap := h', toks := tk' }) 
  (hF : Txt.slice txt (some i) (some (i + word.length)) ≠ word → ∀ h' tk', Fr h₀ L h' m → Kept s.heap [x, dx] h' → News h₀ L h' [(x, instObj 273 dx), (dx, dictOf (ptE h1 h2 h3 h4 h5 h6 h7 k1 k2 k3 k4 k5 k6 k7 (.str txt t1) v2 (.int i t3) v4 v5 v6 v7) 7)] → Q (.bool false) { s with heap := h', toks := tk' }) :
  wpAny (model PySem.Challenge.rw_qz0116_01.row.toRowW.1 w) A (call (.ref 270) [.ref x, .str word tw]) Q E s := by
  refine wpAny_call ?_
  have hin := in2 m1 m2
  have N2 := News.sub N hin
  have hne := inst_ne N m1 m2
  (k_dflt (refine' enterS B F X N2 T ?kA hf hke ?k6 ?k7 ?k8 ?k9 ?kB ?_ ?c2 ?c3 ?c4 ?c5; (case kA => exact hA); (case k6 => k_is); (case k7 => k_is); (case k8 => (first | assumption | exact room_d (by assumption) | exact room_f (by assumption) (by decide) | exact room_a (by assumption) (by decide) | exact room_b (by assumption) (by decide) | exact room_c (by assumption) (by decide) | exact room_e (by assumption) (by decide) | omega | (simp only [depth_deeper] at *; omega))); (case k9 => exact BindsTo.of_eq rfl); (case c5 => decide); (case kB => exact locs rfl); (case c2 => exact rfl); (case c3 => exact rfl); (case c4 => exact rfl)))
  intro g L' hq FG F' N' B' X' T' l1 hK hS hL
  (try k_lt l1)
  (try dsimp only); (try k_fold)
  k_steps
  · rename Fr g L' _ _ => Fe
    rename Fr h₀ L _ m => kF
    rename News h₀ L _ [_, _] => kN
    rename (_ != _) = true => hq
    exact hF (by simpa using hq) _ _ kF (hK.trans Fe.keep) kN
  · rename Fr g L' _ _ => Fe
    rename Fr h₀ L _ m => kF
    rename News h₀ L _ [_, _] => kN
    rename (_ != _) = false => hq
    exact hT (by simpa using hq) _ _ _ kF (hK.trans Fe.keep) kN

theorem skips_no {word : Str} {tw : Tok}
  (B : Below A₀ base outer h₀) (F : Fr h₀ L s.heap m) (X : (pre.heap_1 w.params).In h₀) (N : News h₀ L s.heap news) (T : Top vw lo mean mg mb h₀) (hA : A.frames = some (env :: outer)) (hf : env.frame = some L) (hke : env.scope.kind = .function) (hh : A.handled = none)
  (hdp : A.depth + 1 < recursionLimit)
  (m1 : (x, instObj 273 dx) ∈ news) (m2 : (dx, dictOf (ptE h1 h2 h3 h4 h5 h6 h7 k1 k2 k3 k4 k5 k6 k7 (.str txt t1) v2 (.int i t3) v4 v5 v6 v7) 7) ∈ news)
  (hi : 0 ≤ i) (hi2 : i ≤ 100) (hlen : txt.length ≤ 100) (hw : word.length ≤ 100)
  (hs : ¬ Txt.slice txt (some i) (some (i + word.length)) = word)
  (hret : ∀ h' tk', Fr h₀ L h' m → News h₀ L h' news → Q (.bool false) { s with heap := h', toks := tk' }) :
  wpAny (model PySem.Challenge.rw_qz0116_01.row.toRowW.1 w) A (call (.ref 270) [.ref x, .str word tw]) Q E s :=
  skips_core B F X N T hA hf hke hh hdp m1 m2 hi hi2 hlen hw (fun e => absurd e hs) fun _ h' tk' F' k N' => hret h' tk' F' (after0 N (in2 m1 m2) k N')

theorem skips_yes {word : Str} {tw : Tok} {gg : Obj → List (Addr × Obj)}
  (B : Below A₀ base outer h₀) (F : Fr h₀ L s.heap m) (X : (pre.heap_1 w.params).In h₀) (N : News h₀ L s.heap news) (T : Top vw lo mean mg mb h₀) (hA : A.frames = some (env :: outer)) (hf : env.frame = some L) (hke : env.scope.kind = .function) (hh : A.handled = none)
  (hdp : A.depth + 1 < recursionLimit)
  (m1 : (x, instObj 273 dx) ∈ news) (U : UpdF dx (dictOf (ptE h1 h2 h3 h4 h5 h6 h7 k1 k2 k3 k4 k5 k6 k7 (.str txt t1) v2 (.int i t3) v4 v5 v6 v7) 7) news gg)
  (hi : 0 ≤ i) (hi2 : i ≤ 100) (hlen : txt.length ≤ 100) (hw : word.length ≤ 100)
  (hs : Txt.slice txt (some i) (some (i + word.length)) = word)
  (hret : ∀ t h' tk', Fr h₀ L h' m → News h₀ L h' (gg (dictOf (ptE h1 h2 h3 h4 h5 h6 h7 k1 k2 k3 k4 k5 k6 k7 (.str txt t1) v2 (.int (i + word.length) t) v4 v5 v6 v7) 7)) → Q (.bool true) { s with heap := h', toks := tk' }) :
  wpAny (model PySem.Challenge.rw_qz0116_01.row.toRowW.1 w) A (call (.ref 270) [.ref x, .str word tw]) Q E s :=
  skips_core B F X N T hA hf hke hh hdp m1 (UpdF.mem U) hi hi2 hlen hw (fun _ t h' tk' F' k N' => hret t h' tk' F' (after1n N U m1 k N')) fun e => absurd hs e
theorem skips_yes1 {word : Str} {tw : Tok} {gg : Obj → List (Addr × Obj)}
  (B : Below A₀ base outer h₀) (F : Fr h₀ L s.heap m) (X : (pre.heap_1 w.params).In h₀) (N : News h₀ L s.heap news) (T : Top vw lo mean mg mb h₀) (hA : A.frames = some (env :: outer)) (hf : env.frame = some L) (hke : env.scope.kind = .function) (hh : A.handled = none)
  (hdp : A.depth + 1 < recursionLimit)
  (m1 : (x, instObj 273 dx) ∈ news) (U : UpdF dx (dictOf (ptE h1 h2 h3 h4 h5 h6 h7 k1 k2 k3 k4 k5 k6 k7 (.str txt t1) v2 (.int i t3) v4 v5 v6 v7) 7) news gg)
  (hi : 0 ≤ i) (hi2 : i ≤ 100) (hlen : txt.length ≤ 100) (hw : word.length = 1)
  (hs : Txt.slice txt (some i) (some (i + 1)) = word)
  (hret : ∀ t h' tk', Fr h₀ L h' m → News h₀ L h' (gg (dictOf (ptE h1 h2 h3 h4 h5 h6 h7 k1 k2 k3 k4 k5 k6 k7 (.str txt t1) v2 (.int (i + 1) t) v4 v5 v6 v7) 7)) → Q (.bool true) { s with heap := h', toks := tk' }) :
  wpAny (model PySem.Challenge.rw_qz0116_01.row.toRowW.1 w) A (call (.ref 270) [.ref x, .str word tw]) Q E s :=
  skips_yes B F X N T hA hf hke hh hdp m1 U hi hi2 hlen (by omega) (by rw [hw]; exact hs) fun t h' tk' F' N' => hret t h' tk' F' (by rw [hw] at N'; exact N')
end

end Mine
end
local macro_rules | `(tactic| walk_at "ite") => `(tactic| (k_closed; k_dflt (first | refine PySem.W.ite_pos (by decide +kernel) ?_ | refine PySem.W.ite_neg (by decide +kernel) ?_)))
-- S2
section
open PySem PySem.W PyProof.Rows PySem.Calls PySem.Spec
namespace Mine
section
variable {w : World} {vw : Program} {lo : List Str} {mean : ExcName → Option Value} {mg mb : Str → Option Value} {A₀ A : Around} {base h₀ : Heap} {env : Env} {outer : List Env} {L : Addr} {m : Str → Option Value} {s : Shared} {Q E : Value → Shared → Prop} {news : List (Addr × Obj)}
  {x dx : Addr} {txt : Str} {t1 t3 t4 t5 : Tok} {i gn dn : Int} {h1 h2 h3 h4 h5 h6 h7 : Int} {k1 k2 k3 k4 k5 k6 k7 : Tok} {v2 v4 v5 v6 v7 : Value}

theorem skip_unseen_spec {tf : Tok}
  (B : Below A₀ base outer h₀) (F : Fr h₀ L s.heap m) (X : (pre.heap_1 w.params).In h₀) (N : News h₀ L s.heap news) (T : Top vw lo mean mg mb h₀) (hA : A.frames = some (env :: outer)) (hf : env.frame = some L) (hke : env.scope.kind = .function) (hh : A.handled = none)
  (hdp : A.depth + 2 < recursionLimit)
  (m1 : (x, instObj 273 dx) ∈ news) (m2 : (dx, dictOf (ptE h1 h2 h3 h4 h5 h6 h7 k1 k2 k3 k4 k5 k6 k7 (.str txt t1) v2 (.int i t3) v4 v5 v6 v7) 7) ∈ news)
  (hi : 0 ≤ i) (hi2 : i ≤ 100) (hlen : txt.length ≤ 100) (hG : Good txt)
  (hret : ∀ h' tk', Fr h₀ L h' m → News h₀ L h' news → Q (.bool false) { s with heap := h', toks := tk' }) :
  wpAny (model PySem.Challenge.rw_qz0116_01.row.toRowW.1 w) A (call (.ref 483) [.ref x, .str (Str.ofString "") tf]) Q E s := by
  refine wpAny_call ?_
  have hin := in2 m1 m2
  have N2 := News.sub N hin
  have hne := inst_ne N m1 m2
  (k_dflt (refine' enterS B F X N2 T ?kA hf hke ?k6 ?k7 ?k8 ?k9 ?kB ?_ ?c2 ?c3 ?c4 ?c5; (case kA => exact hA); (case k6 => k_is); (case k7 => k_is); (case k8 => (first | assumption | exact room_d (by assumption) | exact room_f (by assumption) (by decide) | exact room_a (by assumption) (by decide) | exact room_b (by assumption) (by decide) | exact room_c (by assumption) (by decide) | exact room_e (by assumption) (by decide) | omega | (simp only [depth_deeper] at *; omega))); (case k9 => exact BindsTo.of_eq rfl); (case c5 => decide); (case kB => exact locs rfl); (case c2 => exact rfl); (case c3 => exact rfl); (case c4 => exact rfl)))
  intro g L' hq FG F' N' B' X' T' l1 hK hS hL
  (try k_lt l1)
  (try dsimp only); (try k_fold)
  (repeat' (first | ((with_reducible show wpAny _ _ (call (Value.ref 270) _) _ _ _); k_here; k_dflt (apply skips_yes; (case B => k_asm); (case F => k_asm); (case X => k_asm); (case N => k_asm); (case T => k_asm); (case hA => first | exact Around.frames_deeper (Below.stack (by k_asm)) | assumption); (case hf => first | exact rfl | assumption); (case hke => first | exact rfl | assumption); (case hh => assumption); (case hdp => (first | assumption | exact room_d (by assumption) | exact room_f (by assumption) (by decide) | exact room_a (by assumption) (by decide) | exact room_b (by assumption) (by decide) | exact room_c (by assumption) (by decide) | exact room_e (by assumption) (by decide) | omega | (simp only [depth_deeper] at *; omega))); (case m1 => k_mem); (case U => k_updF); (case hi => (first | assumption | omega)); (case hi2 => (first | assumption | omega)); (case hlen => assumption); (case hw => decide +kernel); (case hs => assumption)); intro t' h' tk' F' N'; (try dsimp only at N'); (try k_sweep)) | ((with_reducible show wpAny _ _ (call (Value.ref 270) _) _ _ _); k_here; k_dflt (apply skips_no; (case B => k_asm); (case F => k_asm); (case X => k_asm); (case N => k_asm); (case T => k_asm); (case hA => first | exact Around.frames_deeper (Below.stack (by k_asm)) | assumption); (case hf => first | exact rfl | assumption); (case hke => first | exact rfl | assumption); (case hh => assumption); (case hdp => (first | assumption | exact room_d (by assumption) | exact room_f (by assumption) (by decide) | exact room_a (by assumption) (by decide) | exact room_b (by assumption) (by decide) | exact room_c (by assumption) (by decide) | exact room_e (by assumption) (by decide) | omega | (simp only [depth_deeper] at *; omega))); (case m1 => k_mem); (case m2 => k_mem); (case hi => (first | assumption | omega)); (case hi2 => (first | assumption | omega)); (case hlen => assumption); (case hw => decide +kernel); (case hs => first | assumption | exact slice_good_ne (by assumption) (by omega) (by omega) (by decide +kernel))); intro h' tk' F' N'; (try dsimp only at N'); (try k_sweep)) | ((with_reducible show wpAny _ _ (call (Value.ref 263) _) _ _ _); k_here; k_dflt (apply peek_is; (case B => k_asm); (case F => k_asm); (case X => k_asm); (case N => k_asm); (case T => k_asm); (case hA => first | exact Around.frames_deeper (Below.stack (by k_asm)) | assumption); (case hf => first | exact rfl | assumption); (case hke => first | exact rfl | assumption); (case hh => assumption); (case hdp => (first | assumption | exact room_d (by assumption) | exact room_f (by assumption) (by decide) | exact room_a (by assumption) (by decide) | exact room_b (by assumption) (by decide) | exact room_c (by assumption) (by decide) | exact room_e (by assumption) (by decide) | omega | (simp only [depth_deeper] at *; omega))); (case m1 => k_mem); (case m2 => k_mem); (case hi => (first | assumption | omega)); (case hlen => assumption); (case hp => assumption)); intro t' h' tk' F' N'; (try k_sweep)) | (k_unfold; (try dsimp only)) | (k_end; wrow_close) | walk1 | (dsimp only; walk1) | (leave1; walk_say "STEP leave1"; try dsimp only) | fail "no step"))
  rename Fr g L' _ _ => Fe
  rename Fr h₀ L _ m => kF
  rename News h₀ L _ [_, _] => kN
  exact hret _ _ kF (after0 N hin (hK.trans Fe.keep) kN)

theorem read_inline_spec {tf : Tok}
  (B : Below A₀ base outer h₀) (F : Fr h₀ L s.heap m) (X : (pre.heap_1 w.params).In h₀) (N : News h₀ L s.heap news) (T : Top vw lo mean mg mb h₀) (hA : A.frames = some (env :: outer)) (hf : env.frame = some L) (hke : env.scope.kind = .function) (hh : A.handled = none)
  (hdp : A.depth + 2 < recursionLimit)
  (m1 : (x, instObj 273 dx) ∈ news) (m2 : (dx, dictOf (ptE h1 h2 h3 h4 h5 h6 h7 k1 k2 k3 k4 k5 k6 k7 (.str txt t1) v2 (.int i t3) v4 v5 v6 v7) 7) ∈ news)
  (hi : 0 ≤ i) (hi2 : i ≤ 100) (hlen : txt.length ≤ 100) (hG : Good txt)
  (hret : ∀ h' tk', Fr h₀ L h' m → News h₀ L h' news → Q .none { s with heap := h', toks := tk' }) :
  wpAny (model PySem.Challenge.rw_qz0116_01.row.toRowW.1 w) A (call (.ref 495) [.ref x, .str (Str.ofString "") tf]) Q E s := by
  refine wpAny_call ?_
  have hin := in2 m1 m2
  have N2 := News.sub N hin
  have hne := inst_ne N m1 m2
  (k_dflt (refine' enterS B F X N2 T ?kA hf hke ?k6 ?k7 ?k8 ?k9 ?kB ?_ ?c2 ?c3 ?c4 ?c5; (case kA => exact hA); (case k6 => k_is); (case k7 => k_is); (case k8 => (first | assumption | exact room_d (by assumption) | exact room_f (by assumption) (by decide) | exact room_a (by assumption) (by decide) | exact room_b (by assumption) (by decide) | exact room_c (by assumption) (by decide) | exact room_e (by assumption) (by decide) | omega | (simp only [depth_deeper] at *; omega))); (case k9 => exact BindsTo.of_eq rfl); (case c5 => decide); (case kB => exact locs rfl); (case c2 => exact rfl); (case c3 => exact rfl); (case c4 => exact rfl)))
  intro g L' hq FG F' N' B' X' T' l1 hK hS hL
  (try k_lt l1)
  (try dsimp only); (try k_fold)
  (repeat' (first | ((with_reducible show wpAny _ _ (call (Value.ref 270) _) _ _ _); k_here; k_dflt (apply skips_yes; (case B => k_asm); (case F => k_asm); (case X => k_asm); (case N => k_asm); (case T => k_asm); (case hA => first | exact Around.frames_deeper (Below.stack (by k_asm)) | assumption); (case hf => first | exact rfl | assumption); (case hke => first | exact rfl | assumption); (case hh => assumption); (case hdp => (first | assumption | exact room_d (by assumption) | exact room_f (by assumption) (by decide) | exact room_a (by assumption) (by decide) | exact room_b (by assumption) (by decide) | exact room_c (by assumption) (by decide) | exact room_e (by assumption) (by decide) | omega | (simp only [depth_deeper] at *; omega))); (case m1 => k_mem); (case U => k_updF); (case hi => (first | assumption | omega)); (case hi2 => (first | assumption | omega)); (case hlen => assumption); (case hw => decide +kernel); (case hs => assumption)); intro t' h' tk' F' N'; (try dsimp only at N'); (try k_sweep)) | ((with_reducible show wpAny _ _ (call (Value.ref 270) _) _ _ _); k_here; k_dflt (apply skips_no; (case B => k_asm); (case F => k_asm); (case X => k_asm); (case N => k_asm); (case T => k_asm); (case hA => first | exact Around.frames_deeper (Below.stack (by k_asm)) | assumption); (case hf => first | exact rfl | assumption); (case hke => first | exact rfl | assumption); (case hh => assumption); (case hdp => (first | assumption | exact room_d (by assumption) | exact room_f (by assumption) (by decide) | exact room_a (by assumption) (by decide) | exact room_b (by assumption) (by decide) | exact room_c (by assumption) (by decide) | exact room_e (by assumption) (by decide) | omega | (simp only [depth_deeper] at *; omega))); (case m1 => k_mem); (case m2 => k_mem); (case hi => (first | assumption | omega)); (case hi2 => (first | assumption | omega)); (case hlen => assumption); (case hw => decide +kernel); (case hs => first | assumption | exact slice_good_ne (by assumption) (by omega) (by omega) (by decide +kernel))); intro h' tk' F' N'; (try dsimp only at N'); (try k_sweep)) | ((with_reducible show wpAny _ _ (call (Value.ref 263) _) _ _ _); k_here; k_dflt (apply peek_is; (case B => k_asm); (case F => k_asm); (case X => k_asm); (case N => k_asm); (case T => k_asm); (case hA => first | exact Around.frames_deeper (Below.stack (by k_asm)) | assumption); (case hf => first | exact rfl | assumption); (case hke => first | exact rfl | assumption); (case hh => assumption); (case hdp => (first | assumption | exact room_d (by assumption) | exact room_f (by assumption) (by decide) | exact room_a (by assumption) (by decide) | exact room_b (by assumption) (by decide) | exact room_c (by assumption) (by decide) | exact room_e (by assumption) (by decide) | omega | (simp only [depth_deeper] at *; omega))); (case m1 => k_mem); (case m2 => k_mem); (case hi => (first | assumption | omega)); (case hlen => assumption); (case hp => assumption)); intro t' h' tk' F' N'; (try k_sweep)) | (k_unfold; (try dsimp only)) | (k_end; wrow_close) | walk1 | (dsimp only; walk1) | (leave1; walk_say "STEP leave1"; try dsimp only) | fail "no step"))
  rename Fr g L' _ _ => Fe
  rename Fr h₀ L _ m => kF
  rename News h₀ L _ [_, _] => kN
  exact hret _ _ kF (after0 N hin (hK.trans Fe.keep) kN)

theorem take_count_o
  (B : Below A₀ base outer h₀) (F : Fr h₀ L s.heap m) (X : (pre.heap_1 w.params).In h₀) (N : News h₀ L s.heap news) (T : Top vw lo mean mg mb h₀) (hA : A.frames = some (env :: outer)) (hf : env.frame = some L) (hke : env.scope.kind = .function) (hh : A.handled = none)
  (hdp : A.depth + 2 < recursionLimit)
  (m1 : (x, instObj 273 dx) ∈ news) (m2 : (dx, dictOf (ptE h1 h2 h3 h4 h5 h6 h7 k1 k2 k3 k4 k5 k6 k7 (.str txt t1) v2 (.int i t3) v4 v5 v6 v7) 7) ∈ news)
  (hi : 0 ≤ i) (hi2 : i ≤ 100) (hlen : txt.length ≤ 100) (hp : Txt.slice txt (some i) (some (i + 1)) = Str.ofString "(")
  (hret : ∀ h' tk', Fr h₀ L h' m → News h₀ L h' news → Q .none { s with heap := h', toks := tk' }) :
  wpAny (model PySem.Challenge.rw_qz0116_01.row.toRowW.1 w) A (call (.ref 434) [.ref x]) Q E s := by
  refine wpAny_call ?_
  have hin := in2 m1 m2
  have N2 := News.sub N hin
  have hne := inst_ne N m1 m2
  (k_dflt (refine' enterS B F X N2 T ?kA hf hke ?k6 ?k7 ?k8 ?k9 ?kB ?_ ?c2 ?c3 ?c4 ?c5; (case kA => exact hA); (case k6 => k_is); (case k7 => k_is); (case k8 => (first | assumption | exact room_d (by assumption) | exact room_f (by assumption) (by decide) | exact room_a (by assumption) (by decide) | exact room_b (by assumption) (by decide) | exact room_c (by assumption) (by decide) | exact room_e (by assumption) (by decide) | omega | (simp only [depth_deeper] at *; omega))); (case k9 => exact BindsTo.of_eq rfl); (case c5 => decide); (case kB => exact locs rfl); (case c2 => exact rfl); (case c3 => exact rfl); (case c4 => exact rfl)))
  intro g L' hq FG F' N' B' X' T' l1 hK hS hL
  (try k_lt l1)
  (try dsimp only); (try k_fold)
  (repeat' (first | ((with_reducible show wpAny _ _ (call (Value.ref 270) _) _ _ _); k_here; k_dflt (apply skips_yes; (case B => k_asm); (case F => k_asm); (case X => k_asm); (case N => k_asm); (case T => k_asm); (case hA => first | exact Around.frames_deeper (Below.stack (by k_asm)) | assumption); (case hf => first | exact rfl | assumption); (case hke => first | exact rfl | assumption); (case hh => assumption); (case hdp => (first | assumption | exact room_d (by assumption) | exact room_f (by assumption) (by decide) | exact room_a (by assumption) (by decide) | exact room_b (by assumption) (by decide) | exact room_c (by assumption) (by decide) | exact room_e (by assumption) (by decide) | omega | (simp only [depth_deeper] at *; omega))); (case m1 => k_mem); (case U => k_updF); (case hi => (first | assumption | omega)); (case hi2 => (first | assumption | omega)); (case hlen => assumption); (case hw => decide +kernel); (case hs => assumption)); intro t' h' tk' F' N'; (try dsimp only at N'); (try k_sweep)) | ((with_reducible show wpAny _ _ (call (Value.ref 270) _) _ _ _); k_here; k_dflt (apply skips_no; (case B => k_asm); (case F => k_asm); (case X => k_asm); (case N => k_asm); (case T => k_asm); (case hA => first | exact Around.frames_deeper (Below.stack (by k_asm)) | assumption); (case hf => first | exact rfl | assumption); (case hke => first | exact rfl | assumption); (case hh => assumption); (case hdp => (first | assumption | exact room_d (by assumption) | exact room_f (by assumption) (by decide) | exact room_a (by assumption) (by decide) | exact room_b (by assumption) (by decide) | exact room_c (by assumption) (by decide) | exact room_e (by assumption) (by decide) | omega | (simp only [depth_deeper] at *; omega))); (case m1 => k_mem); (case m2 => k_mem); (case hi => (first | assumption | omega)); (case hi2 => (first | assumption | omega)); (case hlen => assumption); (case hw => decide +kernel); (case hs => first | assumption | exact slice_good_ne (by assumption) (by omega) (by omega) (by decide +kernel))); intro h' tk' F' N'; (try dsimp only at N'); (try k_sweep)) | ((with_reducible show wpAny _ _ (call (Value.ref 263) _) _ _ _); k_here; k_dflt (apply peek_is; (case B => k_asm); (case F => k_asm); (case X => k_asm); (case N => k_asm); (case T => k_asm); (case hA => first | exact Around.frames_deeper (Below.stack (by k_asm)) | assumption); (case hf => first | exact rfl | assumption); (case hke => first | exact rfl | assumption); (case hh => assumption); (case hdp => (first | assumption | exact room_d (by assumption) | exact room_f (by assumption) (by decide) | exact room_a (by assumption) (by decide) | exact room_b (by assumption) (by decide) | exact room_c (by assumption) (by decide) | exact room_e (by assumption) (by decide) | omega | (simp only [depth_deeper] at *; omega))); (case m1 => k_mem); (case m2 => k_mem); (case hi => (first | assumption | omega)); (case hlen => assumption); (case hp => assumption)); intro t' h' tk' F' N'; (try k_sweep)) | (k_unfold; (try dsimp only)) | (k_end; wrow_close) | walk1 | (dsimp only; walk1) | (leave1; walk_say "STEP leave1"; try dsimp only) | fail "no step"))
  rename Fr g L' _ _ => Fe
  rename Fr h₀ L _ m => kF
  rename News h₀ L _ [_, _] => kN
  exact hret _ _ kF (after0 N hin (hK.trans Fe.keep) kN)
theorem take_count_c
  (B : Below A₀ base outer h₀) (F : Fr h₀ L s.heap m) (X : (pre.heap_1 w.params).In h₀) (N : News h₀ L s.heap news) (T : Top vw lo mean mg mb h₀) (hA : A.frames = some (env :: outer)) (hf : env.frame = some L) (hke : env.scope.kind = .function) (hh : A.handled = none)
  (hdp : A.depth + 2 < recursionLimit)
  (m1 : (x, instObj 273 dx) ∈ news) (m2 : (dx, dictOf (ptE h1 h2 h3 h4 h5 h6 h7 k1 k2 k3 k4 k5 k6 k7 (.str txt t1) v2 (.int i t3) v4 v5 v6 v7) 7) ∈ news)
  (hi : 0 ≤ i) (hi2 : i ≤ 100) (hlen : txt.length ≤ 100) (hp : Txt.slice txt (some i) (some (i + 1)) = Str.ofString ")")
  (hret : ∀ h' tk', Fr h₀ L h' m → News h₀ L h' news → Q .none { s with heap := h', toks := tk' }) :
  wpAny (model PySem.Challenge.rw_qz0116_01.row.toRowW.1 w) A (call (.ref 434) [.ref x]) Q E s := by
  refine wpAny_call ?_
  have hin := in2 m1 m2
  have N2 := News.sub N hin
  have hne := inst_ne N m1 m2
  (k_dflt (refine' enterS B F X N2 T ?kA hf hke ?k6 ?k7 ?k8 ?k9 ?kB ?_ ?c2 ?c3 ?c4 ?c5; (case kA => exact hA); (case k6 => k_is); (case k7 => k_is); (case k8 => (first | assumption | exact room_d (by assumption) | exact room_f (by assumption) (by decide) | exact room_a (by assumption) (by decide) | exact room_b (by assumption) (by decide) | exact room_c (by assumption) (by decide) | exact room_e (by assumption) (by decide) | omega | (simp only [depth_deeper] at *; omega))); (case k9 => exact BindsTo.of_eq rfl); (case c5 => decide); (case kB => exact locs rfl); (case c2 => exact rfl); (case c3 => exact rfl); (case c4 => exact rfl)))
  intro g L' hq FG F' N' B' X' T' l1 hK hS hL
  (try k_lt l1)
  (try dsimp only); (try k_fold)
  (repeat' (first | ((with_reducible show wpAny _ _ (call (Value.ref 270) _) _ _ _); k_here; k_dflt (apply skips_yes; (case B => k_asm); (case F => k_asm); (case X => k_asm); (case N => k_asm); (case T => k_asm); (case hA => first | exact Around.frames_deeper (Below.stack (by k_asm)) | assumption); (case hf => first | exact rfl | assumption); (case hke => first | exact rfl | assumption); (case hh => assumption); (case hdp => (first | assumption | exact room_d (by assumption) | exact room_f (by assumption) (by decide) | exact room_a (by assumption) (by decide) | exact room_b (by assumption) (by decide) | exact room_c (by assumption) (by decide) | exact room_e (by assumption) (by decide) | omega | (simp only [depth_deeper] at *; omega))); (case m1 => k_mem); (case U => k_updF); (case hi => (first | assumption | omega)); (case hi2 => (first | assumption | omega)); (case hlen => assumption); (case hw => decide +kernel); (case hs => assumption)); intro t' h' tk' F' N'; (try dsimp only at N'); (try k_sweep)) | ((with_reducible show wpAny _ _ (call (Value.ref 270) _) _ _ _); k_here; k_dflt (apply skips_no; (case B => k_asm); (case F => k_asm); (case X => k_asm); (case N => k_asm); (case T => k_asm); (case hA => first | exact Around.frames_deeper (Below.stack (by k_asm)) | assumption); (case hf => first | exact rfl | assumption); (case hke => first | exact rfl | assumption); (case hh => assumption); (case hdp => (first | assumption | exact room_d (by assumption) | exact room_f (by assumption) (by decide) | exact room_a (by assumption) (by decide) | exact room_b (by assumption) (by decide) | exact room_c (by assumption) (by decide) | exact room_e (by assumption) (by decide) | omega | (simp only [depth_deeper] at *; omega))); (case m1 => k_mem); (case m2 => k_mem); (case hi => (first | assumption | omega)); (case hi2 => (first | assumption | omega)); (case hlen => assumption); (case hw => decide +kernel); (case hs => first | assumption | exact slice_good_ne (by assumption) (by omega) (by omega) (by decide +kernel))); intro h' tk' F' N'; (try dsimp only at N'); (try k_sweep)) | ((with_reducible show wpAny _ _ (call (Value.ref 263) _) _ _ _); k_here; k_dflt (apply peek_is; (case B => k_asm); (case F => k_asm); (case X => k_asm); (case N => k_asm); (case T => k_asm); (case hA => first | exact Around.frames_deeper (Below.stack (by k_asm)) | assumption); (case hf => first | exact rfl | assumption); (case hke => first | exact rfl | assumption); (case hh => assumption); (case hdp => (first | assumption | exact room_d (by assumption) | exact room_f (by assumption) (by decide) | exact room_a (by assumption) (by decide) | exact room_b (by assumption) (by decide) | exact room_c (by assumption) (by decide) | exact room_e (by assumption) (by decide) | omega | (simp only [depth_deeper] at *; omega))); (case m1 => k_mem); (case m2 => k_mem); (case hi => (first | assumption | omega)); (case hlen => assumption); (case hp => assumption)); intro t' h' tk' F' N'; (try k_sweep)) | (k_unfold; (try dsimp only)) | (k_end; wrow_close) | walk1 | (dsimp only; walk1) | (leave1; walk_say "STEP leave1"; try dsimp only) | fail "no step"))
  rename Fr g L' _ _ => Fe
  rename Fr h₀ L _ m => kF
  rename News h₀ L _ [_, _] => kN
  exact hret _ _ kF (after0 N hin (hK.trans Fe.keep) kN)
theorem take_count_a
  (B : Below A₀ base outer h₀) (F : Fr h₀ L s.heap m) (X : (pre.heap_1 w.params).In h₀) (N : News h₀ L s.heap news) (T : Top vw lo mean mg mb h₀) (hA : A.frames = some (env :: outer)) (hf : env.frame = some L) (hke : env.scope.kind = .function) (hh : A.handled = none)
  (hdp : A.depth + 2 < recursionLimit)
  (m1 : (x, instObj 273 dx) ∈ news) (m2 : (dx, dictOf (ptE h1 h2 h3 h4 h5 h6 h7 k1 k2 k3 k4 k5 k6 k7 (.str txt t1) v2 (.int i t3) v4 v5 v6 v7) 7) ∈ news)
  (hi : 0 ≤ i) (hi2 : i ≤ 100) (hlen : txt.length ≤ 100) (hp : Txt.slice txt (some i) (some (i + 1)) = Str.ofString "a")
  (hret : ∀ h' tk', Fr h₀ L h' m → News h₀ L h' news → Q .none { s with heap := h', toks := tk' }) :
  wpAny (model PySem.Challenge.rw_qz0116_01.row.toRowW.1 w) A (call (.ref 434) [.ref x]) Q E s := by
  refine wpAny_call ?_
  have hin := in2 m1 m2
  have N2 := News.sub N hin
  have hne := inst_ne N m1 m2
  (k_dflt (refine' enterS B F X N2 T ?kA hf hke ?k6 ?k7 ?k8 ?k9 ?kB ?_ ?c2 ?c3 ?c4 ?c5; (case kA => exact hA); (case k6 => k_is); (case k7 => k_is); (case k8 => (first | assumption | exact room_d (by assumption) | exact room_f (by assumption) (by decide) | exact room_a (by assumption) (by decide) | exact room_b (by assumption) (by decide) | exact room_c (by assumption) (by decide) | exact room_e (by assumption) (by decide) | omega | (simp only [depth_deeper] at *; omega))); (case k9 => exact BindsTo.of_eq rfl); (case c5 => decide); (case kB => exact locs rfl); (case c2 => exact rfl); (case c3 => exact rfl); (case c4 => exact rfl)))
  intro g L' hq FG F' N' B' X' T' l1 hK hS hL
  (try k_lt l1)
  (try dsimp only); (try k_fold)
  (repeat' (first | ((with_reducible show wpAny _ _ (call (Value.ref 270) _) _ _ _); k_here; k_dflt (apply skips_yes; (case B => k_asm); (case F => k_asm); (case X => k_asm); (case N => k_asm); (case T => k_asm); (case hA => first | exact Around.frames_deeper (Below.stack (by k_asm)) | assumption); (case hf => first | exact rfl | assumption); (case hke => first | exact rfl | assumption); (case hh => assumption); (case hdp => (first | assumption | exact room_d (by assumption) | exact room_f (by assumption) (by decide) | exact room_a (by assumption) (by decide) | exact room_b (by assumption) (by decide) | exact room_c (by assumption) (by decide) | exact room_e (by assumption) (by decide) | omega | (simp only [depth_deeper] at *; omega))); (case m1 => k_mem); (case U => k_updF); (case hi => (first | assumption | omega)); (case hi2 => (first | assumption | omega)); (case hlen => assumption); (case hw => decide +kernel); (case hs => assumption)); intro t' h' tk' F' N'; (try dsimp only at N'); (try k_sweep)) | ((with_reducible show wpAny _ _ (call (Value.ref 270) _) _ _ _); k_here; k_dflt (apply skips_no; (case B => k_asm); (case F => k_asm); (case X => k_asm); (case N => k_asm); (case T => k_asm); (case hA => first | exact Around.frames_deeper (Below.stack (by k_asm)) | assumption); (case hf => first | exact rfl | assumption); (case hke => first | exact rfl | assumption); (case hh => assumption); (case hdp => (first | assumption | exact room_d (by assumption) | exact room_f (by assumption) (by decide) | exact room_a (by assumption) (by decide) | exact room_b (by assumption) (by decide) | exact room_c (by assumption) (by decide) | exact room_e (by assumption) (by decide) | omega | (simp only [depth_deeper] at *; omega))); (case m1 => k_mem); (case m2 => k_mem); (case hi => (first | assumption | omega)); (case hi2 => (first | assumption | omega)); (case hlen => assumption); (case hw => decide +kernel); (case hs => first | assumption | exact slice_good_ne (by assumption) (by omega) (by omega) (by decide +kernel))); intro h' tk' F' N'; (try dsimp only at N'); (try k_sweep)) | ((with_reducible show wpAny _ _ (call (Value.ref 263) _) _ _ _); k_here; k_dflt (apply peek_is; (case B => k_asm); (case F => k_asm); (case X => k_asm); (case N => k_asm); (case T => k_asm); (case hA => first | exact Around.frames_deeper (Below.stack (by k_asm)) | assumption); (case hf => first | exact rfl | assumption); (case hke => first | exact rfl | assumption); (case hh => assumption); (case hdp => (first | assumption | exact room_d (by assumption) | exact room_f (by assumption) (by decide) | exact room_a (by assumption) (by decide) | exact room_b (by assumption) (by decide) | exact room_c (by assumption) (by decide) | exact room_e (by assumption) (by decide) | omega | (simp only [depth_deeper] at *; omega))); (case m1 => k_mem); (case m2 => k_mem); (case hi => (first | assumption | omega)); (case hlen => assumption); (case hp => assumption)); intro t' h' tk' F' N'; (try k_sweep)) | (k_unfold; (try dsimp only)) | (k_end; wrow_close) | walk1 | (dsimp only; walk1) | (leave1; walk_say "STEP leave1"; try dsimp only) | fail "no step"))
  rename Fr g L' _ _ => Fe
  rename Fr h₀ L _ m => kF
  rename News h₀ L _ [_, _] => kN
  exact hret _ _ kF (after0 N hin (hK.trans Fe.keep) kN)
theorem take_count_b
  (B : Below A₀ base outer h₀) (F : Fr h₀ L s.heap m) (X : (pre.heap_1 w.params).In h₀) (N : News h₀ L s.heap news) (T : Top vw lo mean mg mb h₀) (hA : A.frames = some (env :: outer)) (hf : env.frame = some L) (hke : env.scope.kind = .function) (hh : A.handled = none)
  (hdp : A.depth + 2 < recursionLimit)
  (m1 : (x, instObj 273 dx) ∈ news) (m2 : (dx, dictOf (ptE h1 h2 h3 h4 h5 h6 h7 k1 k2 k3 k4 k5 k6 k7 (.str txt t1) v2 (.int i t3) v4 v5 v6 v7) 7) ∈ news)
  (hi : 0 ≤ i) (hi2 : i ≤ 100) (hlen : txt.length ≤ 100) (hp : Txt.slice txt (some i) (some (i + 1)) = Str.ofString "b")
  (hret : ∀ h' tk', Fr h₀ L h' m → News h₀ L h' news → Q .none { s with heap := h', toks := tk' }) :
  wpAny (model PySem.Challenge.rw_qz0116_01.row.toRowW.1 w) A (call (.ref 434) [.ref x]) Q E s := by
  refine wpAny_call ?_
  have hin := in2 m1 m2
  have N2 := News.sub N hin
  have hne := inst_ne N m1 m2
  (k_dflt (refine' enterS B F X N2 T ?kA hf hke ?k6 ?k7 ?k8 ?k9 ?kB ?_ ?c2 ?c3 ?c4 ?c5; (case kA => exact hA); (case k6 => k_is); (case k7 => k_is); (case k8 => (first | assumption | exact room_d (by assumption) | exact room_f (by assumption) (by decide) | exact room_a (by assumption) (by decide) | exact room_b (by assumption) (by decide) | exact room_c (by assumption) (by decide) | exact room_e (by assumption) (by decide) | omega | (simp only [depth_deeper] at *; omega))); (case k9 => exact BindsTo.of_eq rfl); (case c5 => decide); (case kB => exact locs rfl); (case c2 => exact rfl); (case c3 => exact rfl); (case c4 => exact rfl)))
  intro g L' hq FG F' N' B' X' T' l1 hK hS hL
  (try k_lt l1)
  (try dsimp only); (try k_fold)
  (repeat' (first | ((with_reducible show wpAny _ _ (call (Value.ref 270) _) _ _ _); k_here; k_dflt (apply skips_yes; (case B => k_asm); (case F => k_asm); (case X => k_asm); (case N => k_asm); (case T => k_asm); (case hA => first | exact Around.frames_deeper (Below.stack (by k_asm)) | assumption); (case hf => first | exact rfl | assumption); (case hke => first | exact rfl | assumption); (case hh => assumption); (case hdp => (first | assumption | exact room_d (by assumption) | exact room_f (by assumption) (by decide) | exact room_a (by assumption) (by decide) | exact room_b (by assumption) (by decide) | exact room_c (by assumption) (by decide) | exact room_e (by assumption) (by decide) | omega | (simp only [depth_deeper] at *; omega))); (case m1 => k_mem); (case U => k_updF); (case hi => (first | assumption | omega)); (case hi2 => (first | assumption | omega)); (case hlen => assumption); (case hw => decide +kernel); (case hs => assumption)); intro t' h' tk' F' N'; (try dsimp only at N'); (try k_sweep)) | ((with_reducible show wpAny _ _ (call (Value.ref 270) _) _ _ _); k_here; k_dflt (apply skips_no; (case B => k_asm); (case F => k_asm); (case X => k_asm); (case N => k_asm); (case T => k_asm); (case hA => first | exact Around.frames_deeper (Below.stack (by k_asm)) | assumption); (case hf => first | exact rfl | assumption); (case hke => first | exact rfl | assumption); (case hh => assumption); (case hdp => (first | assumption | exact room_d (by assumption) | exact room_f (by assumption) (by decide) | exact room_a (by assumption) (by decide) | exact room_b (by assumption) (by decide) | exact room_c (by assumption) (by decide) | exact room_e (by assumption) (by decide) | omega | (simp only [depth_deeper] at *; omega))); (case m1 => k_mem); (case m2 => k_mem); (case hi => (first | assumption | omega)); (case hi2 => (first | assumption | omega)); (case hlen => assumption); (case hw => decide +kernel); (case hs => first | assumption | exact slice_good_ne (by assumption) (by omega) (by omega) (by decide +kernel))); intro h' tk' F' N'; (try dsimp only at N'); (try k_sweep)) | ((with_reducible show wpAny _ _ (call (Value.ref 263) _) _ _ _); k_here; k_dflt (apply peek_is; (case B => k_asm); (case F => k_asm); (case X => k_asm); (case N => k_asm); (case T => k_asm); (case hA => first | exact Around.frames_deeper (Below.stack (by k_asm)) | assumption); (case hf => first | exact rfl | assumption); (case hke => first | exact rfl | assumption); (case hh => assumption); (case hdp => (first | assumption | exact room_d (by assumption) | exact room_f (by assumption) (by decide) | exact room_a (by assumption) (by decide) | exact room_b (by assumption) (by decide) | exact room_c (by assumption) (by decide) | exact room_e (by assumption) (by decide) | omega | (simp only [depth_deeper] at *; omega))); (case m1 => k_mem); (case m2 => k_mem); (case hi => (first | assumption | omega)); (case hlen => assumption); (case hp => assumption)); intro t' h' tk' F' N'; (try k_sweep)) | (k_unfold; (try dsimp only)) | (k_end; wrow_close) | walk1 | (dsimp only; walk1) | (leave1; walk_say "STEP leave1"; try dsimp only) | fail "no step"))
  rename Fr g L' _ _ => Fe
  rename Fr h₀ L _ m => kF
  rename News h₀ L _ [_, _] => kN
  exact hret _ _ kF (after0 N hin (hK.trans Fe.keep) kN)
theorem take_count_d
  (B : Below A₀ base outer h₀) (F : Fr h₀ L s.heap m) (X : (pre.heap_1 w.params).In h₀) (N : News h₀ L s.heap news) (T : Top vw lo mean mg mb h₀) (hA : A.frames = some (env :: outer)) (hf : env.frame = some L) (hke : env.scope.kind = .function) (hh : A.handled = none)
  (hdp : A.depth + 2 < recursionLimit)
  (m1 : (x, instObj 273 dx) ∈ news) (m2 : (dx, dictOf (ptE h1 h2 h3 h4 h5 h6 h7 k1 k2 k3 k4 k5 k6 k7 (.str txt t1) v2 (.int i t3) v4 v5 v6 v7) 7) ∈ news)
  (hi : 0 ≤ i) (hi2 : i ≤ 100) (hlen : txt.length ≤ 100) (hp : Txt.slice txt (some i) (some (i + 1)) = Str.ofString "c")
  (hret : ∀ h' tk', Fr h₀ L h' m → News h₀ L h' news → Q .none { s with heap := h', toks := tk' }) :
  wpAny (model PySem.Challenge.rw_qz0116_01.row.toRowW.1 w) A (call (.ref 434) [.ref x]) Q E s := by
  refine wpAny_call ?_
  have hin := in2 m1 m2
  have N2 := News.sub N hin
  have hne := inst_ne N m1 m2
  (k_dflt (refine' enterS B F X N2 T ?kA hf hke ?k6 ?k7 ?k8 ?k9 ?kB ?_ ?c2 ?c3 ?c4 ?c5; (case kA => exact hA); (case k6 => k_is); (case k7 => k_is); (case k8 => (first | assumption | exact room_d (by assumption) | exact room_f (by assumption) (by decide) | exact room_a (by assumption) (by decide) | exact room_b (by assumption) (by decide) | exact room_c (by assumption) (by decide) | exact room_e (by assumption) (by decide) | omega | (simp only [depth_deeper] at *; omega))); (case k9 => exact BindsTo.of_eq rfl); (case c5 => decide); (case kB => exact locs rfl); (case c2 => exact rfl); (case c3 => exact rfl); (case c4 => exact rfl)))
  intro g L' hq FG F' N' B' X' T' l1 hK hS hL
  (try k_lt l1)
  (try dsimp only); (try k_fold)
  (repeat' (first | ((with_reducible show wpAny _ _ (call (Value.ref 270) _) _ _ _); k_here; k_dflt (apply skips_yes; (case B => k_asm); (case F => k_asm); (case X => k_asm); (case N => k_asm); (case T => k_asm); (case hA => first | exact Around.frames_deeper (Below.stack (by k_asm)) | assumption); (case hf => first | exact rfl | assumption); (case hke => first | exact rfl | assumption); (case hh => assumption); (case hdp => (first | assumption | exact room_d (by assumption) | exact room_f (by assumption) (by decide) | exact room_a (by assumption) (by decide) | exact room_b (by assumption) (by decide) | exact room_c (by assumption) (by decide) | exact room_e (by assumption) (by decide) | omega | (simp only [depth_deeper] at *; omega))); (case m1 => k_mem); (case U => k_updF); (case hi => (first | assumption | omega)); (case hi2 => (first | assumption | omega)); (case hlen => assumption); (case hw => decide +kernel); (case hs => assumption)); intro t' h' tk' F' N'; (try dsimp only at N'); (try k_sweep)) | ((with_reducible show wpAny _ _ (call (Value.ref 270) _) _ _ _); k_here; k_dflt (apply skips_no; (case B => k_asm); (case F => k_asm); (case X => k_asm); (case N => k_asm); (case T => k_asm); (case hA => first | exact Around.frames_deeper (Below.stack (by k_asm)) | assumption); (case hf => first | exact rfl | assumption); (case hke => first | exact rfl | assumption); (case hh => assumption); (case hdp => (first | assumption | exact room_d (by assumption) | exact room_f (by assumption) (by decide) | exact room_a (by assumption) (by decide) | exact room_b (by assumption) (by decide) | exact room_c (by assumption) (by decide) | exact room_e (by assumption) (by decide) | omega | (simp only [depth_deeper] at *; omega))); (case m1 => k_mem); (case m2 => k_mem); (case hi => (first | assumption | omega)); (case hi2 => (first | assumption | omega)); (case hlen => assumption); (case hw => decide +kernel); (case hs => first | assumption | exact slice_good_ne (by assumption) (by omega) (by omega) (by decide +kernel))); intro h' tk' F' N'; (try dsimp only at N'); (try k_sweep)) | ((with_reducible show wpAny _ _ (call (Value.ref 263) _) _ _ _); k_here; k_dflt (apply peek_is; (case B => k_asm); (case F => k_asm); (case X => k_asm); (case N => k_asm); (case T => k_asm); (case hA => first | exact Around.frames_deeper (Below.stack (by k_asm)) | assumption); (case hf => first | exact rfl | assumption); (case hke => first | exact rfl | assumption); (case hh => assumption); (case hdp => (first | assumption | exact room_d (by assumption) | exact room_f (by assumption) (by decide) | exact room_a (by assumption) (by decide) | exact room_b (by assumption) (by decide) | exact room_c (by assumption) (by decide) | exact room_e (by assumption) (by decide) | omega | (simp only [depth_deeper] at *; omega))); (case m1 => k_mem); (case m2 => k_mem); (case hi => (first | assumption | omega)); (case hlen => assumption); (case hp => assumption)); intro t' h' tk' F' N'; (try k_sweep)) | (k_unfold; (try dsimp only)) | (k_end; wrow_close) | walk1 | (dsimp only; walk1) | (leave1; walk_say "STEP leave1"; try dsimp only) | fail "no step"))
  rename Fr g L' _ _ => Fe
  rename Fr h₀ L _ m => kF
  rename News h₀ L _ [_, _] => kN
  exact hret _ _ kF (after0 N hin (hK.trans Fe.keep) kN)
theorem take_count_e
  (B : Below A₀ base outer h₀) (F : Fr h₀ L s.heap m) (X : (pre.heap_1 w.params).In h₀) (N : News h₀ L s.heap news) (T : Top vw lo mean mg mb h₀) (hA : A.frames = some (env :: outer)) (hf : env.frame = some L) (hke : env.scope.kind = .function) (hh : A.handled = none)
  (hdp : A.depth + 2 < recursionLimit)
  (m1 : (x, instObj 273 dx) ∈ news) (m2 : (dx, dictOf (ptE h1 h2 h3 h4 h5 h6 h7 k1 k2 k3 k4 k5 k6 k7 (.str txt t1) v2 (.int i t3) v4 v5 v6 v7) 7) ∈ news)
  (hi : 0 ≤ i) (hi2 : i ≤ 100) (hlen : txt.length ≤ 100) (hp : Txt.slice txt (some i) (some (i + 1)) = Str.ofString "")
  (hret : ∀ h' tk', Fr h₀ L h' m → News h₀ L h' news → Q .none { s with heap := h', toks := tk' }) :
  wpAny (model PySem.Challenge.rw_qz0116_01.row.toRowW.1 w) A (call (.ref 434) [.ref x]) Q E s := by
  refine wpAny_call ?_
  have hin := in2 m1 m2
  have N2 := News.sub N hin
  have hne := inst_ne N m1 m2
  (k_dflt (refine' enterS B F X N2 T ?kA hf hke ?k6 ?k7 ?k8 ?k9 ?kB ?_ ?c2 ?c3 ?c4 ?c5; (case kA => exact hA); (case k6 => k_is); (case k7 => k_is); (case k8 => (first | assumption | exact room_d (by assumption) | exact room_f (by assumption) (by decide) | exact room_a (by assumption) (by decide) | exact room_b (by assumption) (by decide) | exact room_c (by assumption) (by decide) | exact room_e (by assumption) (by decide) | omega | (simp only [depth_deeper] at *; omega))); (case k9 => exact BindsTo.of_eq rfl); (case c5 => decide); (case kB => exact locs rfl); (case c2 => exact rfl); (case c3 => exact rfl); (case c4 => exact rfl)))
  intro g L' hq FG F' N' B' X' T' l1 hK hS hL
  (try k_lt l1)
  (try dsimp only); (try k_fold)
  (repeat' (first | ((with_reducible show wpAny _ _ (call (Value.ref 270) _) _ _ _); k_here; k_dflt (apply skips_yes; (case B => k_asm); (case F => k_asm); (case X => k_asm); (case N => k_asm); (case T => k_asm); (case hA => first | exact Around.frames_deeper (Below.stack (by k_asm)) | assumption); (case hf => first | exact rfl | assumption); (case hke => first | exact rfl | assumption); (case hh => assumption); (case hdp => (first | assumption | exact room_d (by assumption) | exact room_f (by assumption) (by decide) | exact room_a (by assumption) (by decide) | exact room_b (by assumption) (by decide) | exact room_c (by assumption) (by decide) | exact room_e (by assumption) (by decide) | omega | (simp only [depth_deeper] at *; omega))); (case m1 => k_mem); (case U => k_updF); (case hi => (first | assumption | omega)); (case hi2 => (first | assumption | omega)); (case hlen => assumption); (case hw => decide +kernel); (case hs => assumption)); intro t' h' tk' F' N'; (try dsimp only at N'); (try k_sweep)) | ((with_reducible show wpAny _ _ (call (Value.ref 270) _) _ _ _); k_here; k_dflt (apply skips_no; (case B => k_asm); (case F => k_asm); (case X => k_asm); (case N => k_asm); (case T => k_asm); (case hA => first | exact Around.frames_deeper (Below.stack (by k_asm)) | assumption); (case hf => first | exact rfl | assumption); (case hke => first | exact rfl | assumption); (case hh => assumption); (case hdp => (first | assumption | exact room_d (by assumption) | exact room_f (by assumption) (by decide) | exact room_a (by assumption) (by decide) | exact room_b (by assumption) (by decide) | exact room_c (by assumption) (by decide) | exact room_e (by assumption) (by decide) | omega | (simp only [depth_deeper] at *; omega))); (case m1 => k_mem); (case m2 => k_mem); (case hi => (first | assumption | omega)); (case hi2 => (first | assumption | omega)); (case hlen => assumption); (case hw => decide +kernel); (case hs => first | assumption | exact slice_good_ne (by assumption) (by omega) (by omega) (by decide +kernel))); intro h' tk' F' N'; (try dsimp only at N'); (try k_sweep)) | ((with_reducible show wpAny _ _ (call (Value.ref 263) _) _ _ _); k_here; k_dflt (apply peek_is; (case B => k_asm); (case F => k_asm); (case X => k_asm); (case N => k_asm); (case T => k_asm); (case hA => first | exact Around.frames_deeper (Below.stack (by k_asm)) | assumption); (case hf => first | exact rfl | assumption); (case hke => first | exact rfl | assumption); (case hh => assumption); (case hdp => (first | assumption | exact room_d (by assumption) | exact room_f (by assumption) (by decide) | exact room_a (by assumption) (by decide) | exact room_b (by assumption) (by decide) | exact room_c (by assumption) (by decide) | exact room_e (by assumption) (by decide) | omega | (simp only [depth_deeper] at *; omega))); (case m1 => k_mem); (case m2 => k_mem); (case hi => (first | assumption | omega)); (case hlen => assumption); (case hp => assumption)); intro t' h' tk' F' N'; (try k_sweep)) | (k_unfold; (try dsimp only)) | (k_end; wrow_close) | walk1 | (dsimp only; walk1) | (leave1; walk_say "STEP leave1"; try dsimp only) | fail "no step"))
  rename Fr g L' _ _ => Fe
  rename Fr h₀ L _ m => kF
  rename News h₀ L _ [_, _] => kN
  exact hret _ _ kF (after0 N hin (hK.trans Fe.keep) kN)

end

end Mine
end
-- PPat
section
open PySem PySem.W PyProof.Rows PySem.Calls PySem.Spec
namespace Mine
/-- patterns: signs and groups, one behind the other -/
inductive P where
  | nil
  | sign (c : Nat) (r : P)
  | group (q r : P)
namespace P
noncomputable def print : P → List Nat
  | .nil => []
  | .sign c r => c :: r.print
  | .group q r => 40 :: (q.print ++ 41 :: r.print)
noncomputable def ng : P → Nat
  | .nil => 0
  | .sign _ r => r.ng
  | .group q r => q.ng + 1 + r.ng
noncomputable def ht : P → Nat
  | .nil => 0
  | .sign _ r => r.ht
  | .group q r => max (q.ht + 1) r.ht
noncomputable def size : P → Nat
  | .nil => 0
  | .sign _ r => r.size + 1
  | .group q r => q.size + r.size + 1
noncomputable def wd : P → Nat
  | .nil => 0
  | .sign _ r => r.wd + 1
  | .group q r => max q.wd (r.wd + 1)
/-- the signs are letters -/
noncomputable def ok : P → Prop
  | .nil => True
  | .sign c r => (c = 97 ∨ c = 98 ∨ c = 99) ∧ r.ok
  | .group q r => q.ok ∧ r.ok
noncomputable def app : P → P → P
  | .nil, y => y
  | .sign c r, y => .sign c (r.app y)
  | .group q r, y => .group q (r.app y)
theorem app_nil : ∀ x : P, x.app .nil = x
  | .nil => rfl
  | .sign c r => congrArg _ (app_nil r)
  | .group q r => congrArg _ (app_nil r)
theorem app_assoc : ∀ x y z : P, (x.app y).app z = x.app (y.app z)
  | .nil, _, _ => rfl
  | .sign c r, y, z => congrArg _ (app_assoc r y z)
  | .group q r, y, z => congrArg _ (app_assoc r y z)
theorem ng_app : ∀ x y : P, (x.app y).ng = x.ng + y.ng
  | .nil, _ => (Nat.zero_add _).symm
  | .sign c r, y => ng_app r y
  | .group q r, y => by show q.ng + 1 + (r.app y).ng = q.ng + 1 + r.ng + y.ng; rw [ng_app r y]; omega
end P

abbrev tupO (vs : List Value) : Obj := { cls := .type "tuple", data := .seq vs.toArray }

inductive NodesIn (news : List (Addr × Obj)) : List Value → P → Prop
  | nil : NodesIn news [] .nil
  | sign {a : Addr} {t : Tok} {y z : Value} {c : Nat} {vs : List Value} {r : P} : (a, tupO [.str (Str.ofString "sign") t, y, z]) ∈ news → NodesIn news vs r → NodesIn news (.ref a :: vs) (.sign c r)
  | group {a b l : Addr} {t t2 tn : Tok} {n : Int} {k : Nat} {vs ws : List Value} {q r : P} : (a, tupO [.str (Str.ofString "group") t, .int n tn, .ref b]) ∈ news → (b, tupO [.str (Str.ofString "seq") t2, .ref l]) ∈ news →
      (l, listOf ws.toArray k) ∈ news → NodesIn news ws q → NodesIn news vs r → NodesIn news (.ref a :: vs) (.group q r)
def SeqIn (news : List (Addr × Obj)) (v : Value) (p : P) : Prop :=
  ∃ b t l k ws, v = .ref b ∧ (b, tupO [.str (Str.ofString "seq") t, .ref l]) ∈ news ∧ (l, listOf ws.toArray k) ∈ news ∧ NodesIn news ws p
def GroupIn (news : List (Addr × Obj)) (v : Value) (p : P) : Prop :=
  ∃ a t tn n v', v = .ref a ∧ (a, tupO [.str (Str.ofString "group") t, .int n tn, v']) ∈ news ∧ SeqIn news v' p

theorem NodesIn.mono {l l' : List (Addr × Obj)} (hs : ∀ p ∈ l, p ∈ l') {vs : List Value} {p : P} (h : NodesIn l vs p) : NodesIn l' vs p := by
  induction h with
  | nil => exact .nil
  | sign hm _ ih => exact .sign (hs _ hm) ih
  | group h1 h2 h3 _ _ ih1 ih2 => exact .group (hs _ h1) (hs _ h2) (hs _ h3) ih1 ih2
theorem SeqIn.mono {l l' : List (Addr × Obj)} (hs : ∀ p ∈ l, p ∈ l') {v : Value} {p : P} (h : SeqIn l v p) : SeqIn l' v p := by
  obtain ⟨b, t, l0, k, ws, e, h1, h2, h3⟩ := h
  exact ⟨b, t, l0, k, ws, e, hs _ h1, hs _ h2, h3.mono hs⟩
theorem GroupIn.mono {l l' : List (Addr × Obj)} (hs : ∀ p ∈ l, p ∈ l') {v : Value} {p : P} (h : GroupIn l v p) : GroupIn l' v p := by
  obtain ⟨a, t, tn, n, v', e, h1, h2⟩ := h
  exact ⟨a, t, tn, n, v', e, hs _ h1, h2.mono hs⟩
theorem NodesIn.app {l : List (Addr × Obj)} {x y : P} {vs ws : List Value} (h0 : NodesIn l vs x) (h : NodesIn l ws y) : NodesIn l (vs ++ ws) (x.app y) := by
  induction h0 with
  | nil => exact h
  | sign hm _ ih => exact .sign hm ih
  | group h1 h2 h3 h4 _ _ ih => exact .group h1 h2 h3 h4 ih
theorem NodesIn.one {l : List (Addr × Obj)} {v : Value} {q : P} (h : GroupIn l v q) : NodesIn l [v] (.group q .nil) := by
  obtain ⟨a, t, tn, n, v', rfl, h1, b, t2, l0, k, ws, rfl, h2, h3, h4⟩ := h
  exact .group h1 h2 h3 h4 .nil
theorem NodesIn.seq {l : List (Addr × Obj)} {b l0 : Addr} {t : Tok} {k : Nat} {ws : List Value} {p : P} (h1 : (b, tupO [.str (Str.ofString "seq") t, .ref l0]) ∈ l) (h2 : (l0, listOf ws.toArray k) ∈ l) (h : NodesIn l ws p) : SeqIn l (.ref b) p := ⟨b, t, l0, k, ws, rfl, h1, h2, h⟩

/-- the new objects are none of the ledger's -/
def Off (tl news : List (Addr × Obj)) : Prop := ∀ p ∈ tl, ∀ q ∈ news, p.1 ≠ q.1
theorem off_ne {tl news : List (Addr × Obj)} {d : Addr} {o : Obj} (h : Off tl news) (hm : (d, o) ∈ news) : ∀ p ∈ tl, p.1 ≠ d := fun p hp => h p hp _ hm
theorem off_tail {p : Addr × Obj} {tl news : List (Addr × Obj)} (h : Off (p :: tl) news) : Off tl news := fun q hq => h q (.tail _ hq)
theorem off_of_fresh {h₀ h : Heap} {L : Addr} {tl news : List (Addr × Obj)} (N : News h₀ L h news) (hf : Fresh h tl) : Off tl news := fun p hp q hq e => by
  have := hf p hp
  rw [e, (N q hq).1] at this; cases this

theorem drop_len {l r rest : List Nat} {i n : Nat} (h : l.drop i = r ++ rest) (hl : l.length ≤ n) (hi : i ≤ n) : i + r.length ≤ n := by
  have := congrArg List.length h
  rw [List.length_drop, List.length_append] at this
  omega
theorem drop_app {l r rest : List Nat} {i : Int} (hi : 0 ≤ i) (h : l.drop i.toNat = r ++ rest) {k : Int} (hk : k = r.length) : l.drop (i + k).toNat = rest := by
  subst hk
  have : (i + (r.length : Int)).toNat = i.toNat + r.length := by omega
  rw [this, ← List.drop_drop, h, List.drop_left]

theorem back {h₀ h g h' : Heap} {L L' x dx : Addr} {ox o o' : Obj} {m' : Str → Option Value} {news l tl : List (Addr × Obj)} {gg : Obj → List (Addr × Obj)}
    (N : News h₀ L h news) (U : UpdF dx o news gg) (m1 : (x, ox) ∈ news) (hK : Kept h [x, dx] g) (Fe : Fr g L' h' m') (Ne : News g L' h' l) (kN : News h₀ L h' l)
    (hs : ∀ p ∈ (x, ox) :: (dx, o') :: tl, p ∈ l) (hx : ∀ p ∈ tl, p.1 ≠ x) (hd : ∀ p ∈ tl, p.1 ≠ dx) : News h₀ L h' (gg o' ++ tl) ∧ Off tl news := by
  refine ⟨after1 N U m1 (hK.trans Fe.keep) (News.sub kN hs), off_of_fresh N fun p hp => ?_⟩
  cases q : h.get? p.1 with
  | none => rfl
  | some ob =>
    have z := hK _ _ q (by simp [hx p hp, hd p hp])
    have := (Ne p (hs p (.tail _ (.tail _ hp)))).2.2
    rw [z] at this; cases this
/-- where our walk is to stop -/
def Hold (P : Prop) : Prop := P
theorem hold {P : Prop} (h : Hold P) : P := h
/-- what stands next is one of our signs, or the end -/
def NextOk (txt : Str) (i : Int) : Prop := Txt.slice txt (some i) (some (i + 1)) = Str.ofString "(" ∨ Txt.slice txt (some i) (some (i + 1)) = Str.ofString ")" ∨ Txt.slice txt (some i) (some (i + 1)) = Str.ofString "a" ∨
  Txt.slice txt (some i) (some (i + 1)) = Str.ofString "b" ∨ Txt.slice txt (some i) (some (i + 1)) = Str.ofString "c" ∨ Txt.slice txt (some i) (some (i + 1)) = Str.ofString ""
theorem next_is {txt w : Str} {i : Int} {l : List Nat} (hi : 0 ≤ i) (hd : txt.cps.toList.drop i.toNat = l) (hw : w.cps.toList = l.take 1) : Txt.slice txt (some i) (some (i + 1)) = w :=
  slice_is hi (by omega) hd (by rw [show (i + 1 - i).toNat = 1 by omega]; exact hw)
theorem next_ok {txt : Str} {i : Int} {p : P} {rest : List Nat} (hi : 0 ≤ i) (hd : txt.cps.toList.drop i.toNat = p.print ++ rest) (hr : rest = [] ∨ ∃ r, rest = 41 :: r) (hok : p.ok) : NextOk txt i := by
  cases p with
  | nil =>
    rcases hr with rfl | ⟨r, rfl⟩
    · exact .inr (.inr (.inr (.inr (.inr (next_is hi hd rfl)))))
    · exact .inr (.inl (next_is hi hd rfl))
  | sign c r =>
    rcases hok.1 with rfl | rfl | rfl
    · exact .inr (.inr (.inl (next_is hi hd rfl)))
    · exact .inr (.inr (.inr (.inl (next_is hi hd rfl))))
    · exact .inr (.inr (.inr (.inr (.inl (next_is hi hd rfl)))))
  | group q r => exact .inl (next_is hi hd rfl)
theorem bne_of_not {a b : Str} (h : ¬ a = b) : (a != b) = true := by simpa using h
theorem beq_of_not {a b : Str} (h : ¬ a = b) : ¬ (a == b) = true := by simpa using h
theorem slice0 (x : Str) (j : Int) : Txt.slice x none (some j) = Txt.slice x (some 0) (some j) := by
  unfold Txt.slice Builtin.Str.strSliceIndices
  have e : max 0 (min (if (0 : Int) < 0 then 0 + (x.length : Int) else 0) (x.length : Int)) = 0 := by rw [if_neg (by decide)]; omega
  simp only [show (1 : Int) > 0 by decide, if_true, e]
theorem good_slice {x : Str} {i j : Int} (hg : Good x) (hi : 0 ≤ i) (hij : i ≤ j) : Good (Txt.slice x (some i) (some j)) := by
  intro c hc
  rw [slice_toList hi hij] at hc
  exact hg c (List.mem_of_mem_drop (List.mem_of_mem_take hc))
theorem item_is {x : Str} {i : Int} {c : Nat} {r : List Nat} (hi : 0 ≤ i) (hd : x.cps.toList.drop i.toNat = c :: r) : x.cps[i.toNat]? = some c := by
  have : x.cps.toList[i.toNat]? = some c := by
    have := congrArg (fun l => l[0]?) hd
    simpa [List.getElem?_drop] using this
  simpa using this
theorem nat_ind {prog : Program} {w : World} {A : Around} {E : Value → Shared → Prop} {env : Env} {test : PySem.Expr} {body orelse : List Stmt} {Q : Flow → Shared → Prop} (Inv : Nat → Shared → Prop)
    (step : ∀ n s, Inv n s → (∀ n' s', n' < n → Inv n' s' → WhlRest prog w A E env test body orelse Q 0 s') → WhlRest prog w A E env test body orelse Q 1 s) : ∀ n s, Inv n s → WhlRest prog w A E env test body orelse Q 1 s := by
  have all : ∀ k, ∀ n s, n < k → Inv n s → WhlRest prog w A E env test body orelse Q 0 s := by
    intro k
    induction k with
    | zero => intro p s h; exact absurd h (Nat.not_lt_zero _)
    | succ k ih => exact fun n s h hI => step n s hI fun n' s' h' hI' => ih n' s' (Nat.lt_of_lt_of_le h' (Nat.le_of_lt_succ h)) hI'
  exact fun n s hI => all _ n s (Nat.lt_succ_self _) hI

end Mine
end
-- S3
section
open PySem PySem.W PyProof.Rows PySem.Calls PySem.Spec
namespace Mine
section
variable {w : World} {vw : Program} {lo : List Str} {mean : ExcName → Option Value} {mg mb : Str → Option Value} {A₀ A : Around} {base h₀ : Heap} {env : Env} {outer : List Env} {L : Addr} {m : Str → Option Value} {s : Shared} {Q E : Value → Shared → Prop} {news : List (Addr × Obj)}
  {x dx : Addr} {txt : Str} {t1 t3 t4 t5 : Tok} {i gn dn : Int} {h1 h2 h3 h4 h5 h6 h7 : Int} {k1 k2 k3 k4 k5 k6 k7 : Tok} {v2 v4 v5 v6 v7 : Value}
theorem read_counted_o {tf : Tok} {v : Value}
  (B : Below A₀ base outer h₀) (F : Fr h₀ L s.heap m) (X : (pre.heap_1 w.params).In h₀) (N : News h₀ L s.heap news) (T : Top vw lo mean mg mb h₀) (hA : A.frames = some (env :: outer)) (hf : env.frame = some L) (hke : env.scope.kind = .function) (hh : A.handled = none)
  (hdp : A.depth + 3 < recursionLimit)
  (m1 : (x, instObj 273 dx) ∈ news) (m2 : (dx, dictOf (ptE h1 h2 h3 h4 h5 h6 h7 k1 k2 k3 k4 k5 k6 k7 (.str txt t1) v2 (.int i t3) v4 v5 v6 v7) 7) ∈ news)
  (hi : 0 ≤ i) (hi2 : i ≤ 100) (hlen : txt.length ≤ 100) (hG : Good txt) (hp : Txt.slice txt (some i) (some (i + 1)) = Str.ofString "(")
  (hret : ∀ h' tk', Fr h₀ L h' m → News h₀ L h' news → Q v { s with heap := h', toks := tk' }) :
  wpAny (model PySem.Challenge.rw_qz0116_01.row.toRowW.1 w) A (call (.ref 523) [.ref x, .str (Str.ofString "") tf, v]) Q E s := by
  refine wpAny_call ?_
  have hin := in2 m1 m2
  have N2 := News.sub N hin
  have hne := inst_ne N m1 m2
  (k_dflt (refine' enterS B F X N2 T ?kA hf hke ?k6 ?k7 ?k8 ?k9 ?kB ?_ ?c2 ?c3 ?c4 ?c5; (case kA => exact hA); (case k6 => k_is); (case k7 => k_is); (case k8 => (first | assumption | exact room_d (by assumption) | exact room_f (by assumption) (by decide) | exact room_a (by assumption) (by decide) | exact room_b (by assumption) (by decide) | exact room_c (by assumption) (by decide) | exact room_e (by assumption) (by decide) | omega | (simp only [depth_deeper] at *; omega))); (case k9 => exact BindsTo.of_eq rfl); (case c5 => decide); (case kB => exact locs rfl); (case c2 => exact rfl); (case c3 => exact rfl); (case c4 => exact rfl)))
  intro g L' hq FG F' N' B' X' T' l1 hK hS hL
  (try k_lt l1)
  (try dsimp only); (try k_fold)
  (repeat' (first | ((with_reducible show wpAny _ _ (call (Value.ref 434) _) _ _ _); k_here; k_dflt (first | (apply take_count_o; (case B => k_asm); (case F => k_asm); (case X => k_asm); (case N => k_asm); (case T => k_asm); (case hA => first | exact Around.frames_deeper (Below.stack (by k_asm)) | assumption); (case hf => first | exact rfl | assumption); (case hke => first | exact rfl | assumption); (case hh => assumption); (case hdp => (first | assumption | exact room_d (by assumption) | exact room_f (by assumption) (by decide) | exact room_a (by assumption) (by decide) | exact room_b (by assumption) (by decide) | exact room_c (by assumption) (by decide) | exact room_e (by assumption) (by decide) | omega | (simp only [depth_deeper] at *; omega))); (case m1 => k_mem); (case m2 => k_mem); (case hi => (first | assumption | omega)); (case hi2 => (first | assumption | omega)); (case hlen => assumption); (case hp => assumption)) | (apply take_count_c; (case B => k_asm); (case F => k_asm); (case X => k_asm); (case N => k_asm); (case T => k_asm); (case hA => first | exact Around.frames_deeper (Below.stack (by k_asm)) | assumption); (case hf => first | exact rfl | assumption); (case hke => first | exact rfl | assumption); (case hh => assumption); (case hdp => (first | assumption | exact room_d (by assumption) | exact room_f (by assumption) (by decide) | exact room_a (by assumption) (by decide) | exact room_b (by assumption) (by decide) | exact room_c (by assumption) (by decide) | exact room_e (by assumption) (by decide) | omega | (simp only [depth_deeper] at *; omega))); (case m1 => k_mem); (case m2 => k_mem); (case hi => (first | assumption | omega)); (case hi2 => (first | assumption | omega)); (case hlen => assumption); (case hp => assumption)) | (apply take_count_a; (case B => k_asm); (case F => k_asm); (case X => k_asm); (case N => k_asm); (case T => k_asm); (case hA => first | exact Around.frames_deeper (Below.stack (by k_asm)) | assumption); (case hf => first | exact rfl | assumption); (case hke => first | exact rfl | assumption); (case hh => assumption); (case hdp => (first | assumption | exact room_d (by assumption) | exact room_f (by assumption) (by decide) | exact room_a (by assumption) (by decide) | exact room_b (by assumption) (by decide) | exact room_c (by assumption) (by decide) | exact room_e (by assumption) (by decide) | omega | (simp only [depth_deeper] at *; omega))); (case m1 => k_mem); (case m2 => k_mem); (case hi => (first | assumption | omega)); (case hi2 => (first | assumption | omega)); (case hlen => assumption); (case hp => assumption)) | (apply take_count_b; (case B => k_asm); (case F => k_asm); (case X => k_asm); (case N => k_asm); (case T => k_asm); (case hA => first | exact Around.frames_deeper (Below.stack (by k_asm)) | assumption); (case hf => first | exact rfl | assumption); (case hke => first | exact rfl | assumption); (case hh => assumption); (case hdp => (first | assumption | exact room_d (by assumption) | exact room_f (by assumption) (by decide) | exact room_a (by assumption) (by decide) | exact room_b (by assumption) (by decide) | exact room_c (by assumption) (by decide) | exact room_e (by assumption) (by decide) | omega | (simp only [depth_deeper] at *; omega))); (case m1 => k_mem); (case m2 => k_mem); (case hi => (first | assumption | omega)); (case hi2 => (first | assumption | omega)); (case hlen => assumption); (case hp => assumption)) | (apply take_count_d; (case B => k_asm); (case F => k_asm); (case X => k_asm); (case N => k_asm); (case T => k_asm); (case hA => first | exact Around.frames_deeper (Below.stack (by k_asm)) | assumption); (case hf => first | exact rfl | assumption); (case hke => first | exact rfl | assumption); (case hh => assumption); (case hdp => (first | assumption | exact room_d (by assumption) | exact room_f (by assumption) (by decide) | exact room_a (by assumption) (by decide) | exact room_b (by assumption) (by decide) | exact room_c (by assumption) (by decide) | exact room_e (by assumption) (by decide) | omega | (simp only [depth_deeper] at *; omega))); (case m1 => k_mem); (case m2 => k_mem); (case hi => (first | assumption | omega)); (case hi2 => (first | assumption | omega)); (case hlen => assumption); (case hp => assumption)) | (apply take_count_e; (case B => k_asm); (case F => k_asm); (case X => k_asm); (case N => k_asm); (case T => k_asm); (case hA => first | exact Around.frames_deeper (Below.stack (by k_asm)) | assumption); (case hf => first | exact rfl | assumption); (case hke => first | exact rfl | assumption); (case hh => assumption); (case hdp => (first | assumption | exact room_d (by assumption) | exact room_f (by assumption) (by decide) | exact room_a (by assumption) (by decide) | exact room_b (by assumption) (by decide) | exact room_c (by assumption) (by decide) | exact room_e (by assumption) (by decide) | omega | (simp only [depth_deeper] at *; omega))); (case m1 => k_mem); (case m2 => k_mem); (case hi => (first | assumption | omega)); (case hi2 => (first | assumption | omega)); (case hlen => assumption); (case hp => assumption))); intro h' tk' F' N'; (try dsimp only at N'); (try k_sweep)) | ((with_reducible show wpAny _ _ (call (Value.ref 495) _) _ _ _); k_here; k_dflt (apply read_inline_spec; (case B => k_asm); (case F => k_asm); (case X => k_asm); (case N => k_asm); (case T => k_asm); (case hA => first | exact Around.frames_deeper (Below.stack (by k_asm)) | assumption); (case hf => first | exact rfl | assumption); (case hke => first | exact rfl | assumption); (case hh => assumption); (case hdp => (first | assumption | exact room_d (by assumption) | exact room_f (by assumption) (by decide) | exact room_a (by assumption) (by decide) | exact room_b (by assumption) (by decide) | exact room_c (by assumption) (by decide) | exact room_e (by assumption) (by decide) | omega | (simp only [depth_deeper] at *; omega))); (case m1 => k_mem); (case m2 => k_mem); (case hi => (first | assumption | omega)); (case hi2 => (first | assumption | omega)); (case hlen => assumption); (case hG => assumption)); intro h' tk' F' N'; (try dsimp only at N'); (try k_sweep)) | ((with_reducible show wpAny _ _ (call (Value.ref 483) _) _ _ _); k_here; k_dflt (apply skip_unseen_spec; (case B => k_asm); (case F => k_asm); (case X => k_asm); (case N => k_asm); (case T => k_asm); (case hA => first | exact Around.frames_deeper (Below.stack (by k_asm)) | assumption); (case hf => first | exact rfl | assumption); (case hke => first | exact rfl | assumption); (case hh => assumption); (case hdp => (first | assumption | exact room_d (by assumption) | exact room_f (by assumption) (by decide) | exact room_a (by assumption) (by decide) | exact room_b (by assumption) (by decide) | exact room_c (by assumption) (by decide) | exact room_e (by assumption) (by decide) | omega | (simp only [depth_deeper] at *; omega))); (case m1 => k_mem); (case m2 => k_mem); (case hi => (first | assumption | omega)); (case hi2 => (first | assumption | omega)); (case hlen => assumption); (case hG => assumption)); intro h' tk' F' N'; (try dsimp only at N'); (try k_sweep)) | ((with_reducible show wpAny _ _ (call (Value.ref 270) _) _ _ _); k_here; k_dflt (apply skips_yes; (case B => k_asm); (case F => k_asm); (case X => k_asm); (case N => k_asm); (case T => k_asm); (case hA => first | exact Around.frames_deeper (Below.stack (by k_asm)) | assumption); (case hf => first | exact rfl | assumption); (case hke => first | exact rfl | assumption); (case hh => assumption); (case hdp => (first | assumption | exact room_d (by assumption) | exact room_f (by assumption) (by decide) | exact room_a (by assumption) (by decide) | exact room_b (by assumption) (by decide) | exact room_c (by assumption) (by decide) | exact room_e (by assumption) (by decide) | omega | (simp only [depth_deeper] at *; omega))); (case m1 => k_mem); (case U => k_updF); (case hi => (first | assumption | omega)); (case hi2 => (first | assumption | omega)); (case hlen => assumption); (case hw => decide +kernel); (case hs => assumption)); intro t' h' tk' F' N'; (try dsimp only at N'); (try k_sweep)) | ((with_reducible show wpAny _ _ (call (Value.ref 270) _) _ _ _); k_here; k_dflt (apply skips_no; (case B => k_asm); (case F => k_asm); (case X => k_asm); (case N => k_asm); (case T => k_asm); (case hA => first | exact Around.frames_deeper (Below.stack (by k_asm)) | assumption); (case hf => first | exact rfl | assumption); (case hke => first | exact rfl | assumption); (case hh => assumption); (case hdp => (first | assumption | exact room_d (by assumption) | exact room_f (by assumption) (by decide) | exact room_a (by assumption) (by decide) | exact room_b (by assumption) (by decide) | exact room_c (by assumption) (by decide) | exact room_e (by assumption) (by decide) | omega | (simp only [depth_deeper] at *; omega))); (case m1 => k_mem); (case m2 => k_mem); (case hi => (first | assumption | omega)); (case hi2 => (first | assumption | omega)); (case hlen => assumption); (case hw => decide +kernel); (case hs => first | assumption | exact slice_good_ne (by assumption) (by omega) (by omega) (by decide +kernel))); intro h' tk' F' N'; (try dsimp only at N'); (try k_sweep)) | ((with_reducible show wpAny _ _ (call (Value.ref 263) _) _ _ _); k_here; k_dflt (apply peek_is; (case B => k_asm); (case F => k_asm); (case X => k_asm); (case N => k_asm); (case T => k_asm); (case hA => first | exact Around.frames_deeper (Below.stack (by k_asm)) | assumption); (case hf => first | exact rfl | assumption); (case hke => first | exact rfl | assumption); (case hh => assumption); (case hdp => (first | assumption | exact room_d (by assumption) | exact room_f (by assumption) (by decide) | exact room_a (by assumption) (by decide) | exact room_b (by assumption) (by decide) | exact room_c (by assumption) (by decide) | exact room_e (by assumption) (by decide) | omega | (simp only [depth_deeper] at *; omega))); (case m1 => k_mem); (case m2 => k_mem); (case hi => (first | assumption | omega)); (case hlen => assumption); (case hp => assumption)); intro t' h' tk' F' N'; (try k_sweep)) | (k_unfold; (try dsimp only)) | (k_end; wrow_close) | walk1 | (dsimp only; walk1) | (leave1; walk_say "STEP leave1"; try dsimp only) | fail "no step"))
  rename Fr g L' _ _ => Fe
  rename Fr h₀ L _ m => kF
  rename News h₀ L _ [_, _] => kN
  exact hret _ _ kF (after0 N hin (hK.trans Fe.keep) kN)
theorem read_counted_c {tf : Tok} {v : Value}
  (B : Below A₀ base outer h₀) (F : Fr h₀ L s.heap m) (X : (pre.heap_1 w.params).In h₀) (N : News h₀ L s.heap news) (T : Top vw lo mean mg mb h₀) (hA : A.frames = some (env :: outer)) (hf : env.frame = some L) (hke : env.scope.kind = .function) (hh : A.handled = none)
  (hdp : A.depth + 3 < recursionLimit)
  (m1 : (x, instObj 273 dx) ∈ news) (m2 : (dx, dictOf (ptE h1 h2 h3 h4 h5 h6 h7 k1 k2 k3 k4 k5 k6 k7 (.str txt t1) v2 (.int i t3) v4 v5 v6 v7) 7) ∈ news)
  (hi : 0 ≤ i) (hi2 : i ≤ 100) (hlen : txt.length ≤ 100) (hG : Good txt) (hp : Txt.slice txt (some i) (some (i + 1)) = Str.ofString ")")
  (hret : ∀ h' tk', Fr h₀ L h' m → News h₀ L h' news → Q v { s with heap := h', toks := tk' }) :
  wpAny (model PySem.Challenge.rw_qz0116_01.row.toRowW.1 w) A (call (.ref 523) [.ref x, .str (Str.ofString "") tf, v]) Q E s := by
  refine wpAny_call ?_
  have hin := in2 m1 m2
  have N2 := News.sub N hin
  have hne := inst_ne N m1 m2
  (k_dflt (refine' enterS B F X N2 T ?kA hf hke ?k6 ?k7 ?k8 ?k9 ?kB ?_ ?c2 ?c3 ?c4 ?c5; (case kA => exact hA); (case k6 => k_is); (case k7 => k_is); (case k8 => (first | assumption | exact room_d (by assumption) | exact room_f (by assumption) (by decide) | exact room_a (by assumption) (by decide) | exact room_b (by assumption) (by decide) | exact room_c (by assumption) (by decide) | exact room_e (by assumption) (by decide) | omega | (simp only [depth_deeper] at *; omega))); (case k9 => exact BindsTo.of_eq rfl); (case c5 => decide); (case kB => exact locs rfl); (case c2 => exact rfl); (case c3 => exact rfl); (case c4 => exact rfl)))
  intro g L' hq FG F' N' B' X' T' l1 hK hS hL
  (try k_lt l1)
  (try dsimp only); (try k_fold)
  (repeat' (first | ((with_reducible show wpAny _ _ (call (Value.ref 434) _) _ _ _); k_here; k_dflt (first | (apply take_count_o; (case B => k_asm); (case F => k_asm); (case X => k_asm); (case N => k_asm); (case T => k_asm); (case hA => first | exact Around.frames_deeper (Below.stack (by k_asm)) | assumption); (case hf => first | exact rfl | assumption); (case hke => first | exact rfl | assumption); (case hh => assumption); (case hdp => (first | assumption | exact room_d (by assumption) | exact room_f (by assumption) (by decide) | exact room_a (by assumption) (by decide) | exact room_b (by assumption) (by decide) | exact room_c (by assumption) (by decide) | exact room_e (by assumption) (by decide) | omega | (simp only [depth_deeper] at *; omega))); (case m1 => k_mem); (case m2 => k_mem); (case hi => (first | assumption | omega)); (case hi2 => (first | assumption | omega)); (case hlen => assumption); (case hp => assumption)) | (apply take_count_c; (case B => k_asm); (case F => k_asm); (case X => k_asm); (case N => k_asm); (case T => k_asm); (case hA => first | exact Around.frames_deeper (Below.stack (by k_asm)) | assumption); (case hf => first | exact rfl | assumption); (case hke => first | exact rfl | assumption); (case hh => assumption); (case hdp => (first | assumption | exact room_d (by assumption) | exact room_f (by assumption) (by decide) | exact room_a (by assumption) (by decide) | exact room_b (by assumption) (by decide) | exact room_c (by assumption) (by decide) | exact room_e (by assumption) (by decide) | omega | (simp only [depth_deeper] at *; omega))); (case m1 => k_mem); (case m2 => k_mem); (case hi => (first | assumption | omega)); (case hi2 => (first | assumption | omega)); (case hlen => assumption); (case hp => assumption)) | (apply take_count_a; (case B => k_asm); (case F => k_asm); (case X => k_asm); (case N => k_asm); (case T => k_asm); (case hA => first | exact Around.frames_deeper (Below.stack (by k_asm)) | assumption); (case hf => first | exact rfl | assumption); (case hke => first | exact rfl | assumption); (case hh => assumption); (case hdp => (first | assumption | exact room_d (by assumption) | exact room_f (by assumption) (by decide) | exact room_a (by assumption) (by decide) | exact room_b (by assumption) (by decide) | exact room_c (by assumption) (by decide) | exact room_e (by assumption) (by decide) | omega | (simp only [depth_deeper] at *; omega))); (case m1 => k_mem); (case m2 => k_mem); (case hi => (first | assumption | omega)); (case hi2 => (first | assumption | omega)); (case hlen => assumption); (case hp => assumption)) | (apply take_count_b; (case B => k_asm); (case F => k_asm); (case X => k_asm); (case N => k_asm); (case T => k_asm); (case hA => first | exact Around.frames_deeper (Below.stack (by k_asm)) | assumption); (case hf => first | exact rfl | assumption); (case hke => first | exact rfl | assumption); (case hh => assumption); (case hdp => (first | assumption | exact room_d (by assumption) | exact room_f (by assumption) (by decide) | exact room_a (by assumption) (by decide) | exact room_b (by assumption) (by decide) | exact room_c (by assumption) (by decide) | exact room_e (by assumption) (by decide) | omega | (simp only [depth_deeper] at *; omega))); (case m1 => k_mem); (case m2 => k_mem); (case hi => (first | assumption | omega)); (case hi2 => (first | assumption | omega)); (case hlen => assumption); (case hp => assumption)) | (apply take_count_d; (case B => k_asm); (case F => k_asm); (case X => k_asm); (case N => k_asm); (case T => k_asm); (case hA => first | exact Around.frames_deeper (Below.stack (by k_asm)) | assumption); (case hf => first | exact rfl | assumption); (case hke => first | exact rfl | assumption); (case hh => assumption); (case hdp => (first | assumption | exact room_d (by assumption) | exact room_f (by assumption) (by decide) | exact room_a (by assumption) (by decide) | exact room_b (by assumption) (by decide) | exact room_c (by assumption) (by decide) | exact room_e (by assumption) (by decide) | omega | (simp only [depth_deeper] at *; omega))); (case m1 => k_mem); (case m2 => k_mem); (case hi => (first | assumption | omega)); (case hi2 => (first | assumption | omega)); (case hlen => assumption); (case hp => assumption)) | (apply take_count_e; (case B => k_asm); (case F => k_asm); (case X => k_asm); (case N => k_asm); (case T => k_asm); (case hA => first | exact Around.frames_deeper (Below.stack (by k_asm)) | assumption); (case hf => first | exact rfl | assumption); (case hke => first | exact rfl | assumption); (case hh => assumption); (case hdp => (first | assumption | exact room_d (by assumption) | exact room_f (by assumption) (by decide) | exact room_a (by assumption) (by decide) | exact room_b (by assumption) (by decide) | exact room_c (by assumption) (by decide) | exact room_e (by assumption) (by decide) | omega | (simp only [depth_deeper] at *; omega))); (case m1 => k_mem); (case m2 => k_mem); (case hi => (first | assumption | omega)); (case hi2 => (first | assumption | omega)); (case hlen => assumption); (case hp => assumption))); intro h' tk' F' N'; (try dsimp only at N'); (try k_sweep)) | ((with_reducible show wpAny _ _ (call (Value.ref 495) _) _ _ _); k_here; k_dflt (apply read_inline_spec; (case B => k_asm); (case F => k_asm); (case X => k_asm); (case N => k_asm); (case T => k_asm); (case hA => first | exact Around.frames_deeper (Below.stack (by k_asm)) | assumption); (case hf => first | exact rfl | assumption); (case hke => first | exact rfl | assumption); (case hh => assumption); (case hdp => (first | assumption | exact room_d (by assumption) | exact room_f (by assumption) (by decide) | exact room_a (by assumption) (by decide) | exact room_b (by assumption) (by decide) | exact room_c (by assumption) (by decide) | exact room_e (by assumption) (by decide) | omega | (simp only [depth_deeper] at *; omega))); (case m1 => k_mem); (case m2 => k_mem); (case hi => (first | assumption | omega)); (case hi2 => (first | assumption | omega)); (case hlen => assumption); (case hG => assumption)); intro h' tk' F' N'; (try dsimp only at N'); (try k_sweep)) | ((with_reducible show wpAny _ _ (call (Value.ref 483) _) _ _ _); k_here; k_dflt (apply skip_unseen_spec; (case B => k_asm); (case F => k_asm); (case X => k_asm); (case N => k_asm); (case T => k_asm); (case hA => first | exact Around.frames_deeper (Below.stack (by k_asm)) | assumption); (case hf => first | exact rfl | assumption); (case hke => first | exact rfl | assumption); (case hh => assumption); (case hdp => (first | assumption | exact room_d (by assumption) | exact room_f (by assumption) (by decide) | exact room_a (by assumption) (by decide) | exact room_b (by assumption) (by decide) | exact room_c (by assumption) (by decide) | exact room_e (by assumption) (by decide) | omega | (simp only [depth_deeper] at *; omega))); (case m1 => k_mem); (case m2 => k_mem); (case hi => (first | assumption | omega)); (case hi2 => (first | assumption | omega)); (case hlen => assumption); (case hG => assumption)); intro h' tk' F' N'; (try dsimp only at N'); (try k_sweep)) | ((with_reducible show wpAny _ _ (call (Value.ref 270) _) _ _ _); k_here; k_dflt (apply skips_yes; (case B => k_asm); (case F => k_asm); (case X => k_asm); (case N => k_asm); (case T => k_asm); (case hA => first | exact Around.frames_deeper (Below.stack (by k_asm)) | assumption); (case hf => first | exact rfl | assumption); (case hke => first | exact rfl | assumption); (case hh => assumption); (case hdp => (first | assumption | exact room_d (by assumption) | exact room_f (by assumption) (by decide) | exact room_a (by assumption) (by decide) | exact room_b (by assumption) (by decide) | exact room_c (by assumption) (by decide) | exact room_e (by assumption) (by decide) | omega | (simp only [depth_deeper] at *; omega))); (case m1 => k_mem); (case U => k_updF); (case hi => (first | assumption | omega)); (case hi2 => (first | assumption | omega)); (case hlen => assumption); (case hw => decide +kernel); (case hs => assumption)); intro t' h' tk' F' N'; (try dsimp only at N'); (try k_sweep)) | ((with_reducible show wpAny _ _ (call (Value.ref 270) _) _ _ _); k_here; k_dflt (apply skips_no; (case B => k_asm); (case F => k_asm); (case X => k_asm); (case N => k_asm); (case T => k_asm); (case hA => first | exact Around.frames_deeper (Below.stack (by k_asm)) | assumption); (case hf => first | exact rfl | assumption); (case hke => first | exact rfl | assumption); (case hh => assumption); (case hdp => (first | assumption | exact room_d (by assumption) | exact room_f (by assumption) (by decide) | exact room_a (by assumption) (by decide) | exact room_b (by assumption) (by decide) | exact room_c (by assumption) (by decide) | exact room_e (by assumption) (by decide) | omega | (simp only [depth_deeper] at *; omega))); (case m1 => k_mem); (case m2 => k_mem); (case hi => (first | assumption | omega)); (case hi2 => (first | assumption | omega)); (case hlen => assumption); (case hw => decide +kernel); (case hs => first | assumption | exact slice_good_ne (by assumption) (by omega) (by omega) (by decide +kernel))); intro h' tk' F' N'; (try dsimp only at N'); (try k_sweep)) | ((with_reducible show wpAny _ _ (call (Value.ref 263) _) _ _ _); k_here; k_dflt (apply peek_is; (case B => k_asm); (case F => k_asm); (case X => k_asm); (case N => k_asm); (case T => k_asm); (case hA => first | exact Around.frames_deeper (Below.stack (by k_asm)) | assumption); (case hf => first | exact rfl | assumption); (case hke => first | exact rfl | assumption); (case hh => assumption); (case hdp => (first | assumption | exact room_d (by assumption) | exact room_f (by assumption) (by decide) | exact room_a (by assumption) (by decide) | exact room_b (by assumption) (by decide) | exact room_c (by assumption) (by decide) | exact room_e (by assumption) (by decide) | omega | (simp only [depth_deeper] at *; omega))); (case m1 => k_mem); (case m2 => k_mem); (case hi => (first | assumption | omega)); (case hlen => assumption); (case hp => assumption)); intro t' h' tk' F' N'; (try k_sweep)) | (k_unfold; (try dsimp only)) | (k_end; wrow_close) | walk1 | (dsimp only; walk1) | (leave1; walk_say "STEP leave1"; try dsimp only) | fail "no step"))
  rename Fr g L' _ _ => Fe
  rename Fr h₀ L _ m => kF
  rename News h₀ L _ [_, _] => kN
  exact hret _ _ kF (after0 N hin (hK.trans Fe.keep) kN)
theorem read_counted_a {tf : Tok} {v : Value}
  (B : Below A₀ base outer h₀) (F : Fr h₀ L s.heap m) (X : (pre.heap_1 w.params).In h₀) (N : News h₀ L s.heap news) (T : Top vw lo mean mg mb h₀) (hA : A.frames = some (env :: outer)) (hf : env.frame = some L) (hke : env.scope.kind = .function) (hh : A.handled = none)
  (hdp : A.depth + 3 < recursionLimit)
  (m1 : (x, instObj 273 dx) ∈ news) (m2 : (dx, dictOf (ptE h1 h2 h3 h4 h5 h6 h7 k1 k2 k3 k4 k5 k6 k7 (.str txt t1) v2 (.int i t3) v4 v5 v6 v7) 7) ∈ news)
  (hi : 0 ≤ i) (hi2 : i ≤ 100) (hlen : txt.length ≤ 100) (hG : Good txt) (hp : Txt.slice txt (some i) (some (i + 1)) = Str.ofString "a")
  (hret : ∀ h' tk', Fr h₀ L h' m → News h₀ L h' news → Q v { s with heap := h', toks := tk' }) :
  wpAny (model PySem.Challenge.rw_qz0116_01.row.toRowW.1 w) A (call (.ref 523) [.ref x, .str (Str.ofString "") tf, v]) Q E s := by
  refine wpAny_call ?_
  have hin := in2 m1 m2
  have N2 := News.sub N hin
  have hne := inst_ne N m1 m2
  (k_dflt (refine' enterS B F X N2 T ?kA hf hke ?k6 ?k7 ?k8 ?k9 ?kB ?_ ?c2 ?c3 ?c4 ?c5; (case kA => exact hA); (case k6 => k_is); (case k7 => k_is); (case k8 => (first | assumption | exact room_d (by assumption) | exact room_f (by assumption) (by decide) | exact room_a (by assumption) (by decide) | exact room_b (by assumption) (by decide) | exact room_c (by assumption) (by decide) | exact room_e (by assumption) (by decide) | omega | (simp only [depth_deeper] at *; omega))); (case k9 => exact BindsTo.of_eq rfl); (case c5 => decide); (case kB => exact locs rfl); (case c2 => exact rfl); (case c3 => exact rfl); (case c4 => exact rfl)))
  intro g L' hq FG F' N' B' X' T' l1 hK hS hL
  (try k_lt l1)
  (try dsimp only); (try k_fold)
  (repeat' (first | ((with_reducible show wpAny _ _ (call (Value.ref 434) _) _ _ _); k_here; k_dflt (first | (apply take_count_o; (case B => k_asm); (case F => k_asm); (case X => k_asm); (case N => k_asm); (case T => k_asm); (case hA => first | exact Around.frames_deeper (Below.stack (by k_asm)) | assumption); (case hf => first | exact rfl | assumption); (case hke => first | exact rfl | assumption); (case hh => assumption); (case hdp => (first | assumption | exact room_d (by assumption) | exact room_f (by assumption) (by decide) | exact room_a (by assumption) (by decide) | exact room_b (by assumption) (by decide) | exact room_c (by assumption) (by decide) | exact room_e (by assumption) (by decide) | omega | (simp only [depth_deeper] at *; omega))); (case m1 => k_mem); (case m2 => k_mem); (case hi => (first | assumption | omega)); (case hi2 => (first | assumption | omega)); (case hlen => assumption); (case hp => assumption)) | (apply take_count_c; (case B => k_asm); (case F => k_asm); (case X => k_asm); (case N => k_asm); (case T => k_asm); (case hA => first | exact Around.frames_deeper (Below.stack (by k_asm)) | assumption); (case hf => first | exact rfl | assumption); (case hke => first | exact rfl | assumption); (case hh => assumption); (case hdp => (first | assumption | exact room_d (by assumption) | exact room_f (by assumption) (by decide) | exact room_a (by assumption) (by decide) | exact room_b (by assumption) (by decide) | exact room_c (by assumption) (by decide) | exact room_e (by assumption) (by decide) | omega | (simp only [depth_deeper] at *; omega))); (case m1 => k_mem); (case m2 => k_mem); (case hi => (first | assumption | omega)); (case hi2 => (first | assumption | omega)); (case hlen => assumption); (case hp => assumption)) | (apply take_count_a; (case B => k_asm); (case F => k_asm); (case X => k_asm); (case N => k_asm); (case T => k_asm); (case hA => first | exact Around.frames_deeper (Below.stack (by k_asm)) | assumption); (case hf => first | exact rfl | assumption); (case hke => first | exact rfl | assumption); (case hh => assumption); (case hdp => (first | assumption | exact room_d (by assumption) | exact room_f (by assumption) (by decide) | exact room_a (by assumption) (by decide) | exact room_b (by assumption) (by decide) | exact room_c (by assumption) (by decide) | exact room_e (by assumption) (by decide) | omega | (simp only [depth_deeper] at *; omega))); (case m1 => k_mem); (case m2 => k_mem); (case hi => (first | assumption | omega)); (case hi2 => (first | assumption | omega)); (case hlen => assumption); (case hp => assumption)) | (apply take_count_b; (case B => k_asm); (case F => k_asm); (case X => k_asm); (case N => k_asm); (case T => k_asm); (case hA => first | exact Around.frames_deeper (Below.stack (by k_asm)) | assumption); (case hf => first | exact rfl | assumption); (case hke => first | exact rfl | assumption); (case hh => assumption); (case hdp => (first | assumption | exact room_d (by assumption) | exact room_f (by assumption) (by decide) | exact room_a (by assumption) (by decide) | exact room_b (by assumption) (by decide) | exact room_c (by assumption) (by decide) | exact room_e (by assumption) (by decide) | omega | (simp only [depth_deeper] at *; omega))); (case m1 => k_mem); (case m2 => k_mem); (case hi => (first | assumption | omega)); (case hi2 => (first | assumption | omega)); (case hlen => assumption); (case hp => assumption)) | (apply take_count_d; (case B => k_asm); (case F => k_asm); (case X => k_asm); (case N => k_asm); (case T => k_asm); (case hA => first | exact Around.frames_deeper (Below.stack (by k_asm)) | assumption); (case hf => first | exact rfl | assumption); (case hke => first | exact rfl | assumption); (case hh => assumption); (case hdp => (first | assumption | exact room_d (by assumption) | exact room_f (by assumption) (by decide) | exact room_a (by assumption) (by decide) | exact room_b (by assumption) (by decide) | exact room_c (by assumption) (by decide) | exact room_e (by assumption) (by decide) | omega | (simp only [depth_deeper] at *; omega))); (case m1 => k_mem); (case m2 => k_mem); (case hi => (first | assumption | omega)); (case hi2 => (first | assumption | omega)); (case hlen => assumption); (case hp => assumption)) | (apply take_count_e; (case B => k_asm); (case F => k_asm); (case X => k_asm); (case N => k_asm); (case T => k_asm); (case hA => first | exact Around.frames_deeper (Below.stack (by k_asm)) | assumption); (case hf => first | exact rfl | assumption); (case hke => first | exact rfl | assumption); (case hh => assumption); (case hdp => (first | assumption | exact room_d (by assumption) | exact room_f (by assumption) (by decide) | exact room_a (by assumption) (by decide) | exact room_b (by assumption) (by decide) | exact room_c (by assumption) (by decide) | exact room_e (by assumption) (by decide) | omega | (simp only [depth_deeper] at *; omega))); (case m1 => k_mem); (case m2 => k_mem); (case hi => (first | assumption | omega)); (case hi2 => (first | assumption | omega)); (case hlen => assumption); (case hp => assumption))); intro h' tk' F' N'; (try dsimp only at N'); (try k_sweep)) | ((with_reducible show wpAny _ _ (call (Value.ref 495) _) _ _ _); k_here; k_dflt (apply read_inline_spec; (case B => k_asm); (case F => k_asm); (case X => k_asm); (case N => k_asm); (case T => k_asm); (case hA => first | exact Around.frames_deeper (Below.stack (by k_asm)) | assumption); (case hf => first | exact rfl | assumption); (case hke => first | exact rfl | assumption); (case hh => assumption); (case hdp => (first | assumption | exact room_d (by assumption) | exact room_f (by assumption) (by decide) | exact room_a (by assumption) (by decide) | exact room_b (by assumption) (by decide) | exact room_c (by assumption) (by decide) | exact room_e (by assumption) (by decide) | omega | (simp only [depth_deeper] at *; omega))); (case m1 => k_mem); (case m2 => k_mem); (case hi => (first | assumption | omega)); (case hi2 => (first | assumption | omega)); (case hlen => assumption); (case hG => assumption)); intro h' tk' F' N'; (try dsimp only at N'); (try k_sweep)) | ((with_reducible show wpAny _ _ (call (Value.ref 483) _) _ _ _); k_here; k_dflt (apply skip_unseen_spec; (case B => k_asm); (case F => k_asm); (case X => k_asm); (case N => k_asm); (case T => k_asm); (case hA => first | exact Around.frames_deeper (Below.stack (by k_asm)) | assumption); (case hf => first | exact rfl | assumption); (case hke => first | exact rfl | assumption); (case hh => assumption); (case hdp => (first | assumption | exact room_d (by assumption) | exact room_f (by assumption) (by decide) | exact room_a (by assumption) (by decide) | exact room_b (by assumption) (by decide) | exact room_c (by assumption) (by decide) | exact room_e (by assumption) (by decide) | omega | (simp only [depth_deeper] at *; omega))); (case m1 => k_mem); (case m2 => k_mem); (case hi => (first | assumption | omega)); (case hi2 => (first | assumption | omega)); (case hlen => assumption); (case hG => assumption)); intro h' tk' F' N'; (try dsimp only at N'); (try k_sweep)) | ((with_reducible show wpAny _ _ (call (Value.ref 270) _) _ _ _); k_here; k_dflt (apply skips_yes; (case B => k_asm); (case F => k_asm); (case X => k_asm); (case N => k_asm); (case T => k_asm); (case hA => first | exact Around.frames_deeper (Below.stack (by k_asm)) | assumption); (case hf => first | exact rfl | assumption); (case hke => first | exact rfl | assumption); (case hh => assumption); (case hdp => (first | assumption | exact room_d (by assumption) | exact room_f (by assumption) (by decide) | exact room_a (by assumption) (by decide) | exact room_b (by assumption) (by decide) | exact room_c (by assumption) (by decide) | exact room_e (by assumption) (by decide) | omega | (simp only [depth_deeper] at *; omega))); (case m1 => k_mem); (case U => k_updF); (case hi => (first | assumption | omega)); (case hi2 => (first | assumption | omega)); (case hlen => assumption); (case hw => decide +kernel); (case hs => assumption)); intro t' h' tk' F' N'; (try dsimp only at N'); (try k_sweep)) | ((with_reducible show wpAny _ _ (call (Value.ref 270) _) _ _ _); k_here; k_dflt (apply skips_no; (case B => k_asm); (case F => k_asm); (case X => k_asm); (case N => k_asm); (case T => k_asm); (case hA => first | exact Around.frames_deeper (Below.stack (by k_asm)) | assumption); (case hf => first | exact rfl | assumption); (case hke => first | exact rfl | assumption); (case hh => assumption); (case hdp => (first | assumption | exact room_d (by assumption) | exact room_f (by assumption) (by decide) | exact room_a (by assumption) (by decide) | exact room_b (by assumption) (by decide) | exact room_c (by assumption) (by decide) | exact room_e (by assumption) (by decide) | omega | (simp only [depth_deeper] at *; omega))); (case m1 => k_mem); (case m2 => k_mem); (case hi => (first | assumption | omega)); (case hi2 => (first | assumption | omega)); (case hlen => assumption); (case hw => decide +kernel); (case hs => first | assumption | exact slice_good_ne (by assumption) (by omega) (by omega) (by decide +kernel))); intro h' tk' F' N'; (try dsimp only at N'); (try k_sweep)) | ((with_reducible show wpAny _ _ (call (Value.ref 263) _) _ _ _); k_here; k_dflt (apply peek_is; (case B => k_asm); (case F => k_asm); (case X => k_asm); (case N => k_asm); (case T => k_asm); (case hA => first | exact Around.frames_deeper (Below.stack (by k_asm)) | assumption); (case hf => first | exact rfl | assumption); (case hke => first | exact rfl | assumption); (case hh => assumption); (case hdp => (first | assumption | exact room_d (by assumption) | exact room_f (by assumption) (by decide) | exact room_a (by assumption) (by decide) | exact room_b (by assumption) (by decide) | exact room_c (by assumption) (by decide) | exact room_e (by assumption) (by decide) | omega | (simp only [depth_deeper] at *; omega))); (case m1 => k_mem); (case m2 => k_mem); (case hi => (first | assumption | omega)); (case hlen => assumption); (case hp => assumption)); intro t' h' tk' F' N'; (try k_sweep)) | (k_unfold; (try dsimp only)) | (k_end; wrow_close) | walk1 | (dsimp only; walk1) | (leave1; walk_say "STEP leave1"; try dsimp only) | fail "no step"))
  rename Fr g L' _ _ => Fe
  rename Fr h₀ L _ m => kF
  rename News h₀ L _ [_, _] => kN
  exact hret _ _ kF (after0 N hin (hK.trans Fe.keep) kN)
theorem read_counted_b {tf : Tok} {v : Value}
  (B : Below A₀ base outer h₀) (F : Fr h₀ L s.heap m) (X : (pre.heap_1 w.params).In h₀) (N : News h₀ L s.heap news) (T : Top vw lo mean mg mb h₀) (hA : A.frames = some (env :: outer)) (hf : env.frame = some L) (hke : env.scope.kind = .function) (hh : A.handled = none)
  (hdp : A.depth + 3 < recursionLimit)
  (m1 : (x, instObj 273 dx) ∈ news) (m2 : (dx, dictOf (ptE h1 h2 h3 h4 h5 h6 h7 k1 k2 k3 k4 k5 k6 k7 (.str txt t1) v2 (.int i t3) v4 v5 v6 v7) 7) ∈ news)
  (hi : 0 ≤ i) (hi2 : i ≤ 100) (hlen : txt.length ≤ 100) (hG : Good txt) (hp : Txt.slice txt (some i) (some (i + 1)) = Str.ofString "b")
  (hret : ∀ h' tk', Fr h₀ L h' m → News h₀ L h' news → Q v { s with heap := h', toks := tk' }) :
  wpAny (model PySem.Challenge.rw_qz0116_01.row.toRowW.1 w) A (call (.ref 523) [.ref x, .str (Str.ofString "") tf, v]) Q E s := by
  refine wpAny_call ?_
  have hin := in2 m1 m2
  have N2 := News.sub N hin
  have hne := inst_ne N m1 m2
  (k_dflt (refine' enterS B F X N2 T ?kA hf hke ?k6 ?k7 ?k8 ?k9 ?kB ?_ ?c2 ?c3 ?c4 ?c5; (case kA => exact hA); (case k6 => k_is); (case k7 => k_is); (case k8 => (first | assumption | exact room_d (by assumption) | exact room_f (by assumption) (by decide) | exact room_a (by assumption) (by decide) | exact room_b (by assumption) (by decide) | exact room_c (by assumption) (by decide) | exact room_e (by assumption) (by decide) | omega | (simp only [depth_deeper] at *; omega))); (case k9 => exact BindsTo.of_eq rfl); (case c5 => decide); (case kB => exact locs rfl); (case c2 => exact rfl); (case c3 => exact rfl); (case c4 => exact rfl)))
  intro g L' hq FG F' N' B' X' T' l1 hK hS hL
  (try k_lt l1)
  (try dsimp only); (try k_fold)
  (repeat' (first | ((with_reducible show wpAny _ _ (call (Value.ref 434) _) _ _ _); k_here; k_dflt (first | (apply take_count_o; (case B => k_asm); (case F => k_asm); (case X => k_asm); (case N => k_asm); (case T => k_asm); (case hA => first | exact Around.frames_deeper (Below.stack (by k_asm)) | assumption); (case hf => first | exact rfl | assumption); (case hke => first | exact rfl | assumption); (case hh => assumption); (case hdp => (first | assumption | exact room_d (by assumption) | exact room_f (by assumption) (by decide) | exact room_a (by assumption) (by decide) | exact room_b (by assumption) (by decide) | exact room_c (by assumption) (by decide) | exact room_e (by assumption) (by decide) | omega | (simp only [depth_deeper] at *; omega))); (case m1 => k_mem); (case m2 => k_mem); (case hi => (first | assumption | omega)); (case hi2 => (first | assumption | omega)); (case hlen => assumption); (case hp => assumption)) | (apply take_count_c; (case B => k_asm); (case F => k_asm); (case X => k_asm); (case N => k_asm); (case T => k_asm); (case hA => first | exact Around.frames_deeper (Below.stack (by k_asm)) | assumption); (case hf => first | exact rfl | assumption); (case hke => first | exact rfl | assumption); (case hh => assumption); (case hdp => (first | assumption | exact room_d (by assumption) | exact room_f (by assumption) (by decide) | exact room_a (by assumption) (by decide) | exact room_b (by assumption) (by decide) | exact room_c (by assumption) (by decide) | exact room_e (by assumption) (by decide) | omega | (simp only [depth_deeper] at *; omega))); (case m1 => k_mem); (case m2 => k_mem); (case hi => (first | assumption | omega)); (case hi2 => (first | assumption | omega)); (case hlen => assumption); (case hp => assumption)) | (apply take_count_a; (case B => k_asm); (case F => k_asm); (case X => k_asm); (case N => k_asm); (case T => k_asm); (case hA => first | exact Around.frames_deeper (Below.stack (by k_asm)) | assumption); (case hf => first | exact rfl | assumption); (case hke => first | exact rfl | assumption); (case hh => assumption); (case hdp => (first | assumption | exact room_d (by assumption) | exact room_f (by assumption) (by decide) | exact room_a (by assumption) (by decide) | exact room_b (by assumption) (by decide) | exact room_c (by assumption) (by decide) | exact room_e (by assumption) (by decide) | omega | (simp only [depth_deeper] at *; omega))); (case m1 => k_mem); (case m2 => k_mem); (case hi => (first | assumption | omega)); (case hi2 => (first | assumption | omega)); (case hlen => assumption); (case hp => assumption)) | (apply take_count_b; (case B => k_asm); (case F => k_asm); (case X => k_asm); (case N => k_asm); (case T => k_asm); (case hA => first | exact Around.frames_deeper (Below.stack (by k_asm)) | assumption); (case hf => first | exact rfl | assumption); (case hke => first | exact rfl | assumption); (case hh => assumption); (case hdp => (first | assumption | exact room_d (by assumption) | exact room_f (by assumption) (by decide) | exact room_a (by assumption) (by decide) | exact room_b (by assumption) (by decide) | exact room_c (by assumption) (by decide) | exact room_e (by assumption) (by decide) | omega | (simp only [depth_deeper] at *; omega))); (case m1 => k_mem); (case m2 => k_mem); (case hi => (first | assumption | omega)); (case hi2 => (first | assumption | omega)); (case hlen => assumption); (case hp => assumption)) | (apply take_count_d; (case B => k_asm); (case F => k_asm); (case X => k_asm); (case N => k_asm); (case T => k_asm); (case hA => first | exact Around.frames_deeper (Below.stack (by k_asm)) | assumption); (case hf => first | exact rfl | assumption); (case hke => first | exact rfl | assumption); (case hh => assumption); (case hdp => (first | assumption | exact room_d (by assumption) | exact room_f (by assumption) (by decide) | exact room_a (by assumption) (by decide) | exact room_b (by assumption) (by decide) | exact room_c (by assumption) (by decide) | exact room_e (by assumption) (by decide) | omega | (simp only [depth_deeper] at *; omega))); (case m1 => k_mem); (case m2 => k_mem); (case hi => (first | assumption | omega)); (case hi2 => (first | assumption | omega)); (case hlen => assumption); (case hp => assumption)) | (apply take_count_e; (case B => k_asm); (case F => k_asm); (case X => k_asm); (case N => k_asm); (case T => k_asm); (case hA => first | exact Around.frames_deeper (Below.stack (by k_asm)) | assumption); (case hf => first | exact rfl | assumption); (case hke => first | exact rfl | assumption); (case hh => assumption); (case hdp => (first | assumption | exact room_d (by assumption) | exact room_f (by assumption) (by decide) | exact room_a (by assumption) (by decide) | exact room_b (by assumption) (by decide) | exact room_c (by assumption) (by decide) | exact room_e (by assumption) (by decide) | omega | (simp only [depth_deeper] at *; omega))); (case m1 => k_mem); (case m2 => k_mem); (case hi => (first | assumption | omega)); (case hi2 => (first | assumption | omega)); (case hlen => assumption); (case hp => assumption))); intro h' tk' F' N'; (try dsimp only at N'); (try k_sweep)) | ((with_reducible show wpAny _ _ (call (Value.ref 495) _) _ _ _); k_here; k_dflt (apply read_inline_spec; (case B => k_asm); (case F => k_asm); (case X => k_asm); (case N => k_asm); (case T => k_asm); (case hA => first | exact Around.frames_deeper (Below.stack (by k_asm)) | assumption); (case hf => first | exact rfl | assumption); (case hke => first | exact rfl | assumption); (case hh => assumption); (case hdp => (first | assumption | exact room_d (by assumption) | exact room_f (by assumption) (by decide) | exact room_a (by assumption) (by decide) | exact room_b (by assumption) (by decide) | exact room_c (by assumption) (by decide) | exact room_e (by assumption) (by decide) | omega | (simp only [depth_deeper] at *; omega))); (case m1 => k_mem); (case m2 => k_mem); (case hi => (first | assumption | omega)); (case hi2 => (first | assumption | omega)); (case hlen => assumption); (case hG => assumption)); intro h' tk' F' N'; (try dsimp only at N'); (try k_sweep)) | ((with_reducible show wpAny _ _ (call (Value.ref 483) _) _ _ _); k_here; k_dflt (apply skip_unseen_spec; (case B => k_asm); (case F => k_asm); (case X => k_asm); (case N => k_asm); (case T => k_asm); (case hA => first | exact Around.frames_deeper (Below.stack (by k_asm)) | assumption); (case hf => first | exact rfl | assumption); (case hke => first | exact rfl | assumption); (case hh => assumption); (case hdp => (first | assumption | exact room_d (by assumption) | exact room_f (by assumption) (by decide) | exact room_a (by assumption) (by decide) | exact room_b (by assumption) (by decide) | exact room_c (by assumption) (by decide) | exact room_e (by assumption) (by decide) | omega | (simp only [depth_deeper] at *; omega))); (case m1 => k_mem); (case m2 => k_mem); (case hi => (first | assumption | omega)); (case hi2 => (first | assumption | omega)); (case hlen => assumption); (case hG => assumption)); intro h' tk' F' N'; (try dsimp only at N'); (try k_sweep)) | ((with_reducible show wpAny _ _ (call (Value.ref 270) _) _ _ _); k_here; k_dflt (apply skips_yes; (case B => k_asm); (case F => k_asm); (case X => k_asm); (case N => k_asm); (case T => k_asm); (case hA => first | exact Around.frames_deeper (Below.stack (by k_asm)) | assumption); (case hf => first | exact rfl | assumption); (case hke => first | exact rfl | assumption); (case hh => assumption); (case hdp => (first | assumption | exact room_d (by assumption) | exact room_f (by assumption) (by decide) | exact room_a (by assumption) (by decide) | exact room_b (by assumption) (by decide) | exact room_c (by assumption) (by decide) | exact room_e (by assumption) (by decide) | omega | (simp only [depth_deeper] at *; omega))); (case m1 => k_mem); (case U => k_updF); (case hi => (first | assumption | omega)); (case hi2 => (first | assumption | omega)); (case hlen => assumption); (case hw => decide +kernel); (case hs => assumption)); intro t' h' tk' F' N'; (try dsimp only at N'); (try k_sweep)) | ((with_reducible show wpAny _ _ (call (Value.ref 270) _) _ _ _); k_here; k_dflt (apply skips_no; (case B => k_asm); (case F => k_asm); (case X => k_asm); (case N => k_asm); (case T => k_asm); (case hA => first | exact Around.frames_deeper (Below.stack (by k_asm)) | assumption); (case hf => first | exact rfl | assumption); (case hke => first | exact rfl | assumption); (case hh => assumption); (case hdp => (first | assumption | exact room_d (by assumption) | exact room_f (by assumption) (by decide) | exact room_a (by assumption) (by decide) | exact room_b (by assumption) (by decide) | exact room_c (by assumption) (by decide) | exact room_e (by assumption) (by decide) | omega | (simp only [depth_deeper] at *; omega))); (case m1 => k_mem); (case m2 => k_mem); (case hi => (first | assumption | omega)); (case hi2 => (first | assumption | omega)); (case hlen => assumption); (case hw => decide +kernel); (case hs => first | assumption | exact slice_good_ne (by assumption) (by omega) (by omega) (by decide +kernel))); intro h' tk' F' N'; (try dsimp only at N'); (try k_sweep)) | ((with_reducible show wpAny _ _ (call (Value.ref 263) _) _ _ _); k_here; k_dflt (apply peek_is; (case B => k_asm); (case F => k_asm); (case X => k_asm); (case N => k_asm); (case T => k_asm); (case hA => first | exact Around.frames_deeper (Below.stack (by k_asm)) | assumption); (case hf => first | exact rfl | assumption); (case hke => first | exact rfl | assumption); (case hh => assumption); (case hdp => (first | assumption | exact room_d (by assumption) | exact room_f (by assumption) (by decide) | exact room_a (by assumption) (by decide) | exact room_b (by assumption) (by decide) | exact room_c (by assumption) (by decide) | exact room_e (by assumption) (by decide) | omega | (simp only [depth_deeper] at *; omega))); (case m1 => k_mem); (case m2 => k_mem); (case hi => (first | assumption | omega)); (case hlen => assumption); (case hp => assumption)); intro t' h' tk' F' N'; (try k_sweep)) | (k_unfold; (try dsimp only)) | (k_end; wrow_close) | walk1 | (dsimp only; walk1) | (leave1; walk_say "STEP leave1"; try dsimp only) | fail "no step"))
  rename Fr g L' _ _ => Fe
  rename Fr h₀ L _ m => kF
  rename News h₀ L _ [_, _] => kN
  exact hret _ _ kF (after0 N hin (hK.trans Fe.keep) kN)
theorem read_counted_d {tf : Tok} {v : Value}
  (B : Below A₀ base outer h₀) (F : Fr h₀ L s.heap m) (X : (pre.heap_1 w.params).In h₀) (N : News h₀ L s.heap news) (T : Top vw lo mean mg mb h₀) (hA : A.frames = some (env :: outer)) (hf : env.frame = some L) (hke : env.scope.kind = .function) (hh : A.handled = none)
  (hdp : A.depth + 3 < recursionLimit)
  (m1 : (x, instObj 273 dx) ∈ news) (m2 : (dx, dictOf (ptE h1 h2 h3 h4 h5 h6 h7 k1 k2 k3 k4 k5 k6 k7 (.str txt t1) v2 (.int i t3) v4 v5 v6 v7) 7) ∈ news)
  (hi : 0 ≤ i) (hi2 : i ≤ 100) (hlen : txt.length ≤ 100) (hG : Good txt) (hp : Txt.slice txt (some i) (some (i + 1)) = Str.ofString "c")
  (hret : ∀ h' tk', Fr h₀ L h' m → News h₀ L h' news → Q v { s with heap := h', toks := tk' }) :
  wpAny (model PySem.Challenge.rw_qz0116_01.row.toRowW.1 w) A (call (.ref 523) [.ref x, .str (Str.ofString "") tf, v]) Q E s := by
  refine wpAny_call ?_
  have hin := in2 m1 m2
  have N2 := News.sub N hin
  have hne := inst_ne N m1 m2
  (k_dflt (refine' enterS B F X N2 T ?kA hf hke ?k6 ?k7 ?k8 ?k9 ?kB ?_ ?c2 ?c3 ?c4 ?c5; (case kA => exact hA); (case k6 => k_is); (case k7 => k_is); (case k8 => (first | assumption | exact room_d (by assumption) | exact room_f (by assumption) (by decide) | exact room_a (by assumption) (by decide) | exact room_b (by assumption) (by decide) | exact room_c (by assumption) (by decide) | exact room_e (by assumption) (by decide) | omega | (simp only [depth_deeper] at *; omega))); (case k9 => exact BindsTo.of_eq rfl); (case c5 => decide); (case kB => exact locs rfl); (case c2 => exact rfl); (case c3 => exact rfl); (case c4 => exact rfl)))
  intro g L' hq FG F' N' B' X' T' l1 hK hS hL
  (try k_lt l1)
  (try dsimp only); (try k_fold)
  (repeat' (first | ((with_reducible show wpAny _ _ (call (Value.ref 434) _) _ _ _); k_here; k_dflt (first | (apply take_count_o; (case B => k_asm); (case F => k_asm); (case X => k_asm); (case N => k_asm); (case T => k_asm); (case hA => first | exact Around.frames_deeper (Below.stack (by k_asm)) | assumption); (case hf => first | exact rfl | assumption); (case hke => first | exact rfl | assumption); (case hh => assumption); (case hdp => (first | assumption | exact room_d (by assumption) | exact room_f (by assumption) (by decide) | exact room_a (by assumption) (by decide) | exact room_b (by assumption) (by decide) | exact room_c (by assumption) (by decide) | exact room_e (by assumption) (by decide) | omega | (simp only [depth_deeper] at *; omega))); (case m1 => k_mem); (case m2 => k_mem); (case hi => (first | assumption | omega)); (case hi2 => (first | assumption | omega)); (case hlen => assumption); (case hp => assumption)) | (apply take_count_c; (case B => k_asm); (case F => k_asm); (case X => k_asm); (case N => k_asm); (case T => k_asm); (case hA => first | exact Around.frames_deeper (Below.stack (by k_asm)) | assumption); (case hf => first | exact rfl | assumption); (case hke => first | exact rfl | assumption); (case hh => assumption); (case hdp => (first | assumption | exact room_d (by assumption) | exact room_f (by assumption) (by decide) | exact room_a (by assumption) (by decide) | exact room_b (by assumption) (by decide) | exact room_c (by assumption) (by decide) | exact room_e (by assumption) (by decide) | omega | (simp only [depth_deeper] at *; omega))); (case m1 => k_mem); (case m2 => k_mem); (case hi => (first | assumption | omega)); (case hi2 => (first | assumption | omega)); (case hlen => assumption); (case hp => assumption)) | (apply take_count_a; (case B => k_asm); (case F => k_asm); (case X => k_asm); (case N => k_asm); (case T => k_asm); (case hA => first | exact Around.frames_deeper (Below.stack (by k_asm)) | assumption); (case hf => first | exact rfl | assumption); (case hke => first | exact rfl | assumption); (case hh => assumption); (case hdp => (first | assumption | exact room_d (by assumption) | exact room_f (by assumption) (by decide) | exact room_a (by assumption) (by decide) | exact room_b (by assumption) (by decide) | exact room_c (by assumption) (by decide) | exact room_e (by assumption) (by decide) | omega | (simp only [depth_deeper] at *; omega))); (case m1 => k_mem); (case m2 => k_mem); (case hi => (first | assumption | omega)); (case hi2 => (first | assumption | omega)); (case hlen => assumption); (case hp => assumption)) | (apply take_count_b; (case B => k_asm); (case F => k_asm); (case X => k_asm); (case N => k_asm); (case T => k_asm); (case hA => first | exact Around.frames_deeper (Below.stack (by k_asm)) | assumption); (case hf => first | exact rfl | assumption); (case hke => first | exact rfl | assumption); (case hh => assumption); (case hdp => (first | assumption | exact room_d (by assumption) | exact room_f (by assumption) (by decide) | exact room_a (by assumption) (by decide) | exact room_b (by assumption) (by decide) | exact room_c (by assumption) (by decide) | exact room_e (by assumption) (by decide) | omega | (simp only [depth_deeper] at *; omega))); (case m1 => k_mem); (case m2 => k_mem); (case hi => (first | assumption | omega)); (case hi2 => (first | assumption | omega)); (case hlen => assumption); (case hp => assumption)) | (apply take_count_d; (case B => k_asm); (case F => k_asm); (case X => k_asm); (case N => k_asm); (case T => k_asm); (case hA => first | exact Around.frames_deeper (Below.stack (by k_asm)) | assumption); (case hf => first | exact rfl | assumption); (case hke => first | exact rfl | assumption); (case hh => assumption); (case hdp => (first | assumption | exact room_d (by assumption) | exact room_f (by assumption) (by decide) | exact room_a (by assumption) (by decide) | exact room_b (by assumption) (by decide) | exact room_c (by assumption) (by decide) | exact room_e (by assumption) (by decide) | omega | (simp only [depth_deeper] at *; omega))); (case m1 => k_mem); (case m2 => k_mem); (case hi => (first | assumption | omega)); (case hi2 => (first | assumption | omega)); (case hlen => assumption); (case hp => assumption)) | (apply take_count_e; (case B => k_asm); (case F => k_asm); (case X => k_asm); (case N => k_asm); (case T => k_asm); (case hA => first | exact Around.frames_deeper (Below.stack (by k_asm)) | assumption); (case hf => first | exact rfl | assumption); (case hke => first | exact rfl | assumption); (case hh => assumption); (case hdp => (first | assumption | exact room_d (by assumption) | exact room_f (by assumption) (by decide) | exact room_a (by assumption) (by decide) | exact room_b (by assumption) (by decide) | exact room_c (by assumption) (by decide) | exact room_e (by assumption) (by decide) | omega | (simp only [depth_deeper] at *; omega))); (case m1 => k_mem); (case m2 => k_mem); (case hi => (first | assumption | omega)); (case hi2 => (first | assumption | omega)); (case hlen => assumption); (case hp => assumption))); intro h' tk' F' N'; (try dsimp only at N'); (try k_sweep)) | ((with_reducible show wpAny _ _ (call (Value.ref 495) _) _ _ _); k_here; k_dflt (apply read_inline_spec; (case B => k_asm); (case F => k_asm); (case X => k_asm); (case N => k_asm); (case T => k_asm); (case hA => first | exact Around.frames_deeper (Below.stack (by k_asm)) | assumption); (case hf => first | exact rfl | assumption); (case hke => first | exact rfl | assumption); (case hh => assumption); (case hdp => (first | assumption | exact room_d (by assumption) | exact room_f (by assumption) (by decide) | exact room_a (by assumption) (by decide) | exact room_b (by assumption) (by decide) | exact room_c (by assumption) (by decide) | exact room_e (by assumption) (by decide) | omega | (simp only [depth_deeper] at *; omega))); (case m1 => k_mem); (case m2 => k_mem); (case hi => (first | assumption | omega)); (case hi2 => (first | assumption | omega)); (case hlen => assumption); (case hG => assumption)); intro h' tk' F' N'; (try dsimp only at N'); (try k_sweep)) | ((with_reducible show wpAny _ _ (call (Value.ref 483) _) _ _ _); k_here; k_dflt (apply skip_unseen_spec; (case B => k_asm); (case F => k_asm); (case X => k_asm); (case N => k_asm); (case T => k_asm); (case hA => first | exact Around.frames_deeper (Below.stack (by k_asm)) | assumption); (case hf => first | exact rfl | assumption); (case hke => first | exact rfl | assumption); (case hh => assumption); (case hdp => (first | assumption | exact room_d (by assumption) | exact room_f (by assumption) (by decide) | exact room_a (by assumption) (by decide) | exact room_b (by assumption) (by decide) | exact room_c (by assumption) (by decide) | exact room_e (by assumption) (by decide) | omega | (simp only [depth_deeper] at *; omega))); (case m1 => k_mem); (case m2 => k_mem); (case hi => (first | assumption | omega)); (case hi2 => (first | assumption | omega)); (case hlen => assumption); (case hG => assumption)); intro h' tk' F' N'; (try dsimp only at N'); (try k_sweep)) | ((with_reducible show wpAny _ _ (call (Value.ref 270) _) _ _ _); k_here; k_dflt (apply skips_yes; (case B => k_asm); (case F => k_asm); (case X => k_asm); (case N => k_asm); (case T => k_asm); (case hA => first | exact Around.frames_deeper (Below.stack (by k_asm)) | assumption); (case hf => first | exact rfl | assumption); (case hke => first | exact rfl | assumption); (case hh => assumption); (case hdp => (first | assumption | exact room_d (by assumption) | exact room_f (by assumption) (by decide) | exact room_a (by assumption) (by decide) | exact room_b (by assumption) (by decide) | exact room_c (by assumption) (by decide) | exact room_e (by assumption) (by decide) | omega | (simp only [depth_deeper] at *; omega))); (case m1 => k_mem); (case U => k_updF); (case hi => (first | assumption | omega)); (case hi2 => (first | assumption | omega)); (case hlen => assumption); (case hw => decide +kernel); (case hs => assumption)); intro t' h' tk' F' N'; (try dsimp only at N'); (try k_sweep)) | ((with_reducible show wpAny _ _ (call (Value.ref 270) _) _ _ _); k_here; k_dflt (apply skips_no; (case B => k_asm); (case F => k_asm); (case X => k_asm); (case N => k_asm); (case T => k_asm); (case hA => first | exact Around.frames_deeper (Below.stack (by k_asm)) | assumption); (case hf => first | exact rfl | assumption); (case hke => first | exact rfl | assumption); (case hh => assumption); (case hdp => (first | assumption | exact room_d (by assumption) | exact room_f (by assumption) (by decide) | exact room_a (by assumption) (by decide) | exact room_b (by assumption) (by decide) | exact room_c (by assumption) (by decide) | exact room_e (by assumption) (by decide) | omega | (simp only [depth_deeper] at *; omega))); (case m1 => k_mem); (case m2 => k_mem); (case hi => (first | assumption | omega)); (case hi2 => (first | assumption | omega)); (case hlen => assumption); (case hw => decide +kernel); (case hs => first | assumption | exact slice_good_ne (by assumption) (by omega) (by omega) (by decide +kernel))); intro h' tk' F' N'; (try dsimp only at N'); (try k_sweep)) | ((with_reducible show wpAny _ _ (call (Value.ref 263) _) _ _ _); k_here; k_dflt (apply peek_is; (case B => k_asm); (case F => k_asm); (case X => k_asm); (case N => k_asm); (case T => k_asm); (case hA => first | exact Around.frames_deeper (Below.stack (by k_asm)) | assumption); (case hf => first | exact rfl | assumption); (case hke => first | exact rfl | assumption); (case hh => assumption); (case hdp => (first | assumption | exact room_d (by assumption) | exact room_f (by assumption) (by decide) | exact room_a (by assumption) (by decide) | exact room_b (by assumption) (by decide) | exact room_c (by assumption) (by decide) | exact room_e (by assumption) (by decide) | omega | (simp only [depth_deeper] at *; omega))); (case m1 => k_mem); (case m2 => k_mem); (case hi => (first | assumption | omega)); (case hlen => assumption); (case hp => assumption)); intro t' h' tk' F' N'; (try k_sweep)) | (k_unfold; (try dsimp only)) | (k_end; wrow_close) | walk1 | (dsimp only; walk1) | (leave1; walk_say "STEP leave1"; try dsimp only) | fail "no step"))
  rename Fr g L' _ _ => Fe
  rename Fr h₀ L _ m => kF
  rename News h₀ L _ [_, _] => kN
  exact hret _ _ kF (after0 N hin (hK.trans Fe.keep) kN)
theorem read_counted_e {tf : Tok} {v : Value}
  (B : Below A₀ base outer h₀) (F : Fr h₀ L s.heap m) (X : (pre.heap_1 w.params).In h₀) (N : News h₀ L s.heap news) (T : Top vw lo mean mg mb h₀) (hA : A.frames = some (env :: outer)) (hf : env.frame = some L) (hke : env.scope.kind = .function) (hh : A.handled = none)
  (hdp : A.depth + 3 < recursionLimit)
  (m1 : (x, instObj 273 dx) ∈ news) (m2 : (dx, dictOf (ptE h1 h2 h3 h4 h5 h6 h7 k1 k2 k3 k4 k5 k6 k7 (.str txt t1) v2 (.int i t3) v4 v5 v6 v7) 7) ∈ news)
  (hi : 0 ≤ i) (hi2 : i ≤ 100) (hlen : txt.length ≤ 100) (hG : Good txt) (hp : Txt.slice txt (some i) (some (i + 1)) = Str.ofString "")
  (hret : ∀ h' tk', Fr h₀ L h' m → News h₀ L h' news → Q v { s with heap := h', toks := tk' }) :
  wpAny (model PySem.Challenge.rw_qz0116_01.row.toRowW.1 w) A (call (.ref 523) [.ref x, .str (Str.ofString "") tf, v]) Q E s := by
  refine wpAny_call ?_
  have hin := in2 m1 m2
  have N2 := News.sub N hin
  have hne := inst_ne N m1 m2
  (k_dflt (refine' enterS B F X N2 T ?kA hf hke ?k6 ?k7 ?k8 ?k9 ?kB ?_ ?c2 ?c3 ?c4 ?c5; (case kA => exact hA); (case k6 => k_is); (case k7 => k_is); (case k8 => (first | assumption | exact room_d (by assumption) | exact room_f (by assumption) (by decide) | exact room_a (by assumption) (by decide) | exact room_b (by assumption) (by decide) | exact room_c (by assumption) (by decide) | exact room_e (by assumption) (by decide) | omega | (simp only [depth_deeper] at *; omega))); (case k9 => exact BindsTo.of_eq rfl); (case c5 => decide); (case kB => exact locs rfl); (case c2 => exact rfl); (case c3 => exact rfl); (case c4 => exact rfl)))
  intro g L' hq FG F' N' B' X' T' l1 hK hS hL
  (try k_lt l1)
  (try dsimp only); (try k_fold)
  (repeat' (first | ((with_reducible show wpAny _ _ (call (Value.ref 434) _) _ _ _); k_here; k_dflt (first | (apply take_count_o; (case B => k_asm); (case F => k_asm); (case X => k_asm); (case N => k_asm); (case T => k_asm); (case hA => first | exact Around.frames_deeper (Below.stack (by k_asm)) | assumption); (case hf => first | exact rfl | assumption); (case hke => first | exact rfl | assumption); (case hh => assumption); (case hdp => (first | assumption | exact room_d (by assumption) | exact room_f (by assumption) (by decide) | exact room_a (by assumption) (by decide) | exact room_b (by assumption) (by decide) | exact room_c (by assumption) (by decide) | exact room_e (by assumption) (by decide) | omega | (simp only [depth_deeper] at *; omega))); (case m1 => k_mem); (case m2 => k_mem); (case hi => (first | assumption | omega)); (case hi2 => (first | assumption | omega)); (case hlen => assumption); (case hp => assumption)) | (apply take_count_c; (case B => k_asm); (case F => k_asm); (case X => k_asm); (case N => k_asm); (case T => k_asm); (case hA => first | exact Around.frames_deeper (Below.stack (by k_asm)) | assumption); (case hf => first | exact rfl | assumption); (case hke => first | exact rfl | assumption); (case hh => assumption); (case hdp => (first | assumption | exact room_d (by assumption) | exact room_f (by assumption) (by decide) | exact room_a (by assumption) (by decide) | exact room_b (by assumption) (by decide) | exact room_c (by assumption) (by decide) | exact room_e (by assumption) (by decide) | omega | (simp only [depth_deeper] at *; omega))); (case m1 => k_mem); (case m2 => k_mem); (case hi => (first | assumption | omega)); (case hi2 => (first | assumption | omega)); (case hlen => assumption); (case hp => assumption)) | (apply take_count_a; (case B => k_asm); (case F => k_asm); (case X => k_asm); (case N => k_asm); (case T => k_asm); (case hA => first | exact Around.frames_deeper (Below.stack (by k_asm)) | assumption); (case hf => first | exact rfl | assumption); (case hke => first | exact rfl | assumption); (case hh => assumption); (case hdp => (first | assumption | exact room_d (by assumption) | exact room_f (by assumption) (by decide) | exact room_a (by assumption) (by decide) | exact room_b (by assumption) (by decide) | exact room_c (by assumption) (by decide) | exact room_e (by assumption) (by decide) | omega | (simp only [depth_deeper] at *; omega))); (case m1 => k_mem); (case m2 => k_mem); (case hi => (first | assumption | omega)); (case hi2 => (first | assumption | omega)); (case hlen => assumption); (case hp => assumption)) | (apply take_count_b; (case B => k_asm); (case F => k_asm); (case X => k_asm); (case N => k_asm); (case T => k_asm); (case hA => first | exact Around.frames_deeper (Below.stack (by k_asm)) | assumption); (case hf => first | exact rfl | assumption); (case hke => first | exact rfl | assumption); (case hh => assumption); (case hdp => (first | assumption | exact room_d (by assumption) | exact room_f (by assumption) (by decide) | exact room_a (by assumption) (by decide) | exact room_b (by assumption) (by decide) | exact room_c (by assumption) (by decide) | exact room_e (by assumption) (by decide) | omega | (simp only [depth_deeper] at *; omega))); (case m1 => k_mem); (case m2 => k_mem); (case hi => (first | assumption | omega)); (case hi2 => (first | assumption | omega)); (case hlen => assumption); (case hp => assumption)) | (apply take_count_d; (case B => k_asm); (case F => k_asm); (case X => k_asm); (case N => k_asm); (case T => k_asm); (case hA => first | exact Around.frames_deeper (Below.stack (by k_asm)) | assumption); (case hf => first | exact rfl | assumption); (case hke => first | exact rfl | assumption); (case hh => assumption); (case hdp => (first | assumption | exact room_d (by assumption) | exact room_f (by assumption) (by decide) | exact room_a (by assumption) (by decide) | exact room_b (by assumption) (by decide) | exact room_c (by assumption) (by decide) | exact room_e (by assumption) (by decide) | omega | (simp only [depth_deeper] at *; omega))); (case m1 => k_mem); (case m2 => k_mem); (case hi => (first | assumption | omega)); (case hi2 => (first | assumption | omega)); (case hlen => assumption); (case hp => assumption)) | (apply take_count_e; (case B => k_asm); (case F => k_asm); (case X => k_asm); (case N => k_asm); (case T => k_asm); (case hA => first | exact Around.frames_deeper (Below.stack (by k_asm)) | assumption); (case hf => first | exact rfl | assumption); (case hke => first | exact rfl | assumption); (case hh => assumption); (case hdp => (first | assumption | exact room_d (by assumption) | exact room_f (by assumption) (by decide) | exact room_a (by assumption) (by decide) | exact room_b (by assumption) (by decide) | exact room_c (by assumption) (by decide) | exact room_e (by assumption) (by decide) | omega | (simp only [depth_deeper] at *; omega))); (case m1 => k_mem); (case m2 => k_mem); (case hi => (first | assumption | omega)); (case hi2 => (first | assumption | omega)); (case hlen => assumption); (case hp => assumption))); intro h' tk' F' N'; (try dsimp only at N'); (try k_sweep)) | ((with_reducible show wpAny _ _ (call (Value.ref 495) _) _ _ _); k_here; k_dflt (apply read_inline_spec; (case B => k_asm); (case F => k_asm); (case X => k_asm); (case N => k_asm); (case T => k_asm); (case hA => first | exact Around.frames_deeper (Below.stack (by k_asm)) | assumption); (case hf => first | exact rfl | assumption); (case hke => first | exact rfl | assumption); (case hh => assumption); (case hdp => (first | assumption | exact room_d (by assumption) | exact room_f (by assumption) (by decide) | exact room_a (by assumption) (by decide) | exact room_b (by assumption) (by decide) | exact room_c (by assumption) (by decide) | exact room_e (by assumption) (by decide) | omega | (simp only [depth_deeper] at *; omega))); (case m1 => k_mem); (case m2 => k_mem); (case hi => (first | assumption | omega)); (case hi2 => (first | assumption | omega)); (case hlen => assumption); (case hG => assumption)); intro h' tk' F' N'; (try dsimp only at N'); (try k_sweep)) | ((with_reducible show wpAny _ _ (call (Value.ref 483) _) _ _ _); k_here; k_dflt (apply skip_unseen_spec; (case B => k_asm); (case F => k_asm); (case X => k_asm); (case N => k_asm); (case T => k_asm); (case hA => first | exact Around.frames_deeper (Below.stack (by k_asm)) | assumption); (case hf => first | exact rfl | assumption); (case hke => first | exact rfl | assumption); (case hh => assumption); (case hdp => (first | assumption | exact room_d (by assumption) | exact room_f (by assumption) (by decide) | exact room_a (by assumption) (by decide) | exact room_b (by assumption) (by decide) | exact room_c (by assumption) (by decide) | exact room_e (by assumption) (by decide) | omega | (simp only [depth_deeper] at *; omega))); (case m1 => k_mem); (case m2 => k_mem); (case hi => (first | assumption | omega)); (case hi2 => (first | assumption | omega)); (case hlen => assumption); (case hG => assumption)); intro h' tk' F' N'; (try dsimp only at N'); (try k_sweep)) | ((with_reducible show wpAny _ _ (call (Value.ref 270) _) _ _ _); k_here; k_dflt (apply skips_yes; (case B => k_asm); (case F => k_asm); (case X => k_asm); (case N => k_asm); (case T => k_asm); (case hA => first | exact Around.frames_deeper (Below.stack (by k_asm)) | assumption); (case hf => first | exact rfl | assumption); (case hke => first | exact rfl | assumption); (case hh => assumption); (case hdp => (first | assumption | exact room_d (by assumption) | exact room_f (by assumption) (by decide) | exact room_a (by assumption) (by decide) | exact room_b (by assumption) (by decide) | exact room_c (by assumption) (by decide) | exact room_e (by assumption) (by decide) | omega | (simp only [depth_deeper] at *; omega))); (case m1 => k_mem); (case U => k_updF); (case hi => (first | assumption | omega)); (case hi2 => (first | assumption | omega)); (case hlen => assumption); (case hw => decide +kernel); (case hs => assumption)); intro t' h' tk' F' N'; (try dsimp only at N'); (try k_sweep)) | ((with_reducible show wpAny _ _ (call (Value.ref 270) _) _ _ _); k_here; k_dflt (apply skips_no; (case B => k_asm); (case F => k_asm); (case X => k_asm); (case N => k_asm); (case T => k_asm); (case hA => first | exact Around.frames_deeper (Below.stack (by k_asm)) | assumption); (case hf => first | exact rfl | assumption); (case hke => first | exact rfl | assumption); (case hh => assumption); (case hdp => (first | assumption | exact room_d (by assumption) | exact room_f (by assumption) (by decide) | exact room_a (by assumption) (by decide) | exact room_b (by assumption) (by decide) | exact room_c (by assumption) (by decide) | exact room_e (by assumption) (by decide) | omega | (simp only [depth_deeper] at *; omega))); (case m1 => k_mem); (case m2 => k_mem); (case hi => (first | assumption | omega)); (case hi2 => (first | assumption | omega)); (case hlen => assumption); (case hw => decide +kernel); (case hs => first | assumption | exact slice_good_ne (by assumption) (by omega) (by omega) (by decide +kernel))); intro h' tk' F' N'; (try dsimp only at N'); (try k_sweep)) | ((with_reducible show wpAny _ _ (call (Value.ref 263) _) _ _ _); k_here; k_dflt (apply peek_is; (case B => k_asm); (case F => k_asm); (case X => k_asm); (case N => k_asm); (case T => k_asm); (case hA => first | exact Around.frames_deeper (Below.stack (by k_asm)) | assumption); (case hf => first | exact rfl | assumption); (case hke => first | exact rfl | assumption); (case hh => assumption); (case hdp => (first | assumption | exact room_d (by assumption) | exact room_f (by assumption) (by decide) | exact room_a (by assumption) (by decide) | exact room_b (by assumption) (by decide) | exact room_c (by assumption) (by decide) | exact room_e (by assumption) (by decide) | omega | (simp only [depth_deeper] at *; omega))); (case m1 => k_mem); (case m2 => k_mem); (case hi => (first | assumption | omega)); (case hlen => assumption); (case hp => assumption)); intro t' h' tk' F' N'; (try k_sweep)) | (k_unfold; (try dsimp only)) | (k_end; wrow_close) | walk1 | (dsimp only; walk1) | (leave1; walk_say "STEP leave1"; try dsimp only) | fail "no step"))
  rename Fr g L' _ _ => Fe
  rename Fr h₀ L _ m => kF
  rename News h₀ L _ [_, _] => kN
  exact hret _ _ kF (after0 N hin (hK.trans Fe.keep) kN)

theorem read_counted_any {tf : Tok} {v : Value}
  (B : Below A₀ base outer h₀) (F : Fr h₀ L s.heap m) (X : (pre.heap_1 w.params).In h₀) (N : News h₀ L s.heap news) (T : Top vw lo mean mg mb h₀) (hA : A.frames = some (env :: outer)) (hf : env.frame = some L) (hke : env.scope.kind = .function) (hh : A.handled = none)
  (hdp : A.depth + 3 < recursionLimit)
  (m1 : (x, instObj 273 dx) ∈ news) (m2 : (dx, dictOf (ptE h1 h2 h3 h4 h5 h6 h7 k1 k2 k3 k4 k5 k6 k7 (.str txt t1) v2 (.int i t3) v4 v5 v6 v7) 7) ∈ news)
  (hi : 0 ≤ i) (hi2 : i ≤ 100) (hlen : txt.length ≤ 100) (hG : Good txt) (hp : NextOk txt i)
  (hret : ∀ h' tk', Fr h₀ L h' m → News h₀ L h' news → Q v { s with heap := h', toks := tk' }) :
  wpAny (model PySem.Challenge.rw_qz0116_01.row.toRowW.1 w) A (call (.ref 523) [.ref x, .str (Str.ofString "") tf, v]) Q E s := by
  rcases hp with hp | hp | hp | hp | hp | hp
  · exact read_counted_o B F X N T hA hf hke hh hdp m1 m2 hi hi2 hlen hG hp hret
  · exact read_counted_c B F X N T hA hf hke hh hdp m1 m2 hi hi2 hlen hG hp hret
  · exact read_counted_a B F X N T hA hf hke hh hdp m1 m2 hi hi2 hlen hG hp hret
  · exact read_counted_b B F X N T hA hf hke hh hdp m1 m2 hi hi2 hlen hG hp hret
  · exact read_counted_d B F X N T hA hf hke hh hdp m1 m2 hi hi2 hlen hG hp hret
  · exact read_counted_e B F X N T hA hf hke hh hdp m1 m2 hi hi2 hlen hG hp hret
end

end Mine
end
local macro_rules | `(tactic| k_all) => `(tactic| first | assumption | exact lt_all (by assumption) | exact off_ne (by assumption) (by k_mem) | exact off_ne (off_tail (by assumption)) (by k_mem) | (refine List.forall_mem_append.mpr ⟨?aa, ?bb⟩; (case aa => k_all); (case bb => k_all)))
-- S4
section
open PySem PySem.W PyProof.Rows PySem.Calls PySem.Spec
namespace Mine
section
variable {w : World} {vw : Program} {lo : List Str} {mean : ExcName → Option Value} {mg mb : Str → Option Value} {A₀ A : Around} {base h₀ : Heap} {env : Env} {outer : List Env} {L : Addr} {m : Str → Option Value} {s : Shared} {Q E : Value → Shared → Prop} {news : List (Addr × Obj)}
  {x dx : Addr} {txt : Str} {t1 t3 t4 t5 : Tok} {i gn dn : Int} {h1 h2 h3 h4 h5 h6 h7 : Int} {k1 k2 k3 k4 k5 k6 k7 : Tok} {v2 v4 v5 v6 v7 : Value}
theorem read_atom_a {tf : Tok} {gg : Obj → List (Addr × Obj)}
  (B : Below A₀ base outer h₀) (F : Fr h₀ L s.heap m) (X : (pre.heap_1 w.params).In h₀) (N : News h₀ L s.heap news) (T : Top vw lo mean mg mb h₀) (hA : A.frames = some (env :: outer)) (hf : env.frame = some L) (hke : env.scope.kind = .function) (hh : A.handled = none)
  (hdp : A.depth + 3 < recursionLimit)
  (m1 : (x, instObj 273 dx) ∈ news) (U : UpdF dx (dictOf (ptE h1 h2 h3 h4 h5 h6 h7 k1 k2 k3 k4 k5 k6 k7 (.str txt t1) v2 (.int i t3) v4 v5 v6 v7) 7) news gg)
  (hi : 0 ≤ i) (hi2 : i ≤ 100) (hlen : txt.length ≤ 100) (hG : Good txt) (hp : Txt.slice txt (some i) (some (i + 1)) = Str.ofString "a")
  (hret : ∀ v tl t h' tk', Fr h₀ L h' m → News h₀ L h' (gg (dictOf (ptE h1 h2 h3 h4 h5 h6 h7 k1 k2 k3 k4 k5 k6 k7 (.str txt t1) v2 (.int (i + 1) t) v4 v5 v6 v7) 7) ++ tl) → Off tl news → (∀ c, NodesIn tl [v] (.sign c .nil)) → Q v { s with heap := h', toks := tk' }) :
  wpAny (model PySem.Challenge.rw_qz0116_01.row.toRowW.1 w) A (call (.ref 516) [.ref x, .str (Str.ofString "") tf]) Q E s := by
  refine wpAny_call ?_
  have m2 := UpdF.mem U
  have hin := in2 m1 m2
  have N2 := News.sub N hin
  have hne := inst_ne N m1 m2
  (k_dflt (refine' enterS B F X N2 T ?kA hf hke ?k6 ?k7 ?k8 ?k9 ?kB ?_ ?c2 ?c3 ?c4 ?c5; (case kA => exact hA); (case k6 => k_is); (case k7 => k_is); (case k8 => (first | assumption | exact room_d (by assumption) | exact room_f (by assumption) (by decide) | exact room_a (by assumption) (by decide) | exact room_b (by assumption) (by decide) | exact room_c (by assumption) (by decide) | exact room_e (by assumption) (by decide) | omega | (simp only [depth_deeper] at *; omega))); (case k9 => exact BindsTo.of_eq rfl); (case c5 => decide); (case kB => exact locs rfl); (case c2 => exact rfl); (case c3 => exact rfl); (case c4 => exact rfl)))
  intro g L' hq FG F' N' B' X' T' l1 hK hS hL
  (try k_lt l1)
  (try dsimp only); (try k_fold)
  (repeat' (first | ((with_reducible show wpAny _ _ (call (Value.ref 434) _) _ _ _); k_here; k_dflt (first | (apply take_count_o; (case B => k_asm); (case F => k_asm); (case X => k_asm); (case N => k_asm); (case T => k_asm); (case hA => first | exact Around.frames_deeper (Below.stack (by k_asm)) | assumption); (case hf => first | exact rfl | assumption); (case hke => first | exact rfl | assumption); (case hh => assumption); (case hdp => (first | assumption | exact room_d (by assumption) | exact room_f (by assumption) (by decide) | exact room_a (by assumption) (by decide) | exact room_b (by assumption) (by decide) | exact room_c (by assumption) (by decide) | exact room_e (by assumption) (by decide) | omega | (simp only [depth_deeper] at *; omega))); (case m1 => k_mem); (case m2 => k_mem); (case hi => (first | assumption | omega)); (case hi2 => (first | assumption | omega)); (case hlen => assumption); (case hp => assumption)) | (apply take_count_c; (case B => k_asm); (case F => k_asm); (case X => k_asm); (case N => k_asm); (case T => k_asm); (case hA => first | exact Around.frames_deeper (Below.stack (by k_asm)) | assumption); (case hf => first | exact rfl | assumption); (case hke => first | exact rfl | assumption); (case hh => assumption); (case hdp => (first | assumption | exact room_d (by assumption) | exact room_f (by assumption) (by decide) | exact room_a (by assumption) (by decide) | exact room_b (by assumption) (by decide) | exact room_c (by assumption) (by decide) | exact room_e (by assumption) (by decide) | omega | (simp only [depth_deeper] at *; omega))); (case m1 => k_mem); (case m2 => k_mem); (case hi => (first | assumption | omega)); (case hi2 => (first | assumption | omega)); (case hlen => assumption); (case hp => assumption)) | (apply take_count_a; (case B => k_asm); (case F => k_asm); (case X => k_asm); (case N => k_asm); (case T => k_asm); (case hA => first | exact Around.frames_deeper (Below.stack (by k_asm)) | assumption); (case hf => first | exact rfl | assumption); (case hke => first | exact rfl | assumption); (case hh => assumption); (case hdp => (first | assumption | exact room_d (by assumption) | exact room_f (by assumption) (by decide) | exact room_a (by assumption) (by decide) | exact room_b (by assumption) (by decide) | exact room_c (by assumption) (by decide) | exact room_e (by assumption) (by decide) | omega | (simp only [depth_deeper] at *; omega))); (case m1 => k_mem); (case m2 => k_mem); (case hi => (first | assumption | omega)); (case hi2 => (first | assumption | omega)); (case hlen => assumption); (case hp => assumption)) | (apply take_count_b; (case B => k_asm); (case F => k_asm); (case X => k_asm); (case N => k_asm); (case T => k_asm); (case hA => first | exact Around.frames_deeper (Below.stack (by k_asm)) | assumption); (case hf => first | exact rfl | assumption); (case hke => first | exact rfl | assumption); (case hh => assumption); (case hdp => (first | assumption | exact room_d (by assumption) | exact room_f (by assumption) (by decide) | exact room_a (by assumption) (by decide) | exact room_b (by assumption) (by decide) | exact room_c (by assumption) (by decide) | exact room_e (by assumption) (by decide) | omega | (simp only [depth_deeper] at *; omega))); (case m1 => k_mem); (case m2 => k_mem); (case hi => (first | assumption | omega)); (case hi2 => (first | assumption | omega)); (case hlen => assumption); (case hp => assumption)) | (apply take_count_d; (case B => k_asm); (case F => k_asm); (case X => k_asm); (case N => k_asm); (case T => k_asm); (case hA => first | exact Around.frames_deeper (Below.stack (by k_asm)) | assumption); (case hf => first | exact rfl | assumption); (case hke => first | exact rfl | assumption); (case hh => assumption); (case hdp => (first | assumption | exact room_d (by assumption) | exact room_f (by assumption) (by decide) | exact room_a (by assumption) (by decide) | exact room_b (by assumption) (by decide) | exact room_c (by assumption) (by decide) | exact room_e (by assumption) (by decide) | omega | (simp only [depth_deeper] at *; omega))); (case m1 => k_mem); (case m2 => k_mem); (case hi => (first | assumption | omega)); (case hi2 => (first | assumption | omega)); (case hlen => assumption); (case hp => assumption)) | (apply take_count_e; (case B => k_asm); (case F => k_asm); (case X => k_asm); (case N => k_asm); (case T => k_asm); (case hA => first | exact Around.frames_deeper (Below.stack (by k_asm)) | assumption); (case hf => first | exact rfl | assumption); (case hke => first | exact rfl | assumption); (case hh => assumption); (case hdp => (first | assumption | exact room_d (by assumption) | exact room_f (by assumption) (by decide) | exact room_a (by assumption) (by decide) | exact room_b (by assumption) (by decide) | exact room_c (by assumption) (by decide) | exact room_e (by assumption) (by decide) | omega | (simp only [depth_deeper] at *; omega))); (case m1 => k_mem); (case m2 => k_mem); (case hi => (first | assumption | omega)); (case hi2 => (first | assumption | omega)); (case hlen => assumption); (case hp => assumption))); intro h' tk' F' N'; (try dsimp only at N'); (try k_sweep)) | ((with_reducible show wpAny _ _ (call (Value.ref 495) _) _ _ _); k_here; k_dflt (apply read_inline_spec; (case B => k_asm); (case F => k_asm); (case X => k_asm); (case N => k_asm); (case T => k_asm); (case hA => first | exact Around.frames_deeper (Below.stack (by k_asm)) | assumption); (case hf => first | exact rfl | assumption); (case hke => first | exact rfl | assumption); (case hh => assumption); (case hdp => (first | assumption | exact room_d (by assumption) | exact room_f (by assumption) (by decide) | exact room_a (by assumption) (by decide) | exact room_b (by assumption) (by decide) | exact room_c (by assumption) (by decide) | exact room_e (by assumption) (by decide) | omega | (simp only [depth_deeper] at *; omega))); (case m1 => k_mem); (case m2 => k_mem); (case hi => (first | assumption | omega)); (case hi2 => (first | assumption | omega)); (case hlen => assumption); (case hG => assumption)); intro h' tk' F' N'; (try dsimp only at N'); (try k_sweep)) | ((with_reducible show wpAny _ _ (call (Value.ref 483) _) _ _ _); k_here; k_dflt (apply skip_unseen_spec; (case B => k_asm); (case F => k_asm); (case X => k_asm); (case N => k_asm); (case T => k_asm); (case hA => first | exact Around.frames_deeper (Below.stack (by k_asm)) | assumption); (case hf => first | exact rfl | assumption); (case hke => first | exact rfl | assumption); (case hh => assumption); (case hdp => (first | assumption | exact room_d (by assumption) | exact room_f (by assumption) (by decide) | exact room_a (by assumption) (by decide) | exact room_b (by assumption) (by decide) | exact room_c (by assumption) (by decide) | exact room_e (by assumption) (by decide) | omega | (simp only [depth_deeper] at *; omega))); (case m1 => k_mem); (case m2 => k_mem); (case hi => (first | assumption | omega)); (case hi2 => (first | assumption | omega)); (case hlen => assumption); (case hG => assumption)); intro h' tk' F' N'; (try dsimp only at N'); (try k_sweep)) | ((with_reducible show wpAny _ _ (call (Value.ref 270) _) _ _ _); k_here; k_dflt (apply skips_yes; (case B => k_asm); (case F => k_asm); (case X => k_asm); (case N => k_asm); (case T => k_asm); (case hA => first | exact Around.frames_deeper (Below.stack (by k_asm)) | assumption); (case hf => first | exact rfl | assumption); (case hke => first | exact rfl | assumption); (case hh => assumption); (case hdp => (first | assumption | exact room_d (by assumption) | exact room_f (by assumption) (by decide) | exact room_a (by assumption) (by decide) | exact room_b (by assumption) (by decide) | exact room_c (by assumption) (by decide) | exact room_e (by assumption) (by decide) | omega | (simp only [depth_deeper] at *; omega))); (case m1 => k_mem); (case U => k_updF); (case hi => (first | assumption | omega)); (case hi2 => (first | assumption | omega)); (case hlen => assumption); (case hw => decide +kernel); (case hs => assumption)); intro t' h' tk' F' N'; (try dsimp only at N'); (try k_sweep)) | ((with_reducible show wpAny _ _ (call (Value.ref 270) _) _ _ _); k_here; k_dflt (apply skips_no; (case B => k_asm); (case F => k_asm); (case X => k_asm); (case N => k_asm); (case T => k_asm); (case hA => first | exact Around.frames_deeper (Below.stack (by k_asm)) | assumption); (case hf => first | exact rfl | assumption); (case hke => first | exact rfl | assumption); (case hh => assumption); (case hdp => (first | assumption | exact room_d (by assumption) | exact room_f (by assumption) (by decide) | exact room_a (by assumption) (by decide) | exact room_b (by assumption) (by decide) | exact room_c (by assumption) (by decide) | exact room_e (by assumption) (by decide) | omega | (simp only [depth_deeper] at *; omega))); (case m1 => k_mem); (case m2 => k_mem); (case hi => (first | assumption | omega)); (case hi2 => (first | assumption | omega)); (case hlen => assumption); (case hw => decide +kernel); (case hs => first | assumption | exact slice_good_ne (by assumption) (by omega) (by omega) (by decide +kernel))); intro h' tk' F' N'; (try dsimp only at N'); (try k_sweep)) | ((with_reducible show wpAny _ _ (call (Value.ref 263) _) _ _ _); k_here; k_dflt (apply peek_is; (case B => k_asm); (case F => k_asm); (case X => k_asm); (case N => k_asm); (case T => k_asm); (case hA => first | exact Around.frames_deeper (Below.stack (by k_asm)) | assumption); (case hf => first | exact rfl | assumption); (case hke => first | exact rfl | assumption); (case hh => assumption); (case hdp => (first | assumption | exact room_d (by assumption) | exact room_f (by assumption) (by decide) | exact room_a (by assumption) (by decide) | exact room_b (by assumption) (by decide) | exact room_c (by assumption) (by decide) | exact room_e (by assumption) (by decide) | omega | (simp only [depth_deeper] at *; omega))); (case m1 => k_mem); (case m2 => k_mem); (case hi => (first | assumption | omega)); (case hlen => assumption); (case hp => assumption)); intro t' h' tk' F' N'; (try k_sweep)) | (k_unfold; (try dsimp only)) | (k_end; wrow_close) | walk1 | (dsimp only; walk1) | (leave1; walk_say "STEP leave1"; try dsimp only) | fail "no step"))
  rename Fr g L' _ _ => Fe
  rename News g L' _ _ => Ne
  rename Fr h₀ L _ m => kF
  rename News h₀ L _ (_ :: _) => kN
  obtain ⟨z1, z2⟩ := back (tl := [(_, tupO [_, _, _])]) N U m1 hK Fe Ne kN (by kcj_in) (by k_all) (by k_all)
  exact hret _ _ _ _ _ kF z1 z2 fun c => .sign (.head _) .nil
theorem read_atom_b {tf : Tok} {gg : Obj → List (Addr × Obj)}
  (B : Below A₀ base outer h₀) (F : Fr h₀ L s.heap m) (X : (pre.heap_1 w.params).In h₀) (N : News h₀ L s.heap news) (T : Top vw lo mean mg mb h₀) (hA : A.frames = some (env :: outer)) (hf : env.frame = some L) (hke : env.scope.kind = .function) (hh : A.handled = none)
  (hdp : A.depth + 3 < recursionLimit)
  (m1 : (x, instObj 273 dx) ∈ news) (U : UpdF dx (dictOf (ptE h1 h2 h3 h4 h5 h6 h7 k1 k2 k3 k4 k5 k6 k7 (.str txt t1) v2 (.int i t3) v4 v5 v6 v7) 7) news gg)
  (hi : 0 ≤ i) (hi2 : i ≤ 100) (hlen : txt.length ≤ 100) (hG : Good txt) (hp : Txt.slice txt (some i) (some (i + 1)) = Str.ofString "b")
  (hret : ∀ v tl t h' tk', Fr h₀ L h' m → News h₀ L h' (gg (dictOf (ptE h1 h2 h3 h4 h5 h6 h7 k1 k2 k3 k4 k5 k6 k7 (.str txt t1) v2 (.int (i + 1) t) v4 v5 v6 v7) 7) ++ tl) → Off tl news → (∀ c, NodesIn tl [v] (.sign c .nil)) → Q v { s with heap := h', toks := tk' }) :
  wpAny (model PySem.Challenge.rw_qz0116_01.row.toRowW.1 w) A (call (.ref 516) [.ref x, .str (Str.ofString "") tf]) Q E s := by
  refine wpAny_call ?_
  have m2 := UpdF.mem U
  have hin := in2 m1 m2
  have N2 := News.sub N hin
  have hne := inst_ne N m1 m2
  (k_dflt (refine' enterS B F X N2 T ?kA hf hke ?k6 ?k7 ?k8 ?k9 ?kB ?_ ?c2 ?c3 ?c4 ?c5; (case kA => exact hA); (case k6 => k_is); (case k7 => k_is); (case k8 => (first | assumption | exact room_d (by assumption) | exact room_f (by assumption) (by decide) | exact room_a (by assumption) (by decide) | exact room_b (by assumption) (by decide) | exact room_c (by assumption) (by decide) | exact room_e (by assumption) (by decide) | omega | (simp only [depth_deeper] at *; omega))); (case k9 => exact BindsTo.of_eq rfl); (case c5 => decide); (case kB => exact locs rfl); (case c2 => exact rfl); (case c3 => exact rfl); (case c4 => exact rfl)))
  intro g L' hq FG F' N' B' X' T' l1 hK hS hL
  (try k_lt l1)
  (try dsimp only); (try k_fold)
  (repeat' (first | ((with_reducible show wpAny _ _ (call (Value.ref 434) _) _ _ _); k_here; k_dflt (first | (apply take_count_o; (case B => k_asm); (case F => k_asm); (case X => k_asm); (case N => k_asm); (case T => k_asm); (case hA => first | exact Around.frames_deeper (Below.stack (by k_asm)) | assumption); (case hf => first | exact rfl | assumption); (case hke => first | exact rfl | assumption); (case hh => assumption); (case hdp => (first | assumption | exact room_d (by assumption) | exact room_f (by assumption) (by decide) | exact room_a (by assumption) (by decide) | exact room_b (by assumption) (by decide) | exact room_c (by assumption) (by decide) | exact room_e (by assumption) (by decide) | omega | (simp only [depth_deeper] at *; omega))); (case m1 => k_mem); (case m2 => k_mem); (case hi => (first | assumption | omega)); (case hi2 => (first | assumption | omega)); (case hlen => assumption); (case hp => assumption)) | (apply take_count_c; (case B => k_asm); (case F => k_asm); (case X => k_asm); (case N => k_asm); (case T => k_asm); (case hA => first | exact Around.frames_deeper (Below.stack (by k_asm)) | assumption); (case hf => first | exact rfl | assumption); (case hke => first | exact rfl | assumption); (case hh => assumption); (case hdp => (first | assumption | exact room_d (by assumption) | exact room_f (by assumption) (by decide) | exact room_a (by assumption) (by decide) | exact room_b (by assumption) (by decide) | exact room_c (by assumption) (by decide) | exact room_e (by assumption) (by decide) | omega | (simp only [depth_deeper] at *; omega))); (case m1 => k_mem); (case m2 => k_mem); (case hi => (first | assumption | omega)); (case hi2 => (first | assumption | omega)); (case hlen => assumption); (case hp => assumption)) | (apply take_count_a; (case B => k_asm); (case F => k_asm); (case X => k_asm); (case N => k_asm); (case T => k_asm); (case hA => first | exact Around.frames_deeper (Below.stack (by k_asm)) | assumption); (case hf => first | exact rfl | assumption); (case hke => first | exact rfl | assumption); (case hh => assumption); (case hdp => (first | assumption | exact room_d (by assumption) | exact room_f (by assumption) (by decide) | exact room_a (by assumption) (by decide) | exact room_b (by assumption) (by decide) | exact room_c (by assumption) (by decide) | exact room_e (by assumption) (by decide) | omega | (simp only [depth_deeper] at *; omega))); (case m1 => k_mem); (case m2 => k_mem); (case hi => (first | assumption | omega)); (case hi2 => (first | assumption | omega)); (case hlen => assumption); (case hp => assumption)) | (apply take_count_b; (case B => k_asm); (case F => k_asm); (case X => k_asm); (case N => k_asm); (case T => k_asm); (case hA => first | exact Around.frames_deeper (Below.stack (by k_asm)) | assumption); (case hf => first | exact rfl | assumption); (case hke => first | exact rfl | assumption); (case hh => assumption); (case hdp => (first | assumption | exact room_d (by assumption) | exact room_f (by assumption) (by decide) | exact room_a (by assumption) (by decide) | exact room_b (by assumption) (by decide) | exact room_c (by assumption) (by decide) | exact room_e (by assumption) (by decide) | omega | (simp only [depth_deeper] at *; omega))); (case m1 => k_mem); (case m2 => k_mem); (case hi => (first | assumption | omega)); (case hi2 => (first | assumption | omega)); (case hlen => assumption); (case hp => assumption)) | (apply take_count_d; (case B => k_asm); (case F => k_asm); (case X => k_asm); (case N => k_asm); (case T => k_asm); (case hA => first | exact Around.frames_deeper (Below.stack (by k_asm)) | assumption); (case hf => first | exact rfl | assumption); (case hke => first | exact rfl | assumption); (case hh => assumption); (case hdp => (first | assumption | exact room_d (by assumption) | exact room_f (by assumption) (by decide) | exact room_a (by assumption) (by decide) | exact room_b (by assumption) (by decide) | exact room_c (by assumption) (by decide) | exact room_e (by assumption) (by decide) | omega | (simp only [depth_deeper] at *; omega))); (case m1 => k_mem); (case m2 => k_mem); (case hi => (first | assumption | omega)); (case hi2 => (first | assumption | omega)); (case hlen => assumption); (case hp => assumption)) | (apply take_count_e; (case B => k_asm); (case F => k_asm); (case X => k_asm); (case N => k_asm); (case T => k_asm); (case hA => first | exact Around.frames_deeper (Below.stack (by k_asm)) | assumption); (case hf => first | exact rfl | assumption); (case hke => first | exact rfl | assumption); (case hh => assumption); (case hdp => (first | assumption | exact room_d (by assumption) | exact room_f (by assumption) (by decide) | exact room_a (by assumption) (by decide) | exact room_b (by assumption) (by decide) | exact room_c (by assumption) (by decide) | exact room_e (by assumption) (by decide) | omega | (simp only [depth_deeper] at *; omega))); (case m1 => k_mem); (case m2 => k_mem); (case hi => (first | assumption | omega)); (case hi2 => (first | assumption | omega)); (case hlen => assumption); (case hp => assumption))); intro h' tk' F' N'; (try dsimp only at N'); (try k_sweep)) | ((with_reducible show wpAny _ _ (call (Value.ref 495) _) _ _ _); k_here; k_dflt (apply read_inline_spec; (case B => k_asm); (case F => k_asm); (case X => k_asm); (case N => k_asm); (case T => k_asm); (case hA => first | exact Around.frames_deeper (Below.stack (by k_asm)) | assumption); (case hf => first | exact rfl | assumption); (case hke => first | exact rfl | assumption); (case hh => assumption); (case hdp => (first | assumption | exact room_d (by assumption) | exact room_f (by assumption) (by decide) | exact room_a (by assumption) (by decide) | exact room_b (by assumption) (by decide) | exact room_c (by assumption) (by decide) | exact room_e (by assumption) (by decide) | omega | (simp only [depth_deeper] at *; omega))); (case m1 => k_mem); (case m2 => k_mem); (case hi => (first | assumption | omega)); (case hi2 => (first | assumption | omega)); (case hlen => assumption); (case hG => assumption)); intro h' tk' F' N'; (try dsimp only at N'); (try k_sweep)) | ((with_reducible show wpAny _ _ (call (Value.ref 483) _) _ _ _); k_here; k_dflt (apply skip_unseen_spec; (case B => k_asm); (case F => k_asm); (case X => k_asm); (case N => k_asm); (case T => k_asm); (case hA => first | exact Around.frames_deeper (Below.stack (by k_asm)) | assumption); (case hf => first | exact rfl | assumption); (case hke => first | exact rfl | assumption); (case hh => assumption); (case hdp => (first | assumption | exact room_d (by assumption) | exact room_f (by assumption) (by decide) | exact room_a (by assumption) (by decide) | exact room_b (by assumption) (by decide) | exact room_c (by assumption) (by decide) | exact room_e (by assumption) (by decide) | omega | (simp only [depth_deeper] at *; omega))); (case m1 => k_mem); (case m2 => k_mem); (case hi => (first | assumption | omega)); (case hi2 => (first | assumption | omega)); (case hlen => assumption); (case hG => assumption)); intro h' tk' F' N'; (try dsimp only at N'); (try k_sweep)) | ((with_reducible show wpAny _ _ (call (Value.ref 270) _) _ _ _); k_here; k_dflt (apply skips_yes; (case B => k_asm); (case F => k_asm); (case X => k_asm); (case N => k_asm); (case T => k_asm); (case hA => first | exact Around.frames_deeper (Below.stack (by k_asm)) | assumption); (case hf => first | exact rfl | assumption); (case hke => first | exact rfl | assumption); (case hh => assumption); (case hdp => (first | assumption | exact room_d (by assumption) | exact room_f (by assumption) (by decide) | exact room_a (by assumption) (by decide) | exact room_b (by assumption) (by decide) | exact room_c (by assumption) (by decide) | exact room_e (by assumption) (by decide) | omega | (simp only [depth_deeper] at *; omega))); (case m1 => k_mem); (case U => k_updF); (case hi => (first | assumption | omega)); (case hi2 => (first | assumption | omega)); (case hlen => assumption); (case hw => decide +kernel); (case hs => assumption)); intro t' h' tk' F' N'; (try dsimp only at N'); (try k_sweep)) | ((with_reducible show wpAny _ _ (call (Value.ref 270) _) _ _ _); k_here; k_dflt (apply skips_no; (case B => k_asm); (case F => k_asm); (case X => k_asm); (case N => k_asm); (case T => k_asm); (case hA => first | exact Around.frames_deeper (Below.stack (by k_asm)) | assumption); (case hf => first | exact rfl | assumption); (case hke => first | exact rfl | assumption); (case hh => assumption); (case hdp => (first | assumption | exact room_d (by assumption) | exact room_f (by assumption) (by decide) | exact room_a (by assumption) (by decide) | exact room_b (by assumption) (by decide) | exact room_c (by assumption) (by decide) | exact room_e (by assumption) (by decide) | omega | (simp only [depth_deeper] at *; omega))); (case m1 => k_mem); (case m2 => k_mem); (case hi => (first | assumption | omega)); (case hi2 => (first | assumption | omega)); (case hlen => assumption); (case hw => decide +kernel); (case hs => first | assumption | exact slice_good_ne (by assumption) (by omega) (by omega) (by decide +kernel))); intro h' tk' F' N'; (try dsimp only at N'); (try k_sweep)) | ((with_reducible show wpAny _ _ (call (Value.ref 263) _) _ _ _); k_here; k_dflt (apply peek_is; (case B => k_asm); (case F => k_asm); (case X => k_asm); (case N => k_asm); (case T => k_asm); (case hA => first | exact Around.frames_deeper (Below.stack (by k_asm)) | assumption); (case hf => first | exact rfl | assumption); (case hke => first | exact rfl | assumption); (case hh => assumption); (case hdp => (first | assumption | exact room_d (by assumption) | exact room_f (by assumption) (by decide) | exact room_a (by assumption) (by decide) | exact room_b (by assumption) (by decide) | exact room_c (by assumption) (by decide) | exact room_e (by assumption) (by decide) | omega | (simp only [depth_deeper] at *; omega))); (case m1 => k_mem); (case m2 => k_mem); (case hi => (first | assumption | omega)); (case hlen => assumption); (case hp => assumption)); intro t' h' tk' F' N'; (try k_sweep)) | (k_unfold; (try dsimp only)) | (k_end; wrow_close) | walk1 | (dsimp only; walk1) | (leave1; walk_say "STEP leave1"; try dsimp only) | fail "no step"))
  rename Fr g L' _ _ => Fe
  rename News g L' _ _ => Ne
  rename Fr h₀ L _ m => kF
  rename News h₀ L _ (_ :: _) => kN
  obtain ⟨z1, z2⟩ := back (tl := [(_, tupO [_, _, _])]) N U m1 hK Fe Ne kN (by kcj_in) (by k_all) (by k_all)
  exact hret _ _ _ _ _ kF z1 z2 fun c => .sign (.head _) .nil
theorem read_atom_d {tf : Tok} {gg : Obj → List (Addr × Obj)}
  (B : Below A₀ base outer h₀) (F : Fr h₀ L s.heap m) (X : (pre.heap_1 w.params).In h₀) (N : News h₀ L s.heap news) (T : Top vw lo mean mg mb h₀) (hA : A.frames = some (env :: outer)) (hf : env.frame = some L) (hke : env.scope.kind = .function) (hh : A.handled = none)
  (hdp : A.depth + 3 < recursionLimit)
  (m1 : (x, instObj 273 dx) ∈ news) (U : UpdF dx (dictOf (ptE h1 h2 h3 h4 h5 h6 h7 k1 k2 k3 k4 k5 k6 k7 (.str txt t1) v2 (.int i t3) v4 v5 v6 v7) 7) news gg)
  (hi : 0 ≤ i) (hi2 : i ≤ 100) (hlen : txt.length ≤ 100) (hG : Good txt) (hp : Txt.slice txt (some i) (some (i + 1)) = Str.ofString "c")
  (hret : ∀ v tl t h' tk', Fr h₀ L h' m → News h₀ L h' (gg (dictOf (ptE h1 h2 h3 h4 h5 h6 h7 k1 k2 k3 k4 k5 k6 k7 (.str txt t1) v2 (.int (i + 1) t) v4 v5 v6 v7) 7) ++ tl) → Off tl news → (∀ c, NodesIn tl [v] (.sign c .nil)) → Q v { s with heap := h', toks := tk' }) :
  wpAny (model PySem.Challenge.rw_qz0116_01.row.toRowW.1 w) A (call (.ref 516) [.ref x, .str (Str.ofString "") tf]) Q E s := by
  refine wpAny_call ?_
  have m2 := UpdF.mem U
  have hin := in2 m1 m2
  have N2 := News.sub N hin
  have hne := inst_ne N m1 m2
  (k_dflt (refine' enterS B F X N2 T ?kA hf hke ?k6 ?k7 ?k8 ?k9 ?kB ?_ ?c2 ?c3 ?c4 ?c5; (case kA => exact hA); (case k6 => k_is); (case k7 => k_is); (case k8 => (first | assumption | exact room_d (by assumption) | exact room_f (by assumption) (by decide) | exact room_a (by assumption) (by decide) | exact room_b (by assumption) (by decide) | exact room_c (by assumption) (by decide) | exact room_e (by assumption) (by decide) | omega | (simp only [depth_deeper] at *; omega))); (case k9 => exact BindsTo.of_eq rfl); (case c5 => decide); (case kB => exact locs rfl); (case c2 => exact rfl); (case c3 => exact rfl); (case c4 => exact rfl)))
  intro g L' hq FG F' N' B' X' T' l1 hK hS hL
  (try k_lt l1)
  (try dsimp only); (try k_fold)
  (repeat' (first | ((with_reducible show wpAny _ _ (call (Value.ref 434) _) _ _ _); k_here; k_dflt (first | (apply take_count_o; (case B => k_asm); (case F => k_asm); (case X => k_asm); (case N => k_asm); (case T => k_asm); (case hA => first | exact Around.frames_deeper (Below.stack (by k_asm)) | assumption); (case hf => first | exact rfl | assumption); (case hke => first | exact rfl | assumption); (case hh => assumption); (case hdp => (first | assumption | exact room_d (by assumption) | exact room_f (by assumption) (by decide) | exact room_a (by assumption) (by decide) | exact room_b (by assumption) (by decide) | exact room_c (by assumption) (by decide) | exact room_e (by assumption) (by decide) | omega | (simp only [depth_deeper] at *; omega))); (case m1 => k_mem); (case m2 => k_mem); (case hi => (first | assumption | omega)); (case hi2 => (first | assumption | omega)); (case hlen => assumption); (case hp => assumption)) | (apply take_count_c; (case B => k_asm); (case F => k_asm); (case X => k_asm); (case N => k_asm); (case T => k_asm); (case hA => first | exact Around.frames_deeper (Below.stack (by k_asm)) | assumption); (case hf => first | exact rfl | assumption); (case hke => first | exact rfl | assumption); (case hh => assumption); (case hdp => (first | assumption | exact room_d (by assumption) | exact room_f (by assumption) (by decide) | exact room_a (by assumption) (by decide) | exact room_b (by assumption) (by decide) | exact room_c (by assumption) (by decide) | exact room_e (by assumption) (by decide) | omega | (simp only [depth_deeper] at *; omega))); (case m1 => k_mem); (case m2 => k_mem); (case hi => (first | assumption | omega)); (case hi2 => (first | assumption | omega)); (case hlen => assumption); (case hp => assumption)) | (apply take_count_a; (case B => k_asm); (case F => k_asm); (case X => k_asm); (case N => k_asm); (case T => k_asm); (case hA => first | exact Around.frames_deeper (Below.stack (by k_asm)) | assumption); (case hf => first | exact rfl | assumption); (case hke => first | exact rfl | assumption); (case hh => assumption); (case hdp => (first | assumption | exact room_d (by assumption) | exact room_f (by assumption) (by decide) | exact room_a (by assumption) (by decide) | exact room_b (by assumption) (by decide) | exact room_c (by assumption) (by decide) | exact room_e (by assumption) (by decide) | omega | (simp only [depth_deeper] at *; omega))); (case m1 => k_mem); (case m2 => k_mem); (case hi => (first | assumption | omega)); (case hi2 => (first | assumption | omega)); (case hlen => assumption); (case hp => assumption)) | (apply take_count_b; (case B => k_asm); (case F => k_asm); (case X => k_asm); (case N => k_asm); (case T => k_asm); (case hA => first | exact Around.frames_deeper (Below.stack (by k_asm)) | assumption); (case hf => first | exact rfl | assumption); (case hke => first | exact rfl | assumption); (case hh => assumption); (case hdp => (first | assumption | exact room_d (by assumption) | exact room_f (by assumption) (by decide) | exact room_a (by assumption) (by decide) | exact room_b (by assumption) (by decide) | exact room_c (by assumption) (by decide) | exact room_e (by assumption) (by decide) | omega | (simp only [depth_deeper] at *; omega))); (case m1 => k_mem); (case m2 => k_mem); (case hi => (first | assumption | omega)); (case hi2 => (first | assumption | omega)); (case hlen => assumption); (case hp => assumption)) | (apply take_count_d; (case B => k_asm); (case F => k_asm); (case X => k_asm); (case N => k_asm); (case T => k_asm); (case hA => first | exact Around.frames_deeper (Below.stack (by k_asm)) | assumption); (case hf => first | exact rfl | assumption); (case hke => first | exact rfl | assumption); (case hh => assumption); (case hdp => (first | assumption | exact room_d (by assumption) | exact room_f (by assumption) (by decide) | exact room_a (by assumption) (by decide) | exact room_b (by assumption) (by decide) | exact room_c (by assumption) (by decide) | exact room_e (by assumption) (by decide) | omega | (simp only [depth_deeper] at *; omega))); (case m1 => k_mem); (case m2 => k_mem); (case hi => (first | assumption | omega)); (case hi2 => (first | assumption | omega)); (case hlen => assumption); (case hp => assumption)) | (apply take_count_e; (case B => k_asm); (case F => k_asm); (case X => k_asm); (case N => k_asm); (case T => k_asm); (case hA => first | exact Around.frames_deeper (Below.stack (by k_asm)) | assumption); (case hf => first | exact rfl | assumption); (case hke => first | exact rfl | assumption); (case hh => assumption); (case hdp => (first | assumption | exact room_d (by assumption) | exact room_f (by assumption) (by decide) | exact room_a (by assumption) (by decide) | exact room_b (by assumption) (by decide) | exact room_c (by assumption) (by decide) | exact room_e (by assumption) (by decide) | omega | (simp only [depth_deeper] at *; omega))); (case m1 => k_mem); (case m2 => k_mem); (case hi => (first | assumption | omega)); (case hi2 => (first | assumption | omega)); (case hlen => assumption); (case hp => assumption))); intro h' tk' F' N'; (try dsimp only at N'); (try k_sweep)) | ((with_reducible show wpAny _ _ (call (Value.ref 495) _) _ _ _); k_here; k_dflt (apply read_inline_spec; (case B => k_asm); (case F => k_asm); (case X => k_asm); (case N => k_asm); (case T => k_asm); (case hA => first | exact Around.frames_deeper (Below.stack (by k_asm)) | assumption); (case hf => first | exact rfl | assumption); (case hke => first | exact rfl | assumption); (case hh => assumption); (case hdp => (first | assumption | exact room_d (by assumption) | exact room_f (by assumption) (by decide) | exact room_a (by assumption) (by decide) | exact room_b (by assumption) (by decide) | exact room_c (by assumption) (by decide) | exact room_e (by assumption) (by decide) | omega | (simp only [depth_deeper] at *; omega))); (case m1 => k_mem); (case m2 => k_mem); (case hi => (first | assumption | omega)); (case hi2 => (first | assumption | omega)); (case hlen => assumption); (case hG => assumption)); intro h' tk' F' N'; (try dsimp only at N'); (try k_sweep)) | ((with_reducible show wpAny _ _ (call (Value.ref 483) _) _ _ _); k_here; k_dflt (apply skip_unseen_spec; (case B => k_asm); (case F => k_asm); (case X => k_asm); (case N => k_asm); (case T => k_asm); (case hA => first | exact Around.frames_deeper (Below.stack (by k_asm)) | assumption); (case hf => first | exact rfl | assumption); (case hke => first | exact rfl | assumption); (case hh => assumption); (case hdp => (first | assumption | exact room_d (by assumption) | exact room_f (by assumption) (by decide) | exact room_a (by assumption) (by decide) | exact room_b (by assumption) (by decide) | exact room_c (by assumption) (by decide) | exact room_e (by assumption) (by decide) | omega | (simp only [depth_deeper] at *; omega))); (case m1 => k_mem); (case m2 => k_mem); (case hi => (first | assumption | omega)); (case hi2 => (first | assumption | omega)); (case hlen => assumption); (case hG => assumption)); intro h' tk' F' N'; (try dsimp only at N'); (try k_sweep)) | ((with_reducible show wpAny _ _ (call (Value.ref 270) _) _ _ _); k_here; k_dflt (apply skips_yes; (case B => k_asm); (case F => k_asm); (case X => k_asm); (case N => k_asm); (case T => k_asm); (case hA => first | exact Around.frames_deeper (Below.stack (by k_asm)) | assumption); (case hf => first | exact rfl | assumption); (case hke => first | exact rfl | assumption); (case hh => assumption); (case hdp => (first | assumption | exact room_d (by assumption) | exact room_f (by assumption) (by decide) | exact room_a (by assumption) (by decide) | exact room_b (by assumption) (by decide) | exact room_c (by assumption) (by decide) | exact room_e (by assumption) (by decide) | omega | (simp only [depth_deeper] at *; omega))); (case m1 => k_mem); (case U => k_updF); (case hi => (first | assumption | omega)); (case hi2 => (first | assumption | omega)); (case hlen => assumption); (case hw => decide +kernel); (case hs => assumption)); intro t' h' tk' F' N'; (try dsimp only at N'); (try k_sweep)) | ((with_reducible show wpAny _ _ (call (Value.ref 270) _) _ _ _); k_here; k_dflt (apply skips_no; (case B => k_asm); (case F => k_asm); (case X => k_asm); (case N => k_asm); (case T => k_asm); (case hA => first | exact Around.frames_deeper (Below.stack (by k_asm)) | assumption); (case hf => first | exact rfl | assumption); (case hke => first | exact rfl | assumption); (case hh => assumption); (case hdp => (first | assumption | exact room_d (by assumption) | exact room_f (by assumption) (by decide) | exact room_a (by assumption) (by decide) | exact room_b (by assumption) (by decide) | exact room_c (by assumption) (by decide) | exact room_e (by assumption) (by decide) | omega | (simp only [depth_deeper] at *; omega))); (case m1 => k_mem); (case m2 => k_mem); (case hi => (first | assumption | omega)); (case hi2 => (first | assumption | omega)); (case hlen => assumption); (case hw => decide +kernel); (case hs => first | assumption | exact slice_good_ne (by assumption) (by omega) (by omega) (by decide +kernel))); intro h' tk' F' N'; (try dsimp only at N'); (try k_sweep)) | ((with_reducible show wpAny _ _ (call (Value.ref 263) _) _ _ _); k_here; k_dflt (apply peek_is; (case B => k_asm); (case F => k_asm); (case X => k_asm); (case N => k_asm); (case T => k_asm); (case hA => first | exact Around.frames_deeper (Below.stack (by k_asm)) | assumption); (case hf => first | exact rfl | assumption); (case hke => first | exact rfl | assumption); (case hh => assumption); (case hdp => (first | assumption | exact room_d (by assumption) | exact room_f (by assumption) (by decide) | exact room_a (by assumption) (by decide) | exact room_b (by assumption) (by decide) | exact room_c (by assumption) (by decide) | exact room_e (by assumption) (by decide) | omega | (simp only [depth_deeper] at *; omega))); (case m1 => k_mem); (case m2 => k_mem); (case hi => (first | assumption | omega)); (case hlen => assumption); (case hp => assumption)); intro t' h' tk' F' N'; (try k_sweep)) | (k_unfold; (try dsimp only)) | (k_end; wrow_close) | walk1 | (dsimp only; walk1) | (leave1; walk_say "STEP leave1"; try dsimp only) | fail "no step"))
  rename Fr g L' _ _ => Fe
  rename News g L' _ _ => Ne
  rename Fr h₀ L _ m => kF
  rename News h₀ L _ (_ :: _) => kN
  obtain ⟨z1, z2⟩ := back (tl := [(_, tupO [_, _, _])]) N U m1 hK Fe Ne kN (by kcj_in) (by k_all) (by k_all)
  exact hret _ _ _ _ _ kF z1 z2 fun c => .sign (.head _) .nil

end

end Mine
end
-- S5
section
open PySem PySem.W PyProof.Rows PySem.Calls PySem.Spec
namespace Mine
def AltS (w : World) (p : P) : Prop := ∀ {vw : Program} {lo : List Str} {mean : ExcName → Option Value} {mg mb : Str → Option Value} {A₀ A : Around} {base h₀ : Heap} {env : Env} {outer : List Env} {L : Addr} {m : Str → Option Value} {s : Shared} {Q E : Value → Shared → Prop} {news : List (Addr × Obj)}
  {x dx : Addr} {txt : Str} {t1 t3 t4 t5 : Tok} {i gn dn : Int} {h1 h2 h3 h4 h5 h6 h7 : Int} {k1 k2 k3 k4 k5 k6 k7 : Tok} {v2 v6 v7 : Value} {tf : Tok} {gg : Obj → List (Addr × Obj)} {rest : List Nat}
  (B : Below A₀ base outer h₀) (F : Fr h₀ L s.heap m) (X : (pre.heap_1 w.params).In h₀) (N : News h₀ L s.heap news) (T : Top vw lo mean mg mb h₀) (hA : A.frames = some (env :: outer)) (hf : env.frame = some L) (hke : env.scope.kind = .function) (hh : A.handled = none)
  (hdp : A.depth + (6 * p.ht + 7) < recursionLimit)
  (m1 : (x, instObj 273 dx) ∈ news) (U : UpdF dx (dictOf (ptE h1 h2 h3 h4 h5 h6 h7 k1 k2 k3 k4 k5 k6 k7 (.str txt t1) v2 (.int (i) t3) (.int (gn) t4) (.int (dn) t5) v6 v7) 7) news gg)
  (hi : 0 ≤ i) (hi2 : i ≤ 100) (hlen : txt.length ≤ 100) (hG : Good txt)
  (hd : txt.cps.toList.drop i.toNat = p.print ++ rest) (hr : rest = [] ∨ ∃ r, rest = 41 :: r) (hok : p.ok)
  (hdn : 0 ≤ dn) (hdn2 : dn + p.ht ≤ 40)
  (hret : ∀ v tl t3' t4' t5' h' tk', Fr h₀ L h' m → News h₀ L h' (gg (dictOf (ptE h1 h2 h3 h4 h5 h6 h7 k1 k2 k3 k4 k5 k6 k7 (.str txt t1) v2 (.int (i + (p.print.length : Int)) t3') (.int (gn + (p.ng : Int)) t4') (.int (dn) t5') v6 v7) 7) ++ tl) → Off tl news → SeqIn tl v p → Q v { s with heap := h', toks := tk' }),
  wpAny (model PySem.Challenge.rw_qz0116_01.row.toRowW.1 w) A (call (.ref 502) [.ref x, .str (Str.ofString "") tf]) Q E s
section
variable {w : World} {vw : Program} {lo : List Str} {mean : ExcName → Option Value} {mg mb : Str → Option Value} {A₀ A : Around} {base h₀ : Heap} {env : Env} {outer : List Env} {L : Addr} {m : Str → Option Value} {s : Shared} {Q E : Value → Shared → Prop} {news : List (Addr × Obj)}
  {x dx : Addr} {txt : Str} {t1 t3 t4 t5 : Tok} {i gn dn : Int} {h1 h2 h3 h4 h5 h6 h7 : Int} {k1 k2 k3 k4 k5 k6 k7 : Tok} {v2 v4 v5 v6 v7 : Value}
theorem alt_use {p : P} (H : AltS w p) {tf : Tok} {gg : Obj → List (Addr × Obj)} {rest : List Nat}
  (B : Below A₀ base outer h₀) (F : Fr h₀ L s.heap m) (X : (pre.heap_1 w.params).In h₀) (N : News h₀ L s.heap news) (T : Top vw lo mean mg mb h₀) (hA : A.frames = some (env :: outer)) (hf : env.frame = some L) (hke : env.scope.kind = .function) (hh : A.handled = none)
  (hdp : A.depth + (6 * p.ht + 7) < recursionLimit)
  (m1 : (x, instObj 273 dx) ∈ news) (U : UpdF dx (dictOf (ptE h1 h2 h3 h4 h5 h6 h7 k1 k2 k3 k4 k5 k6 k7 (.str txt t1) v2 (.int (i) t3) (.int (gn) t4) (.int (dn) t5) v6 v7) 7) news gg)
  (hi : 0 ≤ i) (hi2 : i ≤ 100) (hlen : txt.length ≤ 100) (hG : Good txt)
  (hd : txt.cps.toList.drop i.toNat = p.print ++ rest) (hr : rest = [] ∨ ∃ r, rest = 41 :: r) (hok : p.ok)
  (hdn : 0 ≤ dn) (hdn2 : dn + p.ht ≤ 40)
  (hret : ∀ v tl t3' t4' t5' h' tk', Fr h₀ L h' m → News h₀ L h' (gg (dictOf (ptE h1 h2 h3 h4 h5 h6 h7 k1 k2 k3 k4 k5 k6 k7 (.str txt t1) v2 (.int (i + (p.print.length : Int)) t3') (.int (gn + (p.ng : Int)) t4') (.int (dn) t5') v6 v7) 7) ++ tl) → Off tl news → SeqIn tl v p → Q v { s with heap := h', toks := tk' }) :
  wpAny (model PySem.Challenge.rw_qz0116_01.row.toRowW.1 w) A (call (.ref 502) [.ref x, .str (Str.ofString "") tf]) Q E s := H B F X N T hA hf hke hh hdp m1 U hi hi2 hlen hG hd hr hok hdn hdn2 hret
end

end Mine
end
-- SLoop
section
open PySem PySem.W PyProof.Rows PySem.Calls PySem.Spec PyProof.V
namespace Mine
section
variable {prog : Program} {w : World} {A : Around} {E : Value → Shared → Prop} {s : Shared} {env : Env} {h₀ : Heap} {target : Expr} {body : List Stmt} {Q : Flow → Shared → Prop} {K : Frag}
/-- a for over a list that stands at the top -/
theorem iter_listK {ax : Addr} {lo : Obj} {vs : List Value} {n : Nat} {m₀ : Str → Option Value} {news : List (Addr × Obj)}
    (hh : A.handled = none) (F : Fr h₀ env.locals s.heap m₀) (N : News h₀ env.locals s.heap news) (X₀ : K.In h₀) (hk : K.lookup ax = some lo) (hc : lo.cls = .type "list") (hd : lo.data = .seq vs.toArray n)
    (rest₀ : ∀ I : Addr, (∀ p ∈ news, p.1 < I) → ItemsRest prog w A E h₀ env target body Q s [(I, "list_iterator")] [] (vs.map .val) m₀ news) :
    wpAny (model prog w) A (pyIter (.ref ax)) (fun it s₂ => TurnsAt prog w A h₀ env target body Q E it s₂) E s := by
  have hg : h₀.get? ax = some lo := X₀ _ _ hk
  have hax : s.heap.get? ax = some lo := F.keep _ _ hg
  have hl : s.heap.IsList ax vs.toArray := ⟨lo, hax, hc, n, hd⟩
  have hne : ax ≠ s.heap.objs.size := Nat.ne_of_lt (Heap.lt_size hax)
  refine wpAny_pyIter_list hl ?_
  refine ktg_core (tk0 := s.toks) (keep := []) (KTurns.ofWalks (Walks.list hh s.heap.objs.size ax hne vs.toArray) fun i v s Q E st q => letGo_listiter st.1 q) (by simp) (fun i v h hp => ⟨.val v, ?_, rfl⟩) (fun i h st => ?_) (fun b hb => ?_) (fun b hb => by simpa using hb) (fun b hb => ?_) ?_ (fun p hp hI => ?_) ?_ (F.push _) (fun p hp => ⟨Heap.get?_push_of_some _ (N p hp).1, (N p hp).2⟩) trivial (rest₀ _ fun p hp => Heap.lt_size (N p hp).1)
  · have q : vs.toArray[i]? = some v := hp
    simpa using q
  · obtain ⟨it, h1, h2, _⟩ := st.1
    refine ⟨[(s.heap.objs.size, it)], ⟨⟨rfl, h2⟩, trivial⟩, fun p hp => ?_⟩
    rw [List.mem_singleton.mp hp]; exact h1
  · obtain rfl : b = s.heap.objs.size := by simpa using hb
    exact ⟨List.mem_cons_self .., next_is_new F⟩
  · have q : b = s.heap.objs.size ∨ b = ax := by simpa using hb
    rcases q with rfl | rfl
    · exact .inl (by simp)
    · exact .inr (.inr ⟨lo, hg⟩)
  · intro hI
    rcases List.mem_cons.mp hI with e | hI
    · exact absurd F.ns.lt (e ▸ Nat.lt_irrefl _)
    · have e : env.locals = ax := List.mem_singleton.mp hI
      exact absurd (Heap.lt_size hg) (Nat.not_lt.mpr (e ▸ F.above))
  · exact absurd (Heap.lt_size (N p hp).1) ((List.mem_singleton.mp hI) ▸ Nat.lt_irrefl _)
  · exact ⟨⟨_, Heap.get?_push_size _ rfl, rfl, rfl⟩, hl.at fun o e => Heap.get?_push_of_some _ e⟩
end

end Mine
end
-- S6
section
open PySem PySem.W PyProof.Rows PySem.Calls PySem.Spec
namespace Mine
local macro_rules | `(tactic| walk_at "pyIter ref") => `(tactic| (k_here; (with_reducible show wpAny _ _ (pyIter (Value.ref _)) (fun it s₂ => TurnsAt _ _ _ _ _ _ _ _ _ it s₂) _ _); (with_unfolding_all refine' iter_listK ?h ?F ?N ?X ?k ?c ?d ?_; (case h => assumption); (case F => k_asm); (case N => k_asm); (case X => k_asm); (case k => k_is); (case c => exact rfl); (case d => exact rfl); k_whole); intro i' l1; (try k_lt l1)))
local macro_rules | `(tactic| walk_at "assign Tuple") => `(tactic| (k_here; (with_reducible show wpAny _ _ (assign (Expr.Tuple _ _ _) _ (Value.ref _)) _ _ _); k_dflt (refine' unpackK ?F ?N ?X ?k ?c ?d ?k1 ?k2 ?k3 ?_; (case F => k_asm); (case N => k_asm); (case X => k_asm); (case k => k_is); (case c => exact rfl); (case d => exact rfl); (case k1 => assumption); (case k2 => exact rfl); (case k3 => exact rfl)); intro h' F' N'; (try k_sweep)))
section
variable {w : World} {vw : Program} {lo : List Str} {mean : ExcName → Option Value} {mg mb : Str → Option Value} {A₀ A : Around} {base h₀ : Heap} {env : Env} {outer : List Env} {L : Addr} {m : Str → Option Value} {s : Shared} {Q E : Value → Shared → Prop} {news : List (Addr × Obj)}
  {x dx : Addr} {txt : Str} {t1 t3 t4 t5 : Tok} {i gn dn : Int} {h1 h2 h3 h4 h5 h6 h7 : Int} {k1 k2 k3 k4 k5 k6 k7 : Tok} {v2 v4 v5 v6 v7 : Value}
theorem inner_spec {q : P} (H : AltS w q) {tf tb : Tok} {b : Int} {gg : Obj → List (Addr × Obj)} {rest : List Nat}
  (B : Below A₀ base outer h₀) (F : Fr h₀ L s.heap m) (X : (pre.heap_1 w.params).In h₀) (N : News h₀ L s.heap news) (T : Top vw lo mean mg mb h₀) (hA : A.frames = some (env :: outer)) (hf : env.frame = some L) (hke : env.scope.kind = .function) (hh : A.handled = none)
  (hdp : A.depth + (6 * q.ht + 8) < recursionLimit)
  (m1 : (x, instObj 273 dx) ∈ news) (U : UpdF dx (dictOf (ptE h1 h2 h3 h4 h5 h6 h7 k1 k2 k3 k4 k5 k6 k7 (.str txt t1) v2 (.int (i) t3) (.int (gn) t4) (.int (dn) t5) v6 v7) 7) news gg)
  (hi : 0 ≤ i) (hi2 : i ≤ 100) (hlen : txt.length ≤ 100) (hG : Good txt)
  (hd : txt.cps.toList.drop i.toNat = q.print ++ 41 :: rest) (hok : q.ok)
  (hdn : 0 ≤ dn) (hdn2 : dn + q.ht + 1 ≤ 40)
  (hret : ∀ v tl t3' t4' t5' h' tk', Fr h₀ L h' m → News h₀ L h' (gg (dictOf (ptE h1 h2 h3 h4 h5 h6 h7 k1 k2 k3 k4 k5 k6 k7 (.str txt t1) v2 (.int (i + (q.print.length : Int) + 1) t3') (.int (gn + (q.ng : Int)) t4') (.int (dn) t5') v6 v7) 7) ++ tl) → Off tl news → SeqIn tl v q → Q v { s with heap := h', toks := tk' }) :
  wpAny (model PySem.Challenge.rw_qz0116_01.row.toRowW.1 w) A (call (.ref 530) [.ref x, .str (Str.ofString "") tf, .int b tb]) Q E s := by
  refine wpAny_call ?_
  have m2 := UpdF.mem U
  have hin := in2 m1 m2
  have N2 := News.sub N hin
  have hne := inst_ne N m1 m2
  have hb : i + (q.print.length : Int) ≤ 100 := by
    have := drop_len (n := 100) hd (by show txt.length ≤ 100; exact hlen) (by omega)
    omega
  have hsl : Txt.slice txt (some (i + (q.print.length : Int))) (some (i + (q.print.length : Int) + 1)) = Str.ofString ")" :=
    slice_is (by omega) (by omega) (drop_app hi hd rfl) (by rw [show (i + (q.print.length : Int) + 1 - (i + (q.print.length : Int))).toNat = 1 by omega]; rfl)
  (k_dflt (refine' enterS B F X N2 T ?kA hf hke ?k6 ?k7 ?k8 ?k9 ?kB ?_ ?c2 ?c3 ?c4 ?c5; (case kA => exact hA); (case k6 => k_is); (case k7 => k_is); (case k8 => (first | assumption | exact room_d (by assumption) | exact room_f (by assumption) (by decide) | exact room_a (by assumption) (by decide) | exact room_b (by assumption) (by decide) | exact room_c (by assumption) (by decide) | exact room_e (by assumption) (by decide) | omega | (simp only [depth_deeper] at *; omega))); (case k9 => exact BindsTo.of_eq rfl); (case c5 => decide); (case kB => exact locs rfl); (case c2 => exact rfl); (case c3 => exact rfl); (case c4 => exact rfl)))
  intro g L' hq FG F' N' B' X' T' l1 hK hS hL
  (try k_lt l1)
  (try dsimp only); (try k_fold)
  (repeat' (first | ((with_reducible show wpAny _ _ (call (Value.ref 502) _) _ _ _); k_here; k_dflt (apply alt_use; (case H => assumption); (case B => k_asm); (case F => k_asm); (case X => k_asm); (case N => k_asm); (case T => k_asm); (case hA => first | exact Around.frames_deeper (Below.stack (by k_asm)) | assumption); (case hf => first | exact rfl | assumption); (case hke => first | exact rfl | assumption); (case hh => assumption); (case hdp => (first | assumption | exact room_d (by assumption) | exact room_f (by assumption) (by decide) | exact room_a (by assumption) (by decide) | exact room_b (by assumption) (by decide) | exact room_c (by assumption) (by decide) | exact room_e (by assumption) (by decide) | omega | (simp only [depth_deeper] at *; omega))); (case m1 => k_mem); (case U => k_updF); (case hi => (first | assumption | omega)); (case hi2 => (first | assumption | omega)); (case hlen => assumption); (case hG => assumption); (case hd => assumption); (case hr => first | exact .inr ⟨_, rfl⟩ | exact .inl rfl | assumption); (case hok => assumption); (case hdn => (first | assumption | omega)); (case hdn2 => (first | assumption | omega))); intro v' tl' t3' t4' t5' h' tk' F' N' O' S'; (try simp only [List.cons_append, List.nil_append, List.append_assoc] at N'); (try k_sweep)) | ((with_reducible show wpAny _ _ (call (Value.ref 434) _) _ _ _); k_here; k_dflt (first | (apply take_count_o; (case B => k_asm); (case F => k_asm); (case X => k_asm); (case N => k_asm); (case T => k_asm); (case hA => first | exact Around.frames_deeper (Below.stack (by k_asm)) | assumption); (case hf => first | exact rfl | assumption); (case hke => first | exact rfl | assumption); (case hh => assumption); (case hdp => (first | assumption | exact room_d (by assumption) | exact room_f (by assumption) (by decide) | exact room_a (by assumption) (by decide) | exact room_b (by assumption) (by decide) | exact room_c (by assumption) (by decide) | exact room_e (by assumption) (by decide) | omega | (simp only [depth_deeper] at *; omega))); (case m1 => k_mem); (case m2 => k_mem); (case hi => (first | assumption | omega)); (case hi2 => (first | assumption | omega)); (case hlen => assumption); (case hp => assumption)) | (apply take_count_c; (case B => k_asm); (case F => k_asm); (case X => k_asm); (case N => k_asm); (case T => k_asm); (case hA => first | exact Around.frames_deeper (Below.stack (by k_asm)) | assumption); (case hf => first | exact rfl | assumption); (case hke => first | exact rfl | assumption); (case hh => assumption); (case hdp => (first | assumption | exact room_d (by assumption) | exact room_f (by assumption) (by decide) | exact room_a (by assumption) (by decide) | exact room_b (by assumption) (by decide) | exact room_c (by assumption) (by decide) | exact room_e (by assumption) (by decide) | omega | (simp only [depth_deeper] at *; omega))); (case m1 => k_mem); (case m2 => k_mem); (case hi => (first | assumption | omega)); (case hi2 => (first | assumption | omega)); (case hlen => assumption); (case hp => assumption)) | (apply take_count_a; (case B => k_asm); (case F => k_asm); (case X => k_asm); (case N => k_asm); (case T => k_asm); (case hA => first | exact Around.frames_deeper (Below.stack (by k_asm)) | assumption); (case hf => first | exact rfl | assumption); (case hke => first | exact rfl | assumption); (case hh => assumption); (case hdp => (first | assumption | exact room_d (by assumption) | exact room_f (by assumption) (by decide) | exact room_a (by assumption) (by decide) | exact room_b (by assumption) (by decide) | exact room_c (by assumption) (by decide) | exact room_e (by assumption) (by decide) | omega | (simp only [depth_deeper] at *; omega))); (case m1 => k_mem); (case m2 => k_mem); (case hi => (first | assumption | omega)); (case hi2 => (first | assumption | omega)); (case hlen => assumption); (case hp => assumption)) | (apply take_count_b; (case B => k_asm); (case F => k_asm); (case X => k_asm); (case N => k_asm); (case T => k_asm); (case hA => first | exact Around.frames_deeper (Below.stack (by k_asm)) | assumption); (case hf => first | exact rfl | assumption); (case hke => first | exact rfl | assumption); (case hh => assumption); (case hdp => (first | assumption | exact room_d (by assumption) | exact room_f (by assumption) (by decide) | exact room_a (by assumption) (by decide) | exact room_b (by assumption) (by decide) | exact room_c (by assumption) (by decide) | exact room_e (by assumption) (by decide) | omega | (simp only [depth_deeper] at *; omega))); (case m1 => k_mem); (case m2 => k_mem); (case hi => (first | assumption | omega)); (case hi2 => (first | assumption | omega)); (case hlen => assumption); (case hp => assumption)) | (apply take_count_d; (case B => k_asm); (case F => k_asm); (case X => k_asm); (case N => k_asm); (case T => k_asm); (case hA => first | exact Around.frames_deeper (Below.stack (by k_asm)) | assumption); (case hf => first | exact rfl | assumption); (case hke => first | exact rfl | assumption); (case hh => assumption); (case hdp => (first | assumption | exact room_d (by assumption) | exact room_f (by assumption) (by decide) | exact room_a (by assumption) (by decide) | exact room_b (by assumption) (by decide) | exact room_c (by assumption) (by decide) | exact room_e (by assumption) (by decide) | omega | (simp only [depth_deeper] at *; omega))); (case m1 => k_mem); (case m2 => k_mem); (case hi => (first | assumption | omega)); (case hi2 => (first | assumption | omega)); (case hlen => assumption); (case hp => assumption)) | (apply take_count_e; (case B => k_asm); (case F => k_asm); (case X => k_asm); (case N => k_asm); (case T => k_asm); (case hA => first | exact Around.frames_deeper (Below.stack (by k_asm)) | assumption); (case hf => first | exact rfl | assumption); (case hke => first | exact rfl | assumption); (case hh => assumption); (case hdp => (first | assumption | exact room_d (by assumption) | exact room_f (by assumption) (by decide) | exact room_a (by assumption) (by decide) | exact room_b (by assumption) (by decide) | exact room_c (by assumption) (by decide) | exact room_e (by assumption) (by decide) | omega | (simp only [depth_deeper] at *; omega))); (case m1 => k_mem); (case m2 => k_mem); (case hi => (first | assumption | omega)); (case hi2 => (first | assumption | omega)); (case hlen => assumption); (case hp => assumption))); intro h' tk' F' N'; (try dsimp only at N'); (try k_sweep)) | ((with_reducible show wpAny _ _ (call (Value.ref 495) _) _ _ _); k_here; k_dflt (apply read_inline_spec; (case B => k_asm); (case F => k_asm); (case X => k_asm); (case N => k_asm); (case T => k_asm); (case hA => first | exact Around.frames_deeper (Below.stack (by k_asm)) | assumption); (case hf => first | exact rfl | assumption); (case hke => first | exact rfl | assumption); (case hh => assumption); (case hdp => (first | assumption | exact room_d (by assumption) | exact room_f (by assumption) (by decide) | exact room_a (by assumption) (by decide) | exact room_b (by assumption) (by decide) | exact room_c (by assumption) (by decide) | exact room_e (by assumption) (by decide) | omega | (simp only [depth_deeper] at *; omega))); (case m1 => k_mem); (case m2 => k_mem); (case hi => (first | assumption | omega)); (case hi2 => (first | assumption | omega)); (case hlen => assumption); (case hG => assumption)); intro h' tk' F' N'; (try dsimp only at N'); (try k_sweep)) | ((with_reducible show wpAny _ _ (call (Value.ref 483) _) _ _ _); k_here; k_dflt (apply skip_unseen_spec; (case B => k_asm); (case F => k_asm); (case X => k_asm); (case N => k_asm); (case T => k_asm); (case hA => first | exact Around.frames_deeper (Below.stack (by k_asm)) | assumption); (case hf => first | exact rfl | assumption); (case hke => first | exact rfl | assumption); (case hh => assumption); (case hdp => (first | assumption | exact room_d (by assumption) | exact room_f (by assumption) (by decide) | exact room_a (by assumption) (by decide) | exact room_b (by assumption) (by decide) | exact room_c (by assumption) (by decide) | exact room_e (by assumption) (by decide) | omega | (simp only [depth_deeper] at *; omega))); (case m1 => k_mem); (case m2 => k_mem); (case hi => (first | assumption | omega)); (case hi2 => (first | assumption | omega)); (case hlen => assumption); (case hG => assumption)); intro h' tk' F' N'; (try dsimp only at N'); (try k_sweep)) | ((with_reducible show wpAny _ _ (call (Value.ref 270) _) _ _ _); k_here; k_dflt (apply skips_yes1; (case B => k_asm); (case F => k_asm); (case X => k_asm); (case N => k_asm); (case T => k_asm); (case hA => first | exact Around.frames_deeper (Below.stack (by k_asm)) | assumption); (case hf => first | exact rfl | assumption); (case hke => first | exact rfl | assumption); (case hh => assumption); (case hdp => (first | assumption | exact room_d (by assumption) | exact room_f (by assumption) (by decide) | exact room_a (by assumption) (by decide) | exact room_b (by assumption) (by decide) | exact room_c (by assumption) (by decide) | exact room_e (by assumption) (by decide) | omega | (simp only [depth_deeper] at *; omega))); (case m1 => k_mem); (case U => k_updF); (case hi => (first | assumption | omega)); (case hi2 => (first | assumption | omega)); (case hlen => assumption); (case hw => decide +kernel); (case hs => assumption)); intro t' h' tk' F' N'; (try dsimp only at N'); (try k_sweep); (try simp only [List.cons_append, List.nil_append] at N')) | ((with_reducible show wpAny _ _ (call (Value.ref 270) _) _ _ _); k_here; k_dflt (apply skips_yes; (case B => k_asm); (case F => k_asm); (case X => k_asm); (case N => k_asm); (case T => k_asm); (case hA => first | exact Around.frames_deeper (Below.stack (by k_asm)) | assumption); (case hf => first | exact rfl | assumption); (case hke => first | exact rfl | assumption); (case hh => assumption); (case hdp => (first | assumption | exact room_d (by assumption) | exact room_f (by assumption) (by decide) | exact room_a (by assumption) (by decide) | exact room_b (by assumption) (by decide) | exact room_c (by assumption) (by decide) | exact room_e (by assumption) (by decide) | omega | (simp only [depth_deeper] at *; omega))); (case m1 => k_mem); (case U => k_updF); (case hi => (first | assumption | omega)); (case hi2 => (first | assumption | omega)); (case hlen => assumption); (case hw => decide +kernel); (case hs => assumption)); intro t' h' tk' F' N'; (try dsimp only at N'); (try k_sweep)) | ((with_reducible show wpAny _ _ (call (Value.ref 270) _) _ _ _); k_here; k_dflt (apply skips_no; (case B => k_asm); (case F => k_asm); (case X => k_asm); (case N => k_asm); (case T => k_asm); (case hA => first | exact Around.frames_deeper (Below.stack (by k_asm)) | assumption); (case hf => first | exact rfl | assumption); (case hke => first | exact rfl | assumption); (case hh => assumption); (case hdp => (first | assumption | exact room_d (by assumption) | exact room_f (by assumption) (by decide) | exact room_a (by assumption) (by decide) | exact room_b (by assumption) (by decide) | exact room_c (by assumption) (by decide) | exact room_e (by assumption) (by decide) | omega | (simp only [depth_deeper] at *; omega))); (case m1 => k_mem); (case m2 => k_mem); (case hi => (first | assumption | omega)); (case hi2 => (first | assumption | omega)); (case hlen => assumption); (case hw => decide +kernel); (case hs => first | assumption | exact slice_good_ne (by assumption) (by omega) (by omega) (by decide +kernel))); intro h' tk' F' N'; (try dsimp only at N'); (try k_sweep)) | ((with_reducible show wpAny _ _ (call (Value.ref 263) _) _ _ _); k_here; k_dflt (apply peek_is; (case B => k_asm); (case F => k_asm); (case X => k_asm); (case N => k_asm); (case T => k_asm); (case hA => first | exact Around.frames_deeper (Below.stack (by k_asm)) | assumption); (case hf => first | exact rfl | assumption); (case hke => first | exact rfl | assumption); (case hh => assumption); (case hdp => (first | assumption | exact room_d (by assumption) | exact room_f (by assumption) (by decide) | exact room_a (by assumption) (by decide) | exact room_b (by assumption) (by decide) | exact room_c (by assumption) (by decide) | exact room_e (by assumption) (by decide) | omega | (simp only [depth_deeper] at *; omega))); (case m1 => k_mem); (case m2 => k_mem); (case hi => (first | assumption | omega)); (case hlen => assumption); (case hp => assumption)); intro t' h' tk' F' N'; (try k_sweep)) | (k_unfold; (try dsimp only)) | (k_end; wrow_close) | walk1 | (dsimp only; walk1) | (leave1; walk_say "STEP leave1"; try dsimp only) | fail "no step"))
  · exfalso; omega
  · rename List (Addr × Obj) => tlA
    rename SeqIn _ _ _ => Sq
    rename Fr g L' _ _ => Fe
    rename News g L' _ _ => Ne
    rename Fr h₀ L _ m => kF
    rename News h₀ L _ (_ :: _) => kN
    rw [show dn + 1 - 1 = dn by omega] at Ne kN
    obtain ⟨z1, z2⟩ := back (tl := tlA) N U m1 hK Fe Ne kN (by kcj_in) (by k_all) (by k_all)
    exact hret _ _ _ _ _ _ _ kF z1 z2 Sq

theorem capture_spec {q : P} (H : AltS w q) {tf tb tn : Tok} {b : Int} {gg : Obj → List (Addr × Obj)} {rest : List Nat}
  (B : Below A₀ base outer h₀) (F : Fr h₀ L s.heap m) (X : (pre.heap_1 w.params).In h₀) (N : News h₀ L s.heap news) (T : Top vw lo mean mg mb h₀) (hA : A.frames = some (env :: outer)) (hf : env.frame = some L) (hke : env.scope.kind = .function) (hh : A.handled = none)
  (hdp : A.depth + (6 * q.ht + 9) < recursionLimit)
  (m1 : (x, instObj 273 dx) ∈ news) (U : UpdF dx (dictOf (ptE h1 h2 h3 h4 h5 h6 h7 k1 k2 k3 k4 k5 k6 k7 (.str txt t1) v2 (.int (i) t3) (.int (gn) t4) (.int (dn) t5) v6 v7) 7) news gg)
  (hi : 0 ≤ i) (hi2 : i ≤ 100) (hlen : txt.length ≤ 100) (hG : Good txt)
  (hd : txt.cps.toList.drop i.toNat = q.print ++ 41 :: rest) (hok : q.ok)
  (hdn : 0 ≤ dn) (hdn2 : dn + q.ht + 1 ≤ 40)
  (hret : ∀ v tl t3' t4' t5' h' tk', Fr h₀ L h' m → News h₀ L h' (gg (dictOf (ptE h1 h2 h3 h4 h5 h6 h7 k1 k2 k3 k4 k5 k6 k7 (.str txt t1) v2 (.int (i + (q.print.length : Int) + 1) t3') (.int (gn + 1 + (q.ng : Int)) t4') (.int (dn) t5') v6 v7) 7) ++ tl) → Off tl news → GroupIn tl v q → Q v { s with heap := h', toks := tk' }) :
  wpAny (model PySem.Challenge.rw_qz0116_01.row.toRowW.1 w) A (call (.ref 537) [.ref x, .str (Str.ofString "") tf, .int b tb, .str (Str.ofString "") tn]) Q E s := by
  refine wpAny_call ?_
  have m2 := UpdF.mem U
  have hin := in2 m1 m2
  have N2 := News.sub N hin
  have hne := inst_ne N m1 m2
  (k_dflt (refine' enterS B F X N2 T ?kA hf hke ?k6 ?k7 ?k8 ?k9 ?kB ?_ ?c2 ?c3 ?c4 ?c5; (case kA => exact hA); (case k6 => k_is); (case k7 => k_is); (case k8 => (first | assumption | exact room_d (by assumption) | exact room_f (by assumption) (by decide) | exact room_a (by assumption) (by decide) | exact room_b (by assumption) (by decide) | exact room_c (by assumption) (by decide) | exact room_e (by assumption) (by decide) | omega | (simp only [depth_deeper] at *; omega))); (case k9 => exact BindsTo.of_eq rfl); (case c5 => decide); (case kB => exact locs rfl); (case c2 => exact rfl); (case c3 => exact rfl); (case c4 => exact rfl)))
  intro g L' hq FG F' N' B' X' T' l1 hK hS hL
  (try k_lt l1)
  (try dsimp only); (try k_fold)
  (repeat' (first | ((with_reducible show wpAny _ _ (call (Value.ref 530) _) _ _ _); k_here; k_dflt (apply inner_spec; (case H => assumption); (case B => k_asm); (case F => k_asm); (case X => k_asm); (case N => k_asm); (case T => k_asm); (case hA => first | exact Around.frames_deeper (Below.stack (by k_asm)) | assumption); (case hf => first | exact rfl | assumption); (case hke => first | exact rfl | assumption); (case hh => assumption); (case hdp => (first | assumption | exact room_d (by assumption) | exact room_f (by assumption) (by decide) | exact room_a (by assumption) (by decide) | exact room_b (by assumption) (by decide) | exact room_c (by assumption) (by decide) | exact room_e (by assumption) (by decide) | omega | (simp only [depth_deeper] at *; omega))); (case m1 => k_mem); (case U => k_updF); (case hi => (first | assumption | omega)); (case hi2 => (first | assumption | omega)); (case hlen => assumption); (case hG => assumption); (case hd => assumption); (case hok => assumption); (case hdn => (first | assumption | omega)); (case hdn2 => (first | assumption | omega))); intro v' tl' t3' t4' t5' h' tk' F' N' O' S'; (try simp only [List.cons_append, List.nil_append, List.append_assoc] at N'); (try k_sweep)) | ((with_reducible show wpAny _ _ (call (Value.ref 502) _) _ _ _); k_here; k_dflt (apply alt_use; (case H => assumption); (case B => k_asm); (case F => k_asm); (case X => k_asm); (case N => k_asm); (case T => k_asm); (case hA => first | exact Around.frames_deeper (Below.stack (by k_asm)) | assumption); (case hf => first | exact rfl | assumption); (case hke => first | exact rfl | assumption); (case hh => assumption); (case hdp => (first | assumption | exact room_d (by assumption) | exact room_f (by assumption) (by decide) | exact room_a (by assumption) (by decide) | exact room_b (by assumption) (by decide) | exact room_c (by assumption) (by decide) | exact room_e (by assumption) (by decide) | omega | (simp only [depth_deeper] at *; omega))); (case m1 => k_mem); (case U => k_updF); (case hi => (first | assumption | omega)); (case hi2 => (first | assumption | omega)); (case hlen => assumption); (case hG => assumption); (case hd => assumption); (case hr => first | exact .inr ⟨_, rfl⟩ | exact .inl rfl | assumption); (case hok => assumption); (case hdn => (first | assumption | omega)); (case hdn2 => (first | assumption | omega))); intro v' tl' t3' t4' t5' h' tk' F' N' O' S'; (try simp only [List.cons_append, List.nil_append, List.append_assoc] at N'); (try k_sweep)) | ((with_reducible show wpAny _ _ (call (Value.ref 434) _) _ _ _); k_here; k_dflt (first | (apply take_count_o; (case B => k_asm); (case F => k_asm); (case X => k_asm); (case N => k_asm); (case T => k_asm); (case hA => first | exact Around.frames_deeper (Below.stack (by k_asm)) | assumption); (case hf => first | exact rfl | assumption); (case hke => first | exact rfl | assumption); (case hh => assumption); (case hdp => (first | assumption | exact room_d (by assumption) | exact room_f (by assumption) (by decide) | exact room_a (by assumption) (by decide) | exact room_b (by assumption) (by decide) | exact room_c (by assumption) (by decide) | exact room_e (by assumption) (by decide) | omega | (simp only [depth_deeper] at *; omega))); (case m1 => k_mem); (case m2 => k_mem); (case hi => (first | assumption | omega)); (case hi2 => (first | assumption | omega)); (case hlen => assumption); (case hp => assumption)) | (apply take_count_c; (case B => k_asm); (case F => k_asm); (case X => k_asm); (case N => k_asm); (case T => k_asm); (case hA => first | exact Around.frames_deeper (Below.stack (by k_asm)) | assumption); (case hf => first | exact rfl | assumption); (case hke => first | exact rfl | assumption); (case hh => assumption); (case hdp => (first | assumption | exact room_d (by assumption) | exact room_f (by assumption) (by decide) | exact room_a (by assumption) (by decide) | exact room_b (by assumption) (by decide) | exact room_c (by assumption) (by decide) | exact room_e (by assumption) (by decide) | omega | (simp only [depth_deeper] at *; omega))); (case m1 => k_mem); (case m2 => k_mem); (case hi => (first | assumption | omega)); (case hi2 => (first | assumption | omega)); (case hlen => assumption); (case hp => assumption)) | (apply take_count_a; (case B => k_asm); (case F => k_asm); (case X => k_asm); (case N => k_asm); (case T => k_asm); (case hA => first | exact Around.frames_deeper (Below.stack (by k_asm)) | assumption); (case hf => first | exact rfl | assumption); (case hke => first | exact rfl | assumption); (case hh => assumption); (case hdp => (first | assumption | exact room_d (by assumption) | exact room_f (by assumption) (by decide) | exact room_a (by assumption) (by decide) | exact room_b (by assumption) (by decide) | exact room_c (by assumption) (by decide) | exact room_e (by assumption) (by decide) | omega | (simp only [depth_deeper] at *; omega))); (case m1 => k_mem); (case m2 => k_mem); (case hi => (first | assumption | omega)); (case hi2 => (first | assumption | omega)); (case hlen => assumption); (case hp => assumption)) | (apply take_count_b; (case B => k_asm); (case F => k_asm); (case X => k_asm); (case N => k_asm); (case T => k_asm); (case hA => first | exact Around.frames_deeper (Below.stack (by k_asm)) | assumption); (case hf => first | exact rfl | assumption); (case hke => first | exact rfl | assumption); (case hh => assumption); (case hdp => (first | assumption | exact room_d (by assumption) | exact room_f (by assumption) (by decide) | exact room_a (by assumption) (by decide) | exact room_b (by assumption) (by decide) | exact room_c (by assumption) (by decide) | exact room_e (by assumption) (by decide) | omega | (simp only [depth_deeper] at *; omega))); (case m1 => k_mem); (case m2 => k_mem); (case hi => (first | assumption | omega)); (case hi2 => (first | assumption | omega)); (case hlen => assumption); (case hp => assumption)) | (apply take_count_d; (case B => k_asm); (case F => k_asm); (case X => k_asm); (case N => k_asm); (case T => k_asm); (case hA => first | exact Around.frames_deeper (Below.stack (by k_asm)) | assumption); (case hf => first | exact rfl | assumption); (case hke => first | exact rfl | assumption); (case hh => assumption); (case hdp => (first | assumption | exact room_d (by assumption) | exact room_f (by assumption) (by decide) | exact room_a (by assumption) (by decide) | exact room_b (by assumption) (by decide) | exact room_c (by assumption) (by decide) | exact room_e (by assumption) (by decide) | omega | (simp only [depth_deeper] at *; omega))); (case m1 => k_mem); (case m2 => k_mem); (case hi => (first | assumption | omega)); (case hi2 => (first | assumption | omega)); (case hlen => assumption); (case hp => assumption)) | (apply take_count_e; (case B => k_asm); (case F => k_asm); (case X => k_asm); (case N => k_asm); (case T => k_asm); (case hA => first | exact Around.frames_deeper (Below.stack (by k_asm)) | assumption); (case hf => first | exact rfl | assumption); (case hke => first | exact rfl | assumption); (case hh => assumption); (case hdp => (first | assumption | exact room_d (by assumption) | exact room_f (by assumption) (by decide) | exact room_a (by assumption) (by decide) | exact room_b (by assumption) (by decide) | exact room_c (by assumption) (by decide) | exact room_e (by assumption) (by decide) | omega | (simp only [depth_deeper] at *; omega))); (case m1 => k_mem); (case m2 => k_mem); (case hi => (first | assumption | omega)); (case hi2 => (first | assumption | omega)); (case hlen => assumption); (case hp => assumption))); intro h' tk' F' N'; (try dsimp only at N'); (try k_sweep)) | ((with_reducible show wpAny _ _ (call (Value.ref 495) _) _ _ _); k_here; k_dflt (apply read_inline_spec; (case B => k_asm); (case F => k_asm); (case X => k_asm); (case N => k_asm); (case T => k_asm); (case hA => first | exact Around.frames_deeper (Below.stack (by k_asm)) | assumption); (case hf => first | exact rfl | assumption); (case hke => first | exact rfl | assumption); (case hh => assumption); (case hdp => (first | assumption | exact room_d (by assumption) | exact room_f (by assumption) (by decide) | exact room_a (by assumption) (by decide) | exact room_b (by assumption) (by decide) | exact room_c (by assumption) (by decide) | exact room_e (by assumption) (by decide) | omega | (simp only [depth_deeper] at *; omega))); (case m1 => k_mem); (case m2 => k_mem); (case hi => (first | assumption | omega)); (case hi2 => (first | assumption | omega)); (case hlen => assumption); (case hG => assumption)); intro h' tk' F' N'; (try dsimp only at N'); (try k_sweep)) | ((with_reducible show wpAny _ _ (call (Value.ref 483) _) _ _ _); k_here; k_dflt (apply skip_unseen_spec; (case B => k_asm); (case F => k_asm); (case X => k_asm); (case N => k_asm); (case T => k_asm); (case hA => first | exact Around.frames_deeper (Below.stack (by k_asm)) | assumption); (case hf => first | exact rfl | assumption); (case hke => first | exact rfl | assumption); (case hh => assumption); (case hdp => (first | assumption | exact room_d (by assumption) | exact room_f (by assumption) (by decide) | exact room_a (by assumption) (by decide) | exact room_b (by assumption) (by decide) | exact room_c (by assumption) (by decide) | exact room_e (by assumption) (by decide) | omega | (simp only [depth_deeper] at *; omega))); (case m1 => k_mem); (case m2 => k_mem); (case hi => (first | assumption | omega)); (case hi2 => (first | assumption | omega)); (case hlen => assumption); (case hG => assumption)); intro h' tk' F' N'; (try dsimp only at N'); (try k_sweep)) | ((with_reducible show wpAny _ _ (call (Value.ref 270) _) _ _ _); k_here; k_dflt (apply skips_yes1; (case B => k_asm); (case F => k_asm); (case X => k_asm); (case N => k_asm); (case T => k_asm); (case hA => first | exact Around.frames_deeper (Below.stack (by k_asm)) | assumption); (case hf => first | exact rfl | assumption); (case hke => first | exact rfl | assumption); (case hh => assumption); (case hdp => (first | assumption | exact room_d (by assumption) | exact room_f (by assumption) (by decide) | exact room_a (by assumption) (by decide) | exact room_b (by assumption) (by decide) | exact room_c (by assumption) (by decide) | exact room_e (by assumption) (by decide) | omega | (simp only [depth_deeper] at *; omega))); (case m1 => k_mem); (case U => k_updF); (case hi => (first | assumption | omega)); (case hi2 => (first | assumption | omega)); (case hlen => assumption); (case hw => decide +kernel); (case hs => assumption)); intro t' h' tk' F' N'; (try dsimp only at N'); (try k_sweep); (try simp only [List.cons_append, List.nil_append] at N')) | ((with_reducible show wpAny _ _ (call (Value.ref 270) _) _ _ _); k_here; k_dflt (apply skips_yes; (case B => k_asm); (case F => k_asm); (case X => k_asm); (case N => k_asm); (case T => k_asm); (case hA => first | exact Around.frames_deeper (Below.stack (by k_asm)) | assumption); (case hf => first | exact rfl | assumption); (case hke => first | exact rfl | assumption); (case hh => assumption); (case hdp => (first | assumption | exact room_d (by assumption) | exact room_f (by assumption) (by decide) | exact room_a (by assumption) (by decide) | exact room_b (by assumption) (by decide) | exact room_c (by assumption) (by decide) | exact room_e (by assumption) (by decide) | omega | (simp only [depth_deeper] at *; omega))); (case m1 => k_mem); (case U => k_updF); (case hi => (first | assumption | omega)); (case hi2 => (first | assumption | omega)); (case hlen => assumption); (case hw => decide +kernel); (case hs => assumption)); intro t' h' tk' F' N'; (try dsimp only at N'); (try k_sweep)) | ((with_reducible show wpAny _ _ (call (Value.ref 270) _) _ _ _); k_here; k_dflt (apply skips_no; (case B => k_asm); (case F => k_asm); (case X => k_asm); (case N => k_asm); (case T => k_asm); (case hA => first | exact Around.frames_deeper (Below.stack (by k_asm)) | assumption); (case hf => first | exact rfl | assumption); (case hke => first | exact rfl | assumption); (case hh => assumption); (case hdp => (first | assumption | exact room_d (by assumption) | exact room_f (by assumption) (by decide) | exact room_a (by assumption) (by decide) | exact room_b (by assumption) (by decide) | exact room_c (by assumption) (by decide) | exact room_e (by assumption) (by decide) | omega | (simp only [depth_deeper] at *; omega))); (case m1 => k_mem); (case m2 => k_mem); (case hi => (first | assumption | omega)); (case hi2 => (first | assumption | omega)); (case hlen => assumption); (case hw => decide +kernel); (case hs => first | assumption | exact slice_good_ne (by assumption) (by omega) (by omega) (by decide +kernel))); intro h' tk' F' N'; (try dsimp only at N'); (try k_sweep)) | ((with_reducible show wpAny _ _ (call (Value.ref 263) _) _ _ _); k_here; k_dflt (apply peek_is; (case B => k_asm); (case F => k_asm); (case X => k_asm); (case N => k_asm); (case T => k_asm); (case hA => first | exact Around.frames_deeper (Below.stack (by k_asm)) | assumption); (case hf => first | exact rfl | assumption); (case hke => first | exact rfl | assumption); (case hh => assumption); (case hdp => (first | assumption | exact room_d (by assumption) | exact room_f (by assumption) (by decide) | exact room_a (by assumption) (by decide) | exact room_b (by assumption) (by decide) | exact room_c (by assumption) (by decide) | exact room_e (by assumption) (by decide) | omega | (simp only [depth_deeper] at *; omega))); (case m1 => k_mem); (case m2 => k_mem); (case hi => (first | assumption | omega)); (case hlen => assumption); (case hp => assumption)); intro t' h' tk' F' N'; (try k_sweep)) | (k_unfold; (try dsimp only)) | (k_end; wrow_close) | walk1 | (dsimp only; walk1) | (leave1; walk_say "STEP leave1"; try dsimp only) | fail "no step"))
  rename List (Addr × Obj) => tlA
  rename SeqIn _ _ _ => Sq
  rename Fr g L' _ _ => Fe
  rename News g L' _ _ => Ne
  rename Fr h₀ L _ m => kF
  rename News h₀ L _ (_ :: _) => kN
  obtain ⟨z1, z2⟩ := back (tl := (_, tupO [_, _, _]) :: tlA) N U m1 hK Fe Ne kN (by kcj_in) (by k_all) (by k_all)
  exact hret _ _ _ _ _ _ _ kF z1 z2 ⟨_, _, _, _, _, rfl, .head _, Sq.mono fun _ h => .tail _ h⟩

theorem group_spec {q : P} (H : AltS w q) {tf : Tok} {gg : Obj → List (Addr × Obj)} {rest : List Nat}
  (B : Below A₀ base outer h₀) (F : Fr h₀ L s.heap m) (X : (pre.heap_1 w.params).In h₀) (N : News h₀ L s.heap news) (T : Top vw lo mean mg mb h₀) (hA : A.frames = some (env :: outer)) (hf : env.frame = some L) (hke : env.scope.kind = .function) (hh : A.handled = none)
  (hdp : A.depth + (6 * q.ht + 10) < recursionLimit)
  (m1 : (x, instObj 273 dx) ∈ news) (U : UpdF dx (dictOf (ptE h1 h2 h3 h4 h5 h6 h7 k1 k2 k3 k4 k5 k6 k7 (.str txt t1) v2 (.int (i) t3) (.int (gn) t4) (.int (dn) t5) v6 v7) 7) news gg)
  (hi : 0 ≤ i) (hi2 : i + 1 ≤ 100) (hlen : txt.length ≤ 100) (hG : Good txt)
  (hd : txt.cps.toList.drop (i + 1).toNat = q.print ++ 41 :: rest) (hok : q.ok)
  (hdn : 0 ≤ dn) (hdn2 : dn + q.ht + 1 ≤ 40)
  (hret : ∀ v tl t3' t4' t5' h' tk', Fr h₀ L h' m → News h₀ L h' (gg (dictOf (ptE h1 h2 h3 h4 h5 h6 h7 k1 k2 k3 k4 k5 k6 k7 (.str txt t1) v2 (.int (i + 1 + (q.print.length : Int) + 1) t3') (.int (gn + 1 + (q.ng : Int)) t4') (.int (dn) t5') v6 v7) 7) ++ tl) → Off tl news → GroupIn tl v q → Q v { s with heap := h', toks := tk' }) :
  wpAny (model PySem.Challenge.rw_qz0116_01.row.toRowW.1 w) A (call (.ref 551) [.ref x, .str (Str.ofString "") tf]) Q E s := by
  refine wpAny_call ?_
  have m2 := UpdF.mem U
  have hin := in2 m1 m2
  have N2 := News.sub N hin
  have hne := inst_ne N m1 m2
  (k_dflt (refine' enterS B F X N2 T ?kA hf hke ?k6 ?k7 ?k8 ?k9 ?kB ?_ ?c2 ?c3 ?c4 ?c5; (case kA => exact hA); (case k6 => k_is); (case k7 => k_is); (case k8 => (first | assumption | exact room_d (by assumption) | exact room_f (by assumption) (by decide) | exact room_a (by assumption) (by decide) | exact room_b (by assumption) (by decide) | exact room_c (by assumption) (by decide) | exact room_e (by assumption) (by decide) | omega | (simp only [depth_deeper] at *; omega))); (case k9 => exact BindsTo.of_eq rfl); (case c5 => decide); (case kB => exact locs rfl); (case c2 => exact rfl); (case c3 => exact rfl); (case c4 => exact rfl)))
  intro g L' hq FG F' N' B' X' T' l1 hK hS hL
  (try k_lt l1)
  (try dsimp only); (try k_fold)
  (repeat' (first | ((with_reducible show wpAny _ _ (call (Value.ref 537) _) _ _ _); k_here; k_dflt (apply capture_spec; (case H => assumption); (case B => k_asm); (case F => k_asm); (case X => k_asm); (case N => k_asm); (case T => k_asm); (case hA => first | exact Around.frames_deeper (Below.stack (by k_asm)) | assumption); (case hf => first | exact rfl | assumption); (case hke => first | exact rfl | assumption); (case hh => assumption); (case hdp => (first | assumption | exact room_d (by assumption) | exact room_f (by assumption) (by decide) | exact room_a (by assumption) (by decide) | exact room_b (by assumption) (by decide) | exact room_c (by assumption) (by decide) | exact room_e (by assumption) (by decide) | omega | (simp only [depth_deeper] at *; omega))); (case m1 => k_mem); (case U => k_updF); (case hi => (first | assumption | omega)); (case hi2 => (first | assumption | omega)); (case hlen => assumption); (case hG => assumption); (case hd => assumption); (case hok => assumption); (case hdn => (first | assumption | omega)); (case hdn2 => (first | assumption | omega))); intro v' tl' t3' t4' t5' h' tk' F' N' O' S'; (try simp only [List.cons_append, List.nil_append, List.append_assoc] at N'); (try k_sweep)) | ((with_reducible show wpAny _ _ (call (Value.ref 530) _) _ _ _); k_here; k_dflt (apply inner_spec; (case H => assumption); (case B => k_asm); (case F => k_asm); (case X => k_asm); (case N => k_asm); (case T => k_asm); (case hA => first | exact Around.frames_deeper (Below.stack (by k_asm)) | assumption); (case hf => first | exact rfl | assumption); (case hke => first | exact rfl | assumption); (case hh => assumption); (case hdp => (first | assumption | exact room_d (by assumption) | exact room_f (by assumption) (by decide) | exact room_a (by assumption) (by decide) | exact room_b (by assumption) (by decide) | exact room_c (by assumption) (by decide) | exact room_e (by assumption) (by decide) | omega | (simp only [depth_deeper] at *; omega))); (case m1 => k_mem); (case U => k_updF); (case hi => (first | assumption | omega)); (case hi2 => (first | assumption | omega)); (case hlen => assumption); (case hG => assumption); (case hd => assumption); (case hok => assumption); (case hdn => (first | assumption | omega)); (case hdn2 => (first | assumption | omega))); intro v' tl' t3' t4' t5' h' tk' F' N' O' S'; (try simp only [List.cons_append, List.nil_append, List.append_assoc] at N'); (try k_sweep)) | ((with_reducible show wpAny _ _ (call (Value.ref 502) _) _ _ _); k_here; k_dflt (apply alt_use; (case H => assumption); (case B => k_asm); (case F => k_asm); (case X => k_asm); (case N => k_asm); (case T => k_asm); (case hA => first | exact Around.frames_deeper (Below.stack (by k_asm)) | assumption); (case hf => first | exact rfl | assumption); (case hke => first | exact rfl | assumption); (case hh => assumption); (case hdp => (first | assumption | exact room_d (by assumption) | exact room_f (by assumption) (by decide) | exact room_a (by assumption) (by decide) | exact room_b (by assumption) (by decide) | exact room_c (by assumption) (by decide) | exact room_e (by assumption) (by decide) | omega | (simp only [depth_deeper] at *; omega))); (case m1 => k_mem); (case U => k_updF); (case hi => (first | assumption | omega)); (case hi2 => (first | assumption | omega)); (case hlen => assumption); (case hG => assumption); (case hd => assumption); (case hr => first | exact .inr ⟨_, rfl⟩ | exact .inl rfl | assumption); (case hok => assumption); (case hdn => (first | assumption | omega)); (case hdn2 => (first | assumption | omega))); intro v' tl' t3' t4' t5' h' tk' F' N' O' S'; (try simp only [List.cons_append, List.nil_append, List.append_assoc] at N'); (try k_sweep)) | ((with_reducible show wpAny _ _ (call (Value.ref 434) _) _ _ _); k_here; k_dflt (first | (apply take_count_o; (case B => k_asm); (case F => k_asm); (case X => k_asm); (case N => k_asm); (case T => k_asm); (case hA => first | exact Around.frames_deeper (Below.stack (by k_asm)) | assumption); (case hf => first | exact rfl | assumption); (case hke => first | exact rfl | assumption); (case hh => assumption); (case hdp => (first | assumption | exact room_d (by assumption) | exact room_f (by assumption) (by decide) | exact room_a (by assumption) (by decide) | exact room_b (by assumption) (by decide) | exact room_c (by assumption) (by decide) | exact room_e (by assumption) (by decide) | omega | (simp only [depth_deeper] at *; omega))); (case m1 => k_mem); (case m2 => k_mem); (case hi => (first | assumption | omega)); (case hi2 => (first | assumption | omega)); (case hlen => assumption); (case hp => assumption)) | (apply take_count_c; (case B => k_asm); (case F => k_asm); (case X => k_asm); (case N => k_asm); (case T => k_asm); (case hA => first | exact Around.frames_deeper (Below.stack (by k_asm)) | assumption); (case hf => first | exact rfl | assumption); (case hke => first | exact rfl | assumption); (case hh => assumption); (case hdp => (first | assumption | exact room_d (by assumption) | exact room_f (by assumption) (by decide) | exact room_a (by assumption) (by decide) | exact room_b (by assumption) (by decide) | exact room_c (by assumption) (by decide) | exact room_e (by assumption) (by decide) | omega | (simp only [depth_deeper] at *; omega))); (case m1 => k_mem); (case m2 => k_mem); (case hi => (first | assumption | omega)); (case hi2 => (first | assumption | omega)); (case hlen => assumption); (case hp => assumption)) | (apply take_count_a; (case B => k_asm); (case F => k_asm); (case X => k_asm); (case N => k_asm); (case T => k_asm); (case hA => first | exact Around.frames_deeper (Below.stack (by k_asm)) | assumption); (case hf => first | exact rfl | assumption); (case hke => first | exact rfl | assumption); (case hh => assumption); (case hdp => (first | assumption | exact room_d (by assumption) | exact room_f (by assumption) (by decide) | exact room_a (by assumption) (by decide) | exact room_b (by assumption) (by decide) | exact room_c (by assumption) (by decide) | exact room_e (by assumption) (by decide) | omega | (simp only [depth_deeper] at *; omega))); (case m1 => k_mem); (case m2 => k_mem); (case hi => (first | assumption | omega)); (case hi2 => (first | assumption | omega)); (case hlen => assumption); (case hp => assumption)) | (apply take_count_b; (case B => k_asm); (case F => k_asm); (case X => k_asm); (case N => k_asm); (case T => k_asm); (case hA => first | exact Around.frames_deeper (Below.stack (by k_asm)) | assumption); (case hf => first | exact rfl | assumption); (case hke => first | exact rfl | assumption); (case hh => assumption); (case hdp => (first | assumption | exact room_d (by assumption) | exact room_f (by assumption) (by decide) | exact room_a (by assumption) (by decide) | exact room_b (by assumption) (by decide) | exact room_c (by assumption) (by decide) | exact room_e (by assumption) (by decide) | omega | (simp only [depth_deeper] at *; omega))); (case m1 => k_mem); (case m2 => k_mem); (case hi => (first | assumption | omega)); (case hi2 => (first | assumption | omega)); (case hlen => assumption); (case hp => assumption)) | (apply take_count_d; (case B => k_asm); (case F => k_asm); (case X => k_asm); (case N => k_asm); (case T => k_asm); (case hA => first | exact Around.frames_deeper (Below.stack (by k_asm)) | assumption); (case hf => first | exact rfl | assumption); (case hke => first | exact rfl | assumption); (case hh => assumption); (case hdp => (first | assumption | exact room_d (by assumption) | exact room_f (by assumption) (by decide) | exact room_a (by assumption) (by decide) | exact room_b (by assumption) (by decide) | exact room_c (by assumption) (by decide) | exact room_e (by assumption) (by decide) | omega | (simp only [depth_deeper] at *; omega))); (case m1 => k_mem); (case m2 => k_mem); (case hi => (first | assumption | omega)); (case hi2 => (first | assumption | omega)); (case hlen => assumption); (case hp => assumption)) | (apply take_count_e; (case B => k_asm); (case F => k_asm); (case X => k_asm); (case N => k_asm); (case T => k_asm); (case hA => first | exact Around.frames_deeper (Below.stack (by k_asm)) | assumption); (case hf => first | exact rfl | assumption); (case hke => first | exact rfl | assumption); (case hh => assumption); (case hdp => (first | assumption | exact room_d (by assumption) | exact room_f (by assumption) (by decide) | exact room_a (by assumption) (by decide) | exact room_b (by assumption) (by decide) | exact room_c (by assumption) (by decide) | exact room_e (by assumption) (by decide) | omega | (simp only [depth_deeper] at *; omega))); (case m1 => k_mem); (case m2 => k_mem); (case hi => (first | assumption | omega)); (case hi2 => (first | assumption | omega)); (case hlen => assumption); (case hp => assumption))); intro h' tk' F' N'; (try dsimp only at N'); (try k_sweep)) | ((with_reducible show wpAny _ _ (call (Value.ref 495) _) _ _ _); k_here; k_dflt (apply read_inline_spec; (case B => k_asm); (case F => k_asm); (case X => k_asm); (case N => k_asm); (case T => k_asm); (case hA => first | exact Around.frames_deeper (Below.stack (by k_asm)) | assumption); (case hf => first | exact rfl | assumption); (case hke => first | exact rfl | assumption); (case hh => assumption); (case hdp => (first | assumption | exact room_d (by assumption) | exact room_f (by assumption) (by decide) | exact room_a (by assumption) (by decide) | exact room_b (by assumption) (by decide) | exact room_c (by assumption) (by decide) | exact room_e (by assumption) (by decide) | omega | (simp only [depth_deeper] at *; omega))); (case m1 => k_mem); (case m2 => k_mem); (case hi => (first | assumption | omega)); (case hi2 => (first | assumption | omega)); (case hlen => assumption); (case hG => assumption)); intro h' tk' F' N'; (try dsimp only at N'); (try k_sweep)) | ((with_reducible show wpAny _ _ (call (Value.ref 483) _) _ _ _); k_here; k_dflt (apply skip_unseen_spec; (case B => k_asm); (case F => k_asm); (case X => k_asm); (case N => k_asm); (case T => k_asm); (case hA => first | exact Around.frames_deeper (Below.stack (by k_asm)) | assumption); (case hf => first | exact rfl | assumption); (case hke => first | exact rfl | assumption); (case hh => assumption); (case hdp => (first | assumption | exact room_d (by assumption) | exact room_f (by assumption) (by decide) | exact room_a (by assumption) (by decide) | exact room_b (by assumption) (by decide) | exact room_c (by assumption) (by decide) | exact room_e (by assumption) (by decide) | omega | (simp only [depth_deeper] at *; omega))); (case m1 => k_mem); (case m2 => k_mem); (case hi => (first | assumption | omega)); (case hi2 => (first | assumption | omega)); (case hlen => assumption); (case hG => assumption)); intro h' tk' F' N'; (try dsimp only at N'); (try k_sweep)) | ((with_reducible show wpAny _ _ (call (Value.ref 270) _) _ _ _); k_here; k_dflt (apply skips_yes1; (case B => k_asm); (case F => k_asm); (case X => k_asm); (case N => k_asm); (case T => k_asm); (case hA => first | exact Around.frames_deeper (Below.stack (by k_asm)) | assumption); (case hf => first | exact rfl | assumption); (case hke => first | exact rfl | assumption); (case hh => assumption); (case hdp => (first | assumption | exact room_d (by assumption) | exact room_f (by assumption) (by decide) | exact room_a (by assumption) (by decide) | exact room_b (by assumption) (by decide) | exact room_c (by assumption) (by decide) | exact room_e (by assumption) (by decide) | omega | (simp only [depth_deeper] at *; omega))); (case m1 => k_mem); (case U => k_updF); (case hi => (first | assumption | omega)); (case hi2 => (first | assumption | omega)); (case hlen => assumption); (case hw => decide +kernel); (case hs => assumption)); intro t' h' tk' F' N'; (try dsimp only at N'); (try k_sweep); (try simp only [List.cons_append, List.nil_append] at N')) | ((with_reducible show wpAny _ _ (call (Value.ref 270) _) _ _ _); k_here; k_dflt (apply skips_yes; (case B => k_asm); (case F => k_asm); (case X => k_asm); (case N => k_asm); (case T => k_asm); (case hA => first | exact Around.frames_deeper (Below.stack (by k_asm)) | assumption); (case hf => first | exact rfl | assumption); (case hke => first | exact rfl | assumption); (case hh => assumption); (case hdp => (first | assumption | exact room_d (by assumption) | exact room_f (by assumption) (by decide) | exact room_a (by assumption) (by decide) | exact room_b (by assumption) (by decide) | exact room_c (by assumption) (by decide) | exact room_e (by assumption) (by decide) | omega | (simp only [depth_deeper] at *; omega))); (case m1 => k_mem); (case U => k_updF); (case hi => (first | assumption | omega)); (case hi2 => (first | assumption | omega)); (case hlen => assumption); (case hw => decide +kernel); (case hs => assumption)); intro t' h' tk' F' N'; (try dsimp only at N'); (try k_sweep)) | ((with_reducible show wpAny _ _ (call (Value.ref 270) _) _ _ _); k_here; k_dflt (apply skips_no; (case B => k_asm); (case F => k_asm); (case X => k_asm); (case N => k_asm); (case T => k_asm); (case hA => first | exact Around.frames_deeper (Below.stack (by k_asm)) | assumption); (case hf => first | exact rfl | assumption); (case hke => first | exact rfl | assumption); (case hh => assumption); (case hdp => (first | assumption | exact room_d (by assumption) | exact room_f (by assumption) (by decide) | exact room_a (by assumption) (by decide) | exact room_b (by assumption) (by decide) | exact room_c (by assumption) (by decide) | exact room_e (by assumption) (by decide) | omega | (simp only [depth_deeper] at *; omega))); (case m1 => k_mem); (case m2 => k_mem); (case hi => (first | assumption | omega)); (case hi2 => (first | assumption | omega)); (case hlen => assumption); (case hw => decide +kernel); (case hs => first | assumption | exact slice_good_ne (by assumption) (by omega) (by omega) (by decide +kernel))); intro h' tk' F' N'; (try dsimp only at N'); (try k_sweep)) | ((with_reducible show wpAny _ _ (call (Value.ref 263) _) _ _ _); k_here; k_dflt (apply peek_is; (case B => k_asm); (case F => k_asm); (case X => k_asm); (case N => k_asm); (case T => k_asm); (case hA => first | exact Around.frames_deeper (Below.stack (by k_asm)) | assumption); (case hf => first | exact rfl | assumption); (case hke => first | exact rfl | assumption); (case hh => assumption); (case hdp => (first | assumption | exact room_d (by assumption) | exact room_f (by assumption) (by decide) | exact room_a (by assumption) (by decide) | exact room_b (by assumption) (by decide) | exact room_c (by assumption) (by decide) | exact room_e (by assumption) (by decide) | omega | (simp only [depth_deeper] at *; omega))); (case m1 => k_mem); (case m2 => k_mem); (case hi => (first | assumption | omega)); (case hlen => assumption); (case hp => assumption)); intro t' h' tk' F' N'; (try k_sweep)) | (k_unfold; (try dsimp only)) | (k_end; wrow_close) | walk1 | (dsimp only; walk1) | (leave1; walk_say "STEP leave1"; try dsimp only) | fail "no step"))
  rename List (Addr × Obj) => tlA
  rename GroupIn _ _ _ => Sq
  rename Fr g L' _ _ => Fe
  rename News g L' _ _ => Ne
  rename Fr h₀ L _ m => kF
  rename News h₀ L _ (_ :: _) => kN
  obtain ⟨z1, z2⟩ := back (tl := tlA) N U m1 hK Fe Ne kN (by kcj_in) (by k_all) (by k_all)
  exact hret _ _ _ _ _ _ _ kF z1 z2 Sq

theorem atom_spec {q : P} (H : AltS w q) {tf : Tok} {gg : Obj → List (Addr × Obj)} {rest : List Nat}
  (B : Below A₀ base outer h₀) (F : Fr h₀ L s.heap m) (X : (pre.heap_1 w.params).In h₀) (N : News h₀ L s.heap news) (T : Top vw lo mean mg mb h₀) (hA : A.frames = some (env :: outer)) (hf : env.frame = some L) (hke : env.scope.kind = .function) (hh : A.handled = none)
  (hdp : A.depth + (6 * q.ht + 11) < recursionLimit)
  (m1 : (x, instObj 273 dx) ∈ news) (U : UpdF dx (dictOf (ptE h1 h2 h3 h4 h5 h6 h7 k1 k2 k3 k4 k5 k6 k7 (.str txt t1) v2 (.int (i) t3) (.int (gn) t4) (.int (dn) t5) v6 v7) 7) news gg)
  (hi : 0 ≤ i) (hi2 : i + 1 ≤ 100) (hlen : txt.length ≤ 100) (hG : Good txt)
  (hd0 : txt.cps.toList.drop i.toNat = 40 :: (q.print ++ 41 :: rest)) (hok : q.ok)
  (hdn : 0 ≤ dn) (hdn2 : dn + q.ht + 1 ≤ 40)
  (hret : ∀ v tl t3' t4' t5' h' tk', Fr h₀ L h' m → News h₀ L h' (gg (dictOf (ptE h1 h2 h3 h4 h5 h6 h7 k1 k2 k3 k4 k5 k6 k7 (.str txt t1) v2 (.int (i + 1 + (q.print.length : Int) + 1) t3') (.int (gn + 1 + (q.ng : Int)) t4') (.int (dn) t5') v6 v7) 7) ++ tl) → Off tl news → GroupIn tl v q → Q v { s with heap := h', toks := tk' }) :
  wpAny (model PySem.Challenge.rw_qz0116_01.row.toRowW.1 w) A (call (.ref 516) [.ref x, .str (Str.ofString "") tf]) Q E s := by
  refine wpAny_call ?_
  have m2 := UpdF.mem U
  have hin := in2 m1 m2
  have N2 := News.sub N hin
  have hne := inst_ne N m1 m2
  have hp : Txt.slice txt (some i) (some (i + 1)) = Str.ofString "(" := slice_is hi (by omega) hd0 (by rw [show (i + 1 - i).toNat = 1 by omega]; rfl)
  have hd : txt.cps.toList.drop (i + 1).toNat = q.print ++ 41 :: rest := drop_app (r := [40]) hi hd0 rfl
  (k_dflt (refine' enterS B F X N2 T ?kA hf hke ?k6 ?k7 ?k8 ?k9 ?kB ?_ ?c2 ?c3 ?c4 ?c5; (case kA => exact hA); (case k6 => k_is); (case k7 => k_is); (case k8 => (first | assumption | exact room_d (by assumption) | exact room_f (by assumption) (by decide) | exact room_a (by assumption) (by decide) | exact room_b (by assumption) (by decide) | exact room_c (by assumption) (by decide) | exact room_e (by assumption) (by decide) | omega | (simp only [depth_deeper] at *; omega))); (case k9 => exact BindsTo.of_eq rfl); (case c5 => decide); (case kB => exact locs rfl); (case c2 => exact rfl); (case c3 => exact rfl); (case c4 => exact rfl)))
  intro g L' hq FG F' N' B' X' T' l1 hK hS hL
  (try k_lt l1)
  (try dsimp only); (try k_fold)
  (repeat' (first | ((with_reducible show wpAny _ _ (call (Value.ref 551) _) _ _ _); k_here; k_dflt (apply group_spec; (case H => assumption); (case B => k_asm); (case F => k_asm); (case X => k_asm); (case N => k_asm); (case T => k_asm); (case hA => first | exact Around.frames_deeper (Below.stack (by k_asm)) | assumption); (case hf => first | exact rfl | assumption); (case hke => first | exact rfl | assumption); (case hh => assumption); (case hdp => (first | assumption | exact room_d (by assumption) | exact room_f (by assumption) (by decide) | exact room_a (by assumption) (by decide) | exact room_b (by assumption) (by decide) | exact room_c (by assumption) (by decide) | exact room_e (by assumption) (by decide) | omega | (simp only [depth_deeper] at *; omega))); (case m1 => k_mem); (case U => k_updF); (case hi => (first | assumption | omega)); (case hi2 => (first | assumption | omega)); (case hlen => assumption); (case hG => assumption); (case hd => assumption); (case hok => assumption); (case hdn => (first | assumption | omega)); (case hdn2 => (first | assumption | omega))); intro v' tl' t3' t4' t5' h' tk' F' N' O' S'; (try simp only [List.cons_append, List.nil_append, List.append_assoc] at N'); (try k_sweep)) | ((with_reducible show wpAny _ _ (call (Value.ref 537) _) _ _ _); k_here; k_dflt (apply capture_spec; (case H => assumption); (case B => k_asm); (case F => k_asm); (case X => k_asm); (case N => k_asm); (case T => k_asm); (case hA => first | exact Around.frames_deeper (Below.stack (by k_asm)) | assumption); (case hf => first | exact rfl | assumption); (case hke => first | exact rfl | assumption); (case hh => assumption); (case hdp => (first | assumption | exact room_d (by assumption) | exact room_f (by assumption) (by decide) | exact room_a (by assumption) (by decide) | exact room_b (by assumption) (by decide) | exact room_c (by assumption) (by decide) | exact room_e (by assumption) (by decide) | omega | (simp only [depth_deeper] at *; omega))); (case m1 => k_mem); (case U => k_updF); (case hi => (first | assumption | omega)); (case hi2 => (first | assumption | omega)); (case hlen => assumption); (case hG => assumption); (case hd => assumption); (case hok => assumption); (case hdn => (first | assumption | omega)); (case hdn2 => (first | assumption | omega))); intro v' tl' t3' t4' t5' h' tk' F' N' O' S'; (try simp only [List.cons_append, List.nil_append, List.append_assoc] at N'); (try k_sweep)) | ((with_reducible show wpAny _ _ (call (Value.ref 530) _) _ _ _); k_here; k_dflt (apply inner_spec; (case H => assumption); (case B => k_asm); (case F => k_asm); (case X => k_asm); (case N => k_asm); (case T => k_asm); (case hA => first | exact Around.frames_deeper (Below.stack (by k_asm)) | assumption); (case hf => first | exact rfl | assumption); (case hke => first | exact rfl | assumption); (case hh => assumption); (case hdp => (first | assumption | exact room_d (by assumption) | exact room_f (by assumption) (by decide) | exact room_a (by assumption) (by decide) | exact room_b (by assumption) (by decide) | exact room_c (by assumption) (by decide) | exact room_e (by assumption) (by decide) | omega | (simp only [depth_deeper] at *; omega))); (case m1 => k_mem); (case U => k_updF); (case hi => (first | assumption | omega)); (case hi2 => (first | assumption | omega)); (case hlen => assumption); (case hG => assumption); (case hd => assumption); (case hok => assumption); (case hdn => (first | assumption | omega)); (case hdn2 => (first | assumption | omega))); intro v' tl' t3' t4' t5' h' tk' F' N' O' S'; (try simp only [List.cons_append, List.nil_append, List.append_assoc] at N'); (try k_sweep)) | ((with_reducible show wpAny _ _ (call (Value.ref 502) _) _ _ _); k_here; k_dflt (apply alt_use; (case H => assumption); (case B => k_asm); (case F => k_asm); (case X => k_asm); (case N => k_asm); (case T => k_asm); (case hA => first | exact Around.frames_deeper (Below.stack (by k_asm)) | assumption); (case hf => first | exact rfl | assumption); (case hke => first | exact rfl | assumption); (case hh => assumption); (case hdp => (first | assumption | exact room_d (by assumption) | exact room_f (by assumption) (by decide) | exact room_a (by assumption) (by decide) | exact room_b (by assumption) (by decide) | exact room_c (by assumption) (by decide) | exact room_e (by assumption) (by decide) | omega | (simp only [depth_deeper] at *; omega))); (case m1 => k_mem); (case U => k_updF); (case hi => (first | assumption | omega)); (case hi2 => (first | assumption | omega)); (case hlen => assumption); (case hG => assumption); (case hd => assumption); (case hr => first | exact .inr ⟨_, rfl⟩ | exact .inl rfl | assumption); (case hok => assumption); (case hdn => (first | assumption | omega)); (case hdn2 => (first | assumption | omega))); intro v' tl' t3' t4' t5' h' tk' F' N' O' S'; (try simp only [List.cons_append, List.nil_append, List.append_assoc] at N'); (try k_sweep)) | ((with_reducible show wpAny _ _ (call (Value.ref 434) _) _ _ _); k_here; k_dflt (first | (apply take_count_o; (case B => k_asm); (case F => k_asm); (case X => k_asm); (case N => k_asm); (case T => k_asm); (case hA => first | exact Around.frames_deeper (Below.stack (by k_asm)) | assumption); (case hf => first | exact rfl | assumption); (case hke => first | exact rfl | assumption); (case hh => assumption); (case hdp => (first | assumption | exact room_d (by assumption) | exact room_f (by assumption) (by decide) | exact room_a (by assumption) (by decide) | exact room_b (by assumption) (by decide) | exact room_c (by assumption) (by decide) | exact room_e (by assumption) (by decide) | omega | (simp only [depth_deeper] at *; omega))); (case m1 => k_mem); (case m2 => k_mem); (case hi => (first | assumption | omega)); (case hi2 => (first | assumption | omega)); (case hlen => assumption); (case hp => assumption)) | (apply take_count_c; (case B => k_asm); (case F => k_asm); (case X => k_asm); (case N => k_asm); (case T => k_asm); (case hA => first | exact Around.frames_deeper (Below.stack (by k_asm)) | assumption); (case hf => first | exact rfl | assumption); (case hke => first | exact rfl | assumption); (case hh => assumption); (case hdp => (first | assumption | exact room_d (by assumption) | exact room_f (by assumption) (by decide) | exact room_a (by assumption) (by decide) | exact room_b (by assumption) (by decide) | exact room_c (by assumption) (by decide) | exact room_e (by assumption) (by decide) | omega | (simp only [depth_deeper] at *; omega))); (case m1 => k_mem); (case m2 => k_mem); (case hi => (first | assumption | omega)); (case hi2 => (first | assumption | omega)); (case hlen => assumption); (case hp => assumption)) | (apply take_count_a; (case B => k_asm); (case F => k_asm); (case X => k_asm); (case N => k_asm); (case T => k_asm); (case hA => first | exact Around.frames_deeper (Below.stack (by k_asm)) | assumption); (case hf => first | exact rfl | assumption); (case hke => first | exact rfl | assumption); (case hh => assumption); (case hdp => (first | assumption | exact room_d (by assumption) | exact room_f (by assumption) (by decide) | exact room_a (by assumption) (by decide) | exact room_b (by assumption) (by decide) | exact room_c (by assumption) (by decide) | exact room_e (by assumption) (by decide) | omega | (simp only [depth_deeper] at *; omega))); (case m1 => k_mem); (case m2 => k_mem); (case hi => (first | assumption | omega)); (case hi2 => (first | assumption | omega)); (case hlen => assumption); (case hp => assumption)) | (apply take_count_b; (case B => k_asm); (case F => k_asm); (case X => k_asm); (case N => k_asm); (case T => k_asm); (case hA => first | exact Around.frames_deeper (Below.stack (by k_asm)) | assumption); (case hf => first | exact rfl | assumption); (case hke => first | exact rfl | assumption); (case hh => assumption); (case hdp => (first | assumption | exact room_d (by assumption) | exact room_f (by assumption) (by decide) | exact room_a (by assumption) (by decide) | exact room_b (by assumption) (by decide) | exact room_c (by assumption) (by decide) | exact room_e (by assumption) (by decide) | omega | (simp only [depth_deeper] at *; omega))); (case m1 => k_mem); (case m2 => k_mem); (case hi => (first | assumption | omega)); (case hi2 => (first | assumption | omega)); (case hlen => assumption); (case hp => assumption)) | (apply take_count_d; (case B => k_asm); (case F => k_asm); (case X => k_asm); (case N => k_asm); (case T => k_asm); (case hA => first | exact Around.frames_deeper (Below.stack (by k_asm)) | assumption); (case hf => first | exact rfl | assumption); (case hke => first | exact rfl | assumption); (case hh => assumption); (case hdp => (first | assumption | exact room_d (by assumption) | exact room_f (by assumption) (by decide) | exact room_a (by assumption) (by decide) | exact room_b (by assumption) (by decide) | exact room_c (by assumption) (by decide) | exact room_e (by assumption) (by decide) | omega | (simp only [depth_deeper] at *; omega))); (case m1 => k_mem); (case m2 => k_mem); (case hi => (first | assumption | omega)); (case hi2 => (first | assumption | omega)); (case hlen => assumption); (case hp => assumption)) | (apply take_count_e; (case B => k_asm); (case F => k_asm); (case X => k_asm); (case N => k_asm); (case T => k_asm); (case hA => first | exact Around.frames_deeper (Below.stack (by k_asm)) | assumption); (case hf => first | exact rfl | assumption); (case hke => first | exact rfl | assumption); (case hh => assumption); (case hdp => (first | assumption | exact room_d (by assumption) | exact room_f (by assumption) (by decide) | exact room_a (by assumption) (by decide) | exact room_b (by assumption) (by decide) | exact room_c (by assumption) (by decide) | exact room_e (by assumption) (by decide) | omega | (simp only [depth_deeper] at *; omega))); (case m1 => k_mem); (case m2 => k_mem); (case hi => (first | assumption | omega)); (case hi2 => (first | assumption | omega)); (case hlen => assumption); (case hp => assumption))); intro h' tk' F' N'; (try dsimp only at N'); (try k_sweep)) | ((with_reducible show wpAny _ _ (call (Value.ref 495) _) _ _ _); k_here; k_dflt (apply read_inline_spec; (case B => k_asm); (case F => k_asm); (case X => k_asm); (case N => k_asm); (case T => k_asm); (case hA => first | exact Around.frames_deeper (Below.stack (by k_asm)) | assumption); (case hf => first | exact rfl | assumption); (case hke => first | exact rfl | assumption); (case hh => assumption); (case hdp => (first | assumption | exact room_d (by assumption) | exact room_f (by assumption) (by decide) | exact room_a (by assumption) (by decide) | exact room_b (by assumption) (by decide) | exact room_c (by assumption) (by decide) | exact room_e (by assumption) (by decide) | omega | (simp only [depth_deeper] at *; omega))); (case m1 => k_mem); (case m2 => k_mem); (case hi => (first | assumption | omega)); (case hi2 => (first | assumption | omega)); (case hlen => assumption); (case hG => assumption)); intro h' tk' F' N'; (try dsimp only at N'); (try k_sweep)) | ((with_reducible show wpAny _ _ (call (Value.ref 483) _) _ _ _); k_here; k_dflt (apply skip_unseen_spec; (case B => k_asm); (case F => k_asm); (case X => k_asm); (case N => k_asm); (case T => k_asm); (case hA => first | exact Around.frames_deeper (Below.stack (by k_asm)) | assumption); (case hf => first | exact rfl | assumption); (case hke => first | exact rfl | assumption); (case hh => assumption); (case hdp => (first | assumption | exact room_d (by assumption) | exact room_f (by assumption) (by decide) | exact room_a (by assumption) (by decide) | exact room_b (by assumption) (by decide) | exact room_c (by assumption) (by decide) | exact room_e (by assumption) (by decide) | omega | (simp only [depth_deeper] at *; omega))); (case m1 => k_mem); (case m2 => k_mem); (case hi => (first | assumption | omega)); (case hi2 => (first | assumption | omega)); (case hlen => assumption); (case hG => assumption)); intro h' tk' F' N'; (try dsimp only at N'); (try k_sweep)) | ((with_reducible show wpAny _ _ (call (Value.ref 270) _) _ _ _); k_here; k_dflt (apply skips_yes1; (case B => k_asm); (case F => k_asm); (case X => k_asm); (case N => k_asm); (case T => k_asm); (case hA => first | exact Around.frames_deeper (Below.stack (by k_asm)) | assumption); (case hf => first | exact rfl | assumption); (case hke => first | exact rfl | assumption); (case hh => assumption); (case hdp => (first | assumption | exact room_d (by assumption) | exact room_f (by assumption) (by decide) | exact room_a (by assumption) (by decide) | exact room_b (by assumption) (by decide) | exact room_c (by assumption) (by decide) | exact room_e (by assumption) (by decide) | omega | (simp only [depth_deeper] at *; omega))); (case m1 => k_mem); (case U => k_updF); (case hi => (first | assumption | omega)); (case hi2 => (first | assumption | omega)); (case hlen => assumption); (case hw => decide +kernel); (case hs => assumption)); intro t' h' tk' F' N'; (try dsimp only at N'); (try k_sweep); (try simp only [List.cons_append, List.nil_append] at N')) | ((with_reducible show wpAny _ _ (call (Value.ref 270) _) _ _ _); k_here; k_dflt (apply skips_yes; (case B => k_asm); (case F => k_asm); (case X => k_asm); (case N => k_asm); (case T => k_asm); (case hA => first | exact Around.frames_deeper (Below.stack (by k_asm)) | assumption); (case hf => first | exact rfl | assumption); (case hke => first | exact rfl | assumption); (case hh => assumption); (case hdp => (first | assumption | exact room_d (by assumption) | exact room_f (by assumption) (by decide) | exact room_a (by assumption) (by decide) | exact room_b (by assumption) (by decide) | exact room_c (by assumption) (by decide) | exact room_e (by assumption) (by decide) | omega | (simp only [depth_deeper] at *; omega))); (case m1 => k_mem); (case U => k_updF); (case hi => (first | assumption | omega)); (case hi2 => (first | assumption | omega)); (case hlen => assumption); (case hw => decide +kernel); (case hs => assumption)); intro t' h' tk' F' N'; (try dsimp only at N'); (try k_sweep)) | ((with_reducible show wpAny _ _ (call (Value.ref 270) _) _ _ _); k_here; k_dflt (apply skips_no; (case B => k_asm); (case F => k_asm); (case X => k_asm); (case N => k_asm); (case T => k_asm); (case hA => first | exact Around.frames_deeper (Below.stack (by k_asm)) | assumption); (case hf => first | exact rfl | assumption); (case hke => first | exact rfl | assumption); (case hh => assumption); (case hdp => (first | assumption | exact room_d (by assumption) | exact room_f (by assumption) (by decide) | exact room_a (by assumption) (by decide) | exact room_b (by assumption) (by decide) | exact room_c (by assumption) (by decide) | exact room_e (by assumption) (by decide) | omega | (simp only [depth_deeper] at *; omega))); (case m1 => k_mem); (case m2 => k_mem); (case hi => (first | assumption | omega)); (case hi2 => (first | assumption | omega)); (case hlen => assumption); (case hw => decide +kernel); (case hs => first | assumption | exact slice_good_ne (by assumption) (by omega) (by omega) (by decide +kernel))); intro h' tk' F' N'; (try dsimp only at N'); (try k_sweep)) | ((with_reducible show wpAny _ _ (call (Value.ref 263) _) _ _ _); k_here; k_dflt (apply peek_is; (case B => k_asm); (case F => k_asm); (case X => k_asm); (case N => k_asm); (case T => k_asm); (case hA => first | exact Around.frames_deeper (Below.stack (by k_asm)) | assumption); (case hf => first | exact rfl | assumption); (case hke => first | exact rfl | assumption); (case hh => assumption); (case hdp => (first | assumption | exact room_d (by assumption) | exact room_f (by assumption) (by decide) | exact room_a (by assumption) (by decide) | exact room_b (by assumption) (by decide) | exact room_c (by assumption) (by decide) | exact room_e (by assumption) (by decide) | omega | (simp only [depth_deeper] at *; omega))); (case m1 => k_mem); (case m2 => k_mem); (case hi => (first | assumption | omega)); (case hlen => assumption); (case hp => assumption)); intro t' h' tk' F' N'; (try k_sweep)) | (k_unfold; (try dsimp only)) | (k_end; wrow_close) | walk1 | (dsimp only; walk1) | (leave1; walk_say "STEP leave1"; try dsimp only) | fail "no step"))
  rename List (Addr × Obj) => tlA
  rename GroupIn _ _ _ => Sq
  rename Fr g L' _ _ => Fe
  rename News g L' _ _ => Ne
  rename Fr h₀ L _ m => kF
  rename News h₀ L _ (_ :: _) => kN
  obtain ⟨z1, z2⟩ := back (tl := tlA) N U m1 hK Fe Ne kN (by kcj_in) (by k_all) (by k_all)
  exact hret _ _ _ _ _ _ _ kF z1 z2 Sq
end

end Mine
end
local macro_rules | `(tactic| walk_at "call builtin:list.append") => `(tactic| (k_here; (with_reducible show wpAny _ _ (call (Value.builtin _) [Value.ref _, _]) _ _ _); k_dflt (refine' append_K ?k1 ?k2 ?k3 ?_ ?z; (case k1 => k_asm); (case k2 => k_asm); (case k3 => k_upd); (case z => (simp only [List.size_toArray]; rw [sizeLine_eq]; omega)); k_whole); intro h' F' N'; (try k_sweep)))
local macro_rules | `(tactic| walk_at "exec While Compare") => `(tactic| (k_here; refine hold ?_))
local macro_rules | `(tactic| walk_at "exec While") => `(tactic| (k_here; refine hold ?_))
local macro_rules | `(tactic| walk_at "WhlRest") => `(tactic| (refine hold ?_))
-- S7
section
open PySem PySem.W PyProof.Rows PySem.Calls PySem.Spec
namespace Mine
theorem whl_ind {prog : Program} {w : World} {A : Around} {E : Value → Shared → Prop} {env : Env} {test : PySem.Expr} {body orelse : List Stmt} {Q : Flow → Shared → Prop} (Inv : P → Shared → Prop)
    (step : ∀ p s, Inv p s → (∀ p' s', p'.size < p.size → Inv p' s' → WhlRest prog w A E env test body orelse Q 0 s') → WhlRest prog w A E env test body orelse Q 1 s) : ∀ p s, Inv p s → WhlRest prog w A E env test body orelse Q 1 s := by
  have all : ∀ n, ∀ p s, p.size < n → Inv p s → WhlRest prog w A E env test body orelse Q 0 s := by
    intro n
    induction n with
    | zero => intro p s h; exact absurd h (Nat.not_lt_zero _)
    | succ n ih => exact fun p s h hI => step p s hI fun p' s' h' hI' => ih p' s' (Nat.lt_of_lt_of_le h' (Nat.le_of_lt_succ h)) hI'
  exact fun p s hI => all _ p s (Nat.lt_succ_self _) hI
theorem frame_none {g h : Heap} {L : Addr} {m : Str → Option Value} {x : Str} (F : Fr g L h m) (hx : m x = none) : Fr g L h (fun y => if y = x then none else m y) := by
  have : (fun y => if y = x then none else m y) = m := by
    funext y
    by_cases e : y = x
    · subst e; simp [hx]
    · simp [e]
  rw [this]; exact F
theorem frame_same {g h : Heap} {L : Addr} {m : Str → Option Value} {x : Str} {c d : Option Value} (F : Fr g L h (fun y => if y = x then d else (fun y => if y = x then c else m y) y)) : Fr g L h (fun y => if y = x then d else m y) := by
  have : (fun y => if y = x then d else (fun y => if y = x then c else m y) y) = (fun y => if y = x then d else m y) := by
    funext y
    by_cases e : y = x <;> simp [e]
  rw [← this]; exact F
section
variable {w : World} {vw : Program} {lo : List Str} {mean : ExcName → Option Value} {mg mb : Str → Option Value} {A₀ A : Around} {base h₀ : Heap} {env : Env} {outer : List Env} {L : Addr} {m : Str → Option Value} {s : Shared} {Q E : Value → Shared → Prop} {news : List (Addr × Obj)}
  {x dx : Addr} {txt : Str} {t1 t3 t4 t5 : Tok} {i gn dn : Int} {h1 h2 h3 h4 h5 h6 h7 : Int} {k1 k2 k3 k4 k5 k6 k7 : Tok} {v2 v4 v5 v6 v7 : Value}
inductive BrInv (g : Heap) (L' : Addr) (m₁ : Str → Option Value) (s₁ : Shared) (pl x dx : Addr) (txt : Str) (t1 : Tok) (h1 h2 h3 h4 h5 h6 h7 : Int) (k1 k2 k3 k4 k5 k6 k7 : Tok) (v2 v6 v7 : Value) (dn : Int) (rest : List Nat) (p : P) (iE gE : Int) (p' : P) (s' : Shared) : Prop
  | mk (h : Heap) (tk : Nat) (c : Option Value) (i gn : Int) (t3 t4 t5 : Tok) (vs : List Value) (tl : List (Addr × Obj)) (pre : P) (n : Nat)
    (f0 : s' = { s₁ with heap := h, toks := tk }) (f1 : Fr g L' h (fun y => if y = (Str.ofString "changed") then c else m₁ y)) (f2 : News g L' h ((pl, listOf vs.toArray n) :: (x, instObj 273 dx) :: (dx, dictOf (ptE h1 h2 h3 h4 h5 h6 h7 k1 k2 k3 k4 k5 k6 k7 (.str txt t1) v2 (.int (i) t3) (.int (gn) t4) (.int (dn) t5) v6 v7) 7) :: tl)) (f3 : NodesIn tl vs pre) (f4 : pre.app p' = p) (f5 : 0 ≤ i) (f6 : i ≤ 100) (f7 : txt.cps.toList.drop i.toNat = p'.print ++ rest) (f8 : p'.ok) (f9 : p'.ht ≤ p.ht) (f10 : p'.size ≤ p.size) (f11 : i + (p'.print.length : Int) = iE) (f12 : gn + (p'.ng : Int) = gE) (f13 : vs.length + p'.print.length ≤ 100) (f14 : (∀ q ∈ tl, q.1 ≠ pl)) (f15 : (∀ q ∈ tl, q.1 ≠ x)) (f16 : (∀ q ∈ tl, q.1 ≠ dx)) : BrInv g L' m₁ s₁ pl x dx txt t1 h1 h2 h3 h4 h5 h6 h7 k1 k2 k3 k4 k5 k6 k7 v2 v6 v7 dn rest p iE gE p' s'

theorem branch_spec {p : P} (H : ∀ q : P, q.size < p.size → AltS w q) {tf : Tok} {gg : Obj → List (Addr × Obj)} {rest : List Nat}
  (B : Below A₀ base outer h₀) (F : Fr h₀ L s.heap m) (X : (pre.heap_1 w.params).In h₀) (N : News h₀ L s.heap news) (T : Top vw lo mean mg mb h₀) (hA : A.frames = some (env :: outer)) (hf : env.frame = some L) (hke : env.scope.kind = .function) (hh : A.handled = none)
  (hdp : A.depth + (6 * p.ht + 6) < recursionLimit)
  (m1 : (x, instObj 273 dx) ∈ news) (U : UpdF dx (dictOf (ptE h1 h2 h3 h4 h5 h6 h7 k1 k2 k3 k4 k5 k6 k7 (.str txt t1) v2 (.int (i) t3) (.int (gn) t4) (.int (dn) t5) v6 v7) 7) news gg)
  (hi : 0 ≤ i) (hi2 : i ≤ 100) (hlen : txt.length ≤ 100) (hG : Good txt)
  (hd : txt.cps.toList.drop i.toNat = p.print ++ rest) (hr : rest = [] ∨ ∃ r, rest = 41 :: r) (hok : p.ok)
  (hdn : 0 ≤ dn) (hdn2 : dn + p.ht ≤ 40)
  (hret : ∀ a tl v t t3' t4' t5' h' tk', Fr h₀ L h' m → News h₀ L h' (gg (dictOf (ptE h1 h2 h3 h4 h5 h6 h7 k1 k2 k3 k4 k5 k6 k7 (.str txt t1) v2 (.int (i + (p.print.length : Int)) t3') (.int (gn + (p.ng : Int)) t4') (.int (dn) t5') v6 v7) 7) ++ (a, tupO [v, .str (Str.ofString "") t]) :: tl) → Off ((a, tupO [v, .str (Str.ofString "") t]) :: tl) news → SeqIn tl v p → Q (.ref a) { s with heap := h', toks := tk' }) :
  wpAny (model PySem.Challenge.rw_qz0116_01.row.toRowW.1 w) A (call (.ref 509) [.ref x, .str (Str.ofString "") tf]) Q E s := by
  refine wpAny_call ?_
  have m2 := UpdF.mem U
  have hin := in2 m1 m2
  have N2 := News.sub N hin
  have hne := inst_ne N m1 m2
  (k_dflt (refine' enterS B F X N2 T ?kA hf hke ?k6 ?k7 ?k8 ?k9 ?kB ?_ ?c2 ?c3 ?c4 ?c5; (case kA => exact hA); (case k6 => k_is); (case k7 => k_is); (case k8 => (first | assumption | exact room_d (by assumption) | exact room_f (by assumption) (by decide) | exact room_a (by assumption) (by decide) | exact room_b (by assumption) (by decide) | exact room_c (by assumption) (by decide) | exact room_e (by assumption) (by decide) | omega | (simp only [depth_deeper] at *; omega))); (case k9 => exact BindsTo.of_eq rfl); (case c5 => decide); (case kB => exact locs rfl); (case c2 => exact rfl); (case c3 => exact rfl); (case c4 => exact rfl)))
  intro g L' hq FG F' N' B' X' T' l1 hK hS hL
  (try k_lt l1)
  (try dsimp only); (try k_fold)
  (repeat' (first | ((with_reducible show wpAny _ _ (call (Value.ref 523) _) _ _ _); k_here; k_dflt (apply read_counted_any; (case B => k_asm); (case F => k_asm); (case X => k_asm); (case N => k_asm); (case T => k_asm); (case hA => first | exact Around.frames_deeper (Below.stack (by k_asm)) | assumption); (case hf => first | exact rfl | assumption); (case hke => first | exact rfl | assumption); (case hh => assumption); (case hdp => (first | assumption | exact room_d (by assumption) | exact room_f (by assumption) (by decide) | exact room_a (by assumption) (by decide) | exact room_b (by assumption) (by decide) | exact room_c (by assumption) (by decide) | exact room_e (by assumption) (by decide) | omega | (simp only [depth_deeper] at *; omega))); (case m1 => k_mem); (case m2 => k_mem); (case hi => (first | assumption | omega)); (case hi2 => (first | assumption | omega)); (case hlen => assumption); (case hG => assumption); (case hp => assumption)); intro h' tk' F' N'; (try dsimp only at N'); (try k_sweep)) | ((with_reducible show wpAny _ _ (call (Value.ref 516) _) _ _ _); k_here; k_dflt (first | (apply read_atom_a; (case B => k_asm); (case F => k_asm); (case X => k_asm); (case N => k_asm); (case T => k_asm); (case hA => first | exact Around.frames_deeper (Below.stack (by k_asm)) | assumption); (case hf => first | exact rfl | assumption); (case hke => first | exact rfl | assumption); (case hh => assumption); (case hdp => (first | assumption | exact room_d (by assumption) | exact room_f (by assumption) (by decide) | exact room_a (by assumption) (by decide) | exact room_b (by assumption) (by decide) | exact room_c (by assumption) (by decide) | exact room_e (by assumption) (by decide) | omega | (simp only [depth_deeper] at *; omega))); (case m1 => k_mem); (case U => k_updF); (case hi => (first | assumption | omega)); (case hi2 => (first | assumption | omega)); (case hlen => assumption); (case hG => assumption); (case hp => assumption)) | (apply read_atom_b; (case B => k_asm); (case F => k_asm); (case X => k_asm); (case N => k_asm); (case T => k_asm); (case hA => first | exact Around.frames_deeper (Below.stack (by k_asm)) | assumption); (case hf => first | exact rfl | assumption); (case hke => first | exact rfl | assumption); (case hh => assumption); (case hdp => (first | assumption | exact room_d (by assumption) | exact room_f (by assumption) (by decide) | exact room_a (by assumption) (by decide) | exact room_b (by assumption) (by decide) | exact room_c (by assumption) (by decide) | exact room_e (by assumption) (by decide) | omega | (simp only [depth_deeper] at *; omega))); (case m1 => k_mem); (case U => k_updF); (case hi => (first | assumption | omega)); (case hi2 => (first | assumption | omega)); (case hlen => assumption); (case hG => assumption); (case hp => assumption)) | (apply read_atom_d; (case B => k_asm); (case F => k_asm); (case X => k_asm); (case N => k_asm); (case T => k_asm); (case hA => first | exact Around.frames_deeper (Below.stack (by k_asm)) | assumption); (case hf => first | exact rfl | assumption); (case hke => first | exact rfl | assumption); (case hh => assumption); (case hdp => (first | assumption | exact room_d (by assumption) | exact room_f (by assumption) (by decide) | exact room_a (by assumption) (by decide) | exact room_b (by assumption) (by decide) | exact room_c (by assumption) (by decide) | exact room_e (by assumption) (by decide) | omega | (simp only [depth_deeper] at *; omega))); (case m1 => k_mem); (case U => k_updF); (case hi => (first | assumption | omega)); (case hi2 => (first | assumption | omega)); (case hlen => assumption); (case hG => assumption); (case hp => assumption))); intro v' tl' t' h' tk' F' N' O' S'; (try simp only [List.cons_append, List.nil_append, List.append_assoc] at N'); (try k_sweep)) | ((with_reducible show wpAny _ _ (call (Value.ref 516) _) _ _ _); k_here; k_dflt (apply atom_spec; (case H => assumption); (case B => k_asm); (case F => k_asm); (case X => k_asm); (case N => k_asm); (case T => k_asm); (case hA => first | exact Around.frames_deeper (Below.stack (by k_asm)) | assumption); (case hf => first | exact rfl | assumption); (case hke => first | exact rfl | assumption); (case hh => assumption); (case hdp => (first | assumption | exact room_d (by assumption) | exact room_f (by assumption) (by decide) | exact room_a (by assumption) (by decide) | exact room_b (by assumption) (by decide) | exact room_c (by assumption) (by decide) | exact room_e (by assumption) (by decide) | omega | (simp only [depth_deeper] at *; omega))); (case m1 => k_mem); (case U => k_updF); (case hi => (first | assumption | omega)); (case hi2 => (first | assumption | omega)); (case hlen => assumption); (case hG => assumption); (case hd0 => assumption); (case hok => assumption); (case hdn => (first | assumption | omega)); (case hdn2 => (first | assumption | omega))); intro v' tl' t3' t4' t5' h' tk' F' N' O' S'; (try simp only [List.cons_append, List.nil_append, List.append_assoc] at N'); (try k_sweep)) | ((with_reducible show wpAny _ _ (call (Value.ref 434) _) _ _ _); k_here; k_dflt (first | (apply take_count_o; (case B => k_asm); (case F => k_asm); (case X => k_asm); (case N => k_asm); (case T => k_asm); (case hA => first | exact Around.frames_deeper (Below.stack (by k_asm)) | assumption); (case hf => first | exact rfl | assumption); (case hke => first | exact rfl | assumption); (case hh => assumption); (case hdp => (first | assumption | exact room_d (by assumption) | exact room_f (by assumption) (by decide) | exact room_a (by assumption) (by decide) | exact room_b (by assumption) (by decide) | exact room_c (by assumption) (by decide) | exact room_e (by assumption) (by decide) | omega | (simp only [depth_deeper] at *; omega))); (case m1 => k_mem); (case m2 => k_mem); (case hi => (first | assumption | omega)); (case hi2 => (first | assumption | omega)); (case hlen => assumption); (case hp => assumption)) | (apply take_count_c; (case B => k_asm); (case F => k_asm); (case X => k_asm); (case N => k_asm); (case T => k_asm); (case hA => first | exact Around.frames_deeper (Below.stack (by k_asm)) | assumption); (case hf => first | exact rfl | assumption); (case hke => first | exact rfl | assumption); (case hh => assumption); (case hdp => (first | assumption | exact room_d (by assumption) | exact room_f (by assumption) (by decide) | exact room_a (by assumption) (by decide) | exact room_b (by assumption) (by decide) | exact room_c (by assumption) (by decide) | exact room_e (by assumption) (by decide) | omega | (simp only [depth_deeper] at *; omega))); (case m1 => k_mem); (case m2 => k_mem); (case hi => (first | assumption | omega)); (case hi2 => (first | assumption | omega)); (case hlen => assumption); (case hp => assumption)) | (apply take_count_a; (case B => k_asm); (case F => k_asm); (case X => k_asm); (case N => k_asm); (case T => k_asm); (case hA => first | exact Around.frames_deeper (Below.stack (by k_asm)) | assumption); (case hf => first | exact rfl | assumption); (case hke => first | exact rfl | assumption); (case hh => assumption); (case hdp => (first | assumption | exact room_d (by assumption) | exact room_f (by assumption) (by decide) | exact room_a (by assumption) (by decide) | exact room_b (by assumption) (by decide) | exact room_c (by assumption) (by decide) | exact room_e (by assumption) (by decide) | omega | (simp only [depth_deeper] at *; omega))); (case m1 => k_mem); (case m2 => k_mem); (case hi => (first | assumption | omega)); (case hi2 => (first | assumption | omega)); (case hlen => assumption); (case hp => assumption)) | (apply take_count_b; (case B => k_asm); (case F => k_asm); (case X => k_asm); (case N => k_asm); (case T => k_asm); (case hA => first | exact Around.frames_deeper (Below.stack (by k_asm)) | assumption); (case hf => first | exact rfl | assumption); (case hke => first | exact rfl | assumption); (case hh => assumption); (case hdp => (first | assumption | exact room_d (by assumption) | exact room_f (by assumption) (by decide) | exact room_a (by assumption) (by decide) | exact room_b (by assumption) (by decide) | exact room_c (by assumption) (by decide) | exact room_e (by assumption) (by decide) | omega | (simp only [depth_deeper] at *; omega))); (case m1 => k_mem); (case m2 => k_mem); (case hi => (first | assumption | omega)); (case hi2 => (first | assumption | omega)); (case hlen => assumption); (case hp => assumption)) | (apply take_count_d; (case B => k_asm); (case F => k_asm); (case X => k_asm); (case N => k_asm); (case T => k_asm); (case hA => first | exact Around.frames_deeper (Below.stack (by k_asm)) | assumption); (case hf => first | exact rfl | assumption); (case hke => first | exact rfl | assumption); (case hh => assumption); (case hdp => (first | assumption | exact room_d (by assumption) | exact room_f (by assumption) (by decide) | exact room_a (by assumption) (by decide) | exact room_b (by assumption) (by decide) | exact room_c (by assumption) (by decide) | exact room_e (by assumption) (by decide) | omega | (simp only [depth_deeper] at *; omega))); (case m1 => k_mem); (case m2 => k_mem); (case hi => (first | assumption | omega)); (case hi2 => (first | assumption | omega)); (case hlen => assumption); (case hp => assumption)) | (apply take_count_e; (case B => k_asm); (case F => k_asm); (case X => k_asm); (case N => k_asm); (case T => k_asm); (case hA => first | exact Around.frames_deeper (Below.stack (by k_asm)) | assumption); (case hf => first | exact rfl | assumption); (case hke => first | exact rfl | assumption); (case hh => assumption); (case hdp => (first | assumption | exact room_d (by assumption) | exact room_f (by assumption) (by decide) | exact room_a (by assumption) (by decide) | exact room_b (by assumption) (by decide) | exact room_c (by assumption) (by decide) | exact room_e (by assumption) (by decide) | omega | (simp only [depth_deeper] at *; omega))); (case m1 => k_mem); (case m2 => k_mem); (case hi => (first | assumption | omega)); (case hi2 => (first | assumption | omega)); (case hlen => assumption); (case hp => assumption))); intro h' tk' F' N'; (try dsimp only at N'); (try k_sweep)) | ((with_reducible show wpAny _ _ (call (Value.ref 495) _) _ _ _); k_here; k_dflt (apply read_inline_spec; (case B => k_asm); (case F => k_asm); (case X => k_asm); (case N => k_asm); (case T => k_asm); (case hA => first | exact Around.frames_deeper (Below.stack (by k_asm)) | assumption); (case hf => first | exact rfl | assumption); (case hke => first | exact rfl | assumption); (case hh => assumption); (case hdp => (first | assumption | exact room_d (by assumption) | exact room_f (by assumption) (by decide) | exact room_a (by assumption) (by decide) | exact room_b (by assumption) (by decide) | exact room_c (by assumption) (by decide) | exact room_e (by assumption) (by decide) | omega | (simp only [depth_deeper] at *; omega))); (case m1 => k_mem); (case m2 => k_mem); (case hi => (first | assumption | omega)); (case hi2 => (first | assumption | omega)); (case hlen => assumption); (case hG => assumption)); intro h' tk' F' N'; (try dsimp only at N'); (try k_sweep)) | ((with_reducible show wpAny _ _ (call (Value.ref 483) _) _ _ _); k_here; k_dflt (apply skip_unseen_spec; (case B => k_asm); (case F => k_asm); (case X => k_asm); (case N => k_asm); (case T => k_asm); (case hA => first | exact Around.frames_deeper (Below.stack (by k_asm)) | assumption); (case hf => first | exact rfl | assumption); (case hke => first | exact rfl | assumption); (case hh => assumption); (case hdp => (first | assumption | exact room_d (by assumption) | exact room_f (by assumption) (by decide) | exact room_a (by assumption) (by decide) | exact room_b (by assumption) (by decide) | exact room_c (by assumption) (by decide) | exact room_e (by assumption) (by decide) | omega | (simp only [depth_deeper] at *; omega))); (case m1 => k_mem); (case m2 => k_mem); (case hi => (first | assumption | omega)); (case hi2 => (first | assumption | omega)); (case hlen => assumption); (case hG => assumption)); intro h' tk' F' N'; (try dsimp only at N'); (try k_sweep)) | ((with_reducible show wpAny _ _ (call (Value.ref 270) _) _ _ _); k_here; k_dflt (apply skips_yes; (case B => k_asm); (case F => k_asm); (case X => k_asm); (case N => k_asm); (case T => k_asm); (case hA => first | exact Around.frames_deeper (Below.stack (by k_asm)) | assumption); (case hf => first | exact rfl | assumption); (case hke => first | exact rfl | assumption); (case hh => assumption); (case hdp => (first | assumption | exact room_d (by assumption) | exact room_f (by assumption) (by decide) | exact room_a (by assumption) (by decide) | exact room_b (by assumption) (by decide) | exact room_c (by assumption) (by decide) | exact room_e (by assumption) (by decide) | omega | (simp only [depth_deeper] at *; omega))); (case m1 => k_mem); (case U => k_updF); (case hi => (first | assumption | omega)); (case hi2 => (first | assumption | omega)); (case hlen => assumption); (case hw => decide +kernel); (case hs => assumption)); intro t' h' tk' F' N'; (try dsimp only at N'); (try k_sweep)) | ((with_reducible show wpAny _ _ (call (Value.ref 270) _) _ _ _); k_here; k_dflt (apply skips_no; (case B => k_asm); (case F => k_asm); (case X => k_asm); (case N => k_asm); (case T => k_asm); (case hA => first | exact Around.frames_deeper (Below.stack (by k_asm)) | assumption); (case hf => first | exact rfl | assumption); (case hke => first | exact rfl | assumption); (case hh => assumption); (case hdp => (first | assumption | exact room_d (by assumption) | exact room_f (by assumption) (by decide) | exact room_a (by assumption) (by decide) | exact room_b (by assumption) (by decide) | exact room_c (by assumption) (by decide) | exact room_e (by assumption) (by decide) | omega | (simp only [depth_deeper] at *; omega))); (case m1 => k_mem); (case m2 => k_mem); (case hi => (first | assumption | omega)); (case hi2 => (first | assumption | omega)); (case hlen => assumption); (case hw => decide +kernel); (case hs => first | assumption | exact slice_good_ne (by assumption) (by omega) (by omega) (by decide +kernel))); intro h' tk' F' N'; (try dsimp only at N'); (try k_sweep)) | ((with_reducible show wpAny _ _ (call (Value.ref 263) _) _ _ _); k_here; k_dflt (apply peek_is; (case B => k_asm); (case F => k_asm); (case X => k_asm); (case N => k_asm); (case T => k_asm); (case hA => first | exact Around.frames_deeper (Below.stack (by k_asm)) | assumption); (case hf => first | exact rfl | assumption); (case hke => first | exact rfl | assumption); (case hh => assumption); (case hdp => (first | assumption | exact room_d (by assumption) | exact room_f (by assumption) (by decide) | exact room_a (by assumption) (by decide) | exact room_b (by assumption) (by decide) | exact room_c (by assumption) (by decide) | exact room_e (by assumption) (by decide) | omega | (simp only [depth_deeper] at *; omega))); (case m1 => k_mem); (case m2 => k_mem); (case hi => (first | assumption | omega)); (case hlen => assumption); (case hp => assumption)); intro t' h' tk' F' N'; (try k_sweep)) | (k_unfold; (try dsimp only)) | (k_end; wrow_close) | walk1 | (dsimp only; walk1) | (leave1; walk_say "STEP leave1"; try dsimp only) | fail "no step"))
  rename Fr g L' _ _ => Fq
  rename News g L' _ _ => Nq
  skip
  have hlen2 : p.print.length ≤ 100 := by
    have := drop_len (n := 100) hd (by show txt.length ≤ 100; exact hlen) (by omega)
    omega
  unfold Hold
  refine whl_start 1 ?_
  refine whl_ind (BrInv g L' _ s _ x dx txt t1 h1 h2 h3 h4 h5 h6 h7 k1 k2 k3 k4 k5 k6 k7 v2 v6 v7 dn rest p (i + (p.print.length : Int)) (gn + (p.ng : Int))) ?_ p _ ⟨_, _, none, i, gn, _, _, _, [], [], .nil, _, rfl, frame_none (x := Str.ofString "changed") Fq rfl, Nq, .nil, rfl, hi, hi2, hd, hok, Nat.le_refl _, Nat.le_refl _, rfl, rfl, by simp; exact hlen2, by simp, by simp, by simp⟩
  rintro p' s' ⟨hA1, tkA, c, iA, gA, tA3, tA4, tA5, vs, tlA, pre, nA, rfl, FA, NA, hN, happ, hiA, hiA2, hdA, hokA, hhtA, hszA, hiE, hgE, hvs, ho1, ho2, ho3⟩ IH
  clear Fq Nq
  cases p' with
  | nil =>
    rw [P.app_nil] at happ
    subst happ
    have eI : iA = i + (pre.print.length : Int) := by have := hiE; simp only [P.print, List.length_nil] at this; omega
    have eG : gA = gn + (pre.ng : Int) := by have := hgE; simp only [P.ng] at this; omega
    subst eI eG
    rcases hr with rfl | ⟨r, rfl⟩
    · have hp : Txt.slice txt (some (i + (pre.print.length : Int))) (some (i + (pre.print.length : Int) + 1)) = Str.ofString "" := slice_is hiA (by omega) hdA (by rw [show (i + (pre.print.length : Int) + 1 - (i + (pre.print.length : Int))).toNat = 1 by omega]; rfl)
      refine whl_turn (k := 0) ?hE ?_
      case hE => first | passes_own | with_unfolding_all passes_own
      (repeat' (first | ((with_reducible show wpAny _ _ (call (Value.ref 523) _) _ _ _); k_here; k_dflt (apply read_counted_any; (case B => k_asm); (case F => k_asm); (case X => k_asm); (case N => k_asm); (case T => k_asm); (case hA => first | exact Around.frames_deeper (Below.stack (by k_asm)) | assumption); (case hf => first | exact rfl | assumption); (case hke => first | exact rfl | assumption); (case hh => assumption); (case hdp => (first | assumption | exact room_d (by assumption) | exact room_f (by assumption) (by decide) | exact room_a (by assumption) (by decide) | exact room_b (by assumption) (by decide) | exact room_c (by assumption) (by decide) | exact room_e (by assumption) (by decide) | omega | (simp only [depth_deeper] at *; omega))); (case m1 => k_mem); (case m2 => k_mem); (case hi => (first | assumption | omega)); (case hi2 => (first | assumption | omega)); (case hlen => assumption); (case hG => assumption); (case hp => assumption)); intro h' tk' F' N'; (try dsimp only at N'); (try k_sweep)) | ((with_reducible show wpAny _ _ (call (Value.ref 516) _) _ _ _); k_here; k_dflt (first | (apply read_atom_a; (case B => k_asm); (case F => k_asm); (case X => k_asm); (case N => k_asm); (case T => k_asm); (case hA => first | exact Around.frames_deeper (Below.stack (by k_asm)) | assumption); (case hf => first | exact rfl | assumption); (case hke => first | exact rfl | assumption); (case hh => assumption); (case hdp => (first | assumption | exact room_d (by assumption) | exact room_f (by assumption) (by decide) | exact room_a (by assumption) (by decide) | exact room_b (by assumption) (by decide) | exact room_c (by assumption) (by decide) | exact room_e (by assumption) (by decide) | omega | (simp only [depth_deeper] at *; omega))); (case m1 => k_mem); (case U => k_updF); (case hi => (first | assumption | omega)); (case hi2 => (first | assumption | omega)); (case hlen => assumption); (case hG => assumption); (case hp => assumption)) | (apply read_atom_b; (case B => k_asm); (case F => k_asm); (case X => k_asm); (case N => k_asm); (case T => k_asm); (case hA => first | exact Around.frames_deeper (Below.stack (by k_asm)) | assumption); (case hf => first | exact rfl | assumption); (case hke => first | exact rfl | assumption); (case hh => assumption); (case hdp => (first | assumption | exact room_d (by assumption) | exact room_f (by assumption) (by decide) | exact room_a (by assumption) (by decide) | exact room_b (by assumption) (by decide) | exact room_c (by assumption) (by decide) | exact room_e (by assumption) (by decide) | omega | (simp only [depth_deeper] at *; omega))); (case m1 => k_mem); (case U => k_updF); (case hi => (first | assumption | omega)); (case hi2 => (first | assumption | omega)); (case hlen => assumption); (case hG => assumption); (case hp => assumption)) | (apply read_atom_d; (case B => k_asm); (case F => k_asm); (case X => k_asm); (case N => k_asm); (case T => k_asm); (case hA => first | exact Around.frames_deeper (Below.stack (by k_asm)) | assumption); (case hf => first | exact rfl | assumption); (case hke => first | exact rfl | assumption); (case hh => assumption); (case hdp => (first | assumption | exact room_d (by assumption) | exact room_f (by assumption) (by decide) | exact room_a (by assumption) (by decide) | exact room_b (by assumption) (by decide) | exact room_c (by assumption) (by decide) | exact room_e (by assumption) (by decide) | omega | (simp only [depth_deeper] at *; omega))); (case m1 => k_mem); (case U => k_updF); (case hi => (first | assumption | omega)); (case hi2 => (first | assumption | omega)); (case hlen => assumption); (case hG => assumption); (case hp => assumption))); intro v' tl' t' h' tk' F' N' O' S'; (try simp only [List.cons_append, List.nil_append, List.append_assoc] at N'); (try k_sweep)) | ((with_reducible show wpAny _ _ (call (Value.ref 516) _) _ _ _); k_here; k_dflt (apply atom_spec; (case H => assumption); (case B => k_asm); (case F => k_asm); (case X => k_asm); (case N => k_asm); (case T => k_asm); (case hA => first | exact Around.frames_deeper (Below.stack (by k_asm)) | assumption); (case hf => first | exact rfl | assumption); (case hke => first | exact rfl | assumption); (case hh => assumption); (case hdp => (first | assumption | exact room_d (by assumption) | exact room_f (by assumption) (by decide) | exact room_a (by assumption) (by decide) | exact room_b (by assumption) (by decide) | exact room_c (by assumption) (by decide) | exact room_e (by assumption) (by decide) | omega | (simp only [depth_deeper] at *; omega))); (case m1 => k_mem); (case U => k_updF); (case hi => (first | assumption | omega)); (case hi2 => (first | assumption | omega)); (case hlen => assumption); (case hG => assumption); (case hd0 => assumption); (case hok => assumption); (case hdn => (first | assumption | omega)); (case hdn2 => (first | assumption | omega))); intro v' tl' t3' t4' t5' h' tk' F' N' O' S'; (try simp only [List.cons_append, List.nil_append, List.append_assoc] at N'); (try k_sweep)) | ((with_reducible show wpAny _ _ (call (Value.ref 434) _) _ _ _); k_here; k_dflt (first | (apply take_count_o; (case B => k_asm); (case F => k_asm); (case X => k_asm); (case N => k_asm); (case T => k_asm); (case hA => first | exact Around.frames_deeper (Below.stack (by k_asm)) | assumption); (case hf => first | exact rfl | assumption); (case hke => first | exact rfl | assumption); (case hh => assumption); (case hdp => (first | assumption | exact room_d (by assumption) | exact room_f (by assumption) (by decide) | exact room_a (by assumption) (by decide) | exact room_b (by assumption) (by decide) | exact room_c (by assumption) (by decide) | exact room_e (by assumption) (by decide) | omega | (simp only [depth_deeper] at *; omega))); (case m1 => k_mem); (case m2 => k_mem); (case hi => (first | assumption | omega)); (case hi2 => (first | assumption | omega)); (case hlen => assumption); (case hp => assumption)) | (apply take_count_c; (case B => k_asm); (case F => k_asm); (case X => k_asm); (case N => k_asm); (case T => k_asm); (case hA => first | exact Around.frames_deeper (Below.stack (by k_asm)) | assumption); (case hf => first | exact rfl | assumption); (case hke => first | exact rfl | assumption); (case hh => assumption); (case hdp => (first | assumption | exact room_d (by assumption) | exact room_f (by assumption) (by decide) | exact room_a (by assumption) (by decide) | exact room_b (by assumption) (by decide) | exact room_c (by assumption) (by decide) | exact room_e (by assumption) (by decide) | omega | (simp only [depth_deeper] at *; omega))); (case m1 => k_mem); (case m2 => k_mem); (case hi => (first | assumption | omega)); (case hi2 => (first | assumption | omega)); (case hlen => assumption); (case hp => assumption)) | (apply take_count_a; (case B => k_asm); (case F => k_asm); (case X => k_asm); (case N => k_asm); (case T => k_asm); (case hA => first | exact Around.frames_deeper (Below.stack (by k_asm)) | assumption); (case hf => first | exact rfl | assumption); (case hke => first | exact rfl | assumption); (case hh => assumption); (case hdp => (first | assumption | exact room_d (by assumption) | exact room_f (by assumption) (by decide) | exact room_a (by assumption) (by decide) | exact room_b (by assumption) (by decide) | exact room_c (by assumption) (by decide) | exact room_e (by assumption) (by decide) | omega | (simp only [depth_deeper] at *; omega))); (case m1 => k_mem); (case m2 => k_mem); (case hi => (first | assumption | omega)); (case hi2 => (first | assumption | omega)); (case hlen => assumption); (case hp => assumption)) | (apply take_count_b; (case B => k_asm); (case F => k_asm); (case X => k_asm); (case N => k_asm); (case T => k_asm); (case hA => first | exact Around.frames_deeper (Below.stack (by k_asm)) | assumption); (case hf => first | exact rfl | assumption); (case hke => first | exact rfl | assumption); (case hh => assumption); (case hdp => (first | assumption | exact room_d (by assumption) | exact room_f (by assumption) (by decide) | exact room_a (by assumption) (by decide) | exact room_b (by assumption) (by decide) | exact room_c (by assumption) (by decide) | exact room_e (by assumption) (by decide) | omega | (simp only [depth_deeper] at *; omega))); (case m1 => k_mem); (case m2 => k_mem); (case hi => (first | assumption | omega)); (case hi2 => (first | assumption | omega)); (case hlen => assumption); (case hp => assumption)) | (apply take_count_d; (case B => k_asm); (case F => k_asm); (case X => k_asm); (case N => k_asm); (case T => k_asm); (case hA => first | exact Around.frames_deeper (Below.stack (by k_asm)) | assumption); (case hf => first | exact rfl | assumption); (case hke => first | exact rfl | assumption); (case hh => assumption); (case hdp => (first | assumption | exact room_d (by assumption) | exact room_f (by assumption) (by decide) | exact room_a (by assumption) (by decide) | exact room_b (by assumption) (by decide) | exact room_c (by assumption) (by decide) | exact room_e (by assumption) (by decide) | omega | (simp only [depth_deeper] at *; omega))); (case m1 => k_mem); (case m2 => k_mem); (case hi => (first | assumption | omega)); (case hi2 => (first | assumption | omega)); (case hlen => assumption); (case hp => assumption)) | (apply take_count_e; (case B => k_asm); (case F => k_asm); (case X => k_asm); (case N => k_asm); (case T => k_asm); (case hA => first | exact Around.frames_deeper (Below.stack (by k_asm)) | assumption); (case hf => first | exact rfl | assumption); (case hke => first | exact rfl | assumption); (case hh => assumption); (case hdp => (first | assumption | exact room_d (by assumption) | exact room_f (by assumption) (by decide) | exact room_a (by assumption) (by decide) | exact room_b (by assumption) (by decide) | exact room_c (by assumption) (by decide) | exact room_e (by assumption) (by decide) | omega | (simp only [depth_deeper] at *; omega))); (case m1 => k_mem); (case m2 => k_mem); (case hi => (first | assumption | omega)); (case hi2 => (first | assumption | omega)); (case hlen => assumption); (case hp => assumption))); intro h' tk' F' N'; (try dsimp only at N'); (try k_sweep)) | ((with_reducible show wpAny _ _ (call (Value.ref 495) _) _ _ _); k_here; k_dflt (apply read_inline_spec; (case B => k_asm); (case F => k_asm); (case X => k_asm); (case N => k_asm); (case T => k_asm); (case hA => first | exact Around.frames_deeper (Below.stack (by k_asm)) | assumption); (case hf => first | exact rfl | assumption); (case hke => first | exact rfl | assumption); (case hh => assumption); (case hdp => (first | assumption | exact room_d (by assumption) | exact room_f (by assumption) (by decide) | exact room_a (by assumption) (by decide) | exact room_b (by assumption) (by decide) | exact room_c (by assumption) (by decide) | exact room_e (by assumption) (by decide) | omega | (simp only [depth_deeper] at *; omega))); (case m1 => k_mem); (case m2 => k_mem); (case hi => (first | assumption | omega)); (case hi2 => (first | assumption | omega)); (case hlen => assumption); (case hG => assumption)); intro h' tk' F' N'; (try dsimp only at N'); (try k_sweep)) | ((with_reducible show wpAny _ _ (call (Value.ref 483) _) _ _ _); k_here; k_dflt (apply skip_unseen_spec; (case B => k_asm); (case F => k_asm); (case X => k_asm); (case N => k_asm); (case T => k_asm); (case hA => first | exact Around.frames_deeper (Below.stack (by k_asm)) | assumption); (case hf => first | exact rfl | assumption); (case hke => first | exact rfl | assumption); (case hh => assumption); (case hdp => (first | assumption | exact room_d (by assumption) | exact room_f (by assumption) (by decide) | exact room_a (by assumption) (by decide) | exact room_b (by assumption) (by decide) | exact room_c (by assumption) (by decide) | exact room_e (by assumption) (by decide) | omega | (simp only [depth_deeper] at *; omega))); (case m1 => k_mem); (case m2 => k_mem); (case hi => (first | assumption | omega)); (case hi2 => (first | assumption | omega)); (case hlen => assumption); (case hG => assumption)); intro h' tk' F' N'; (try dsimp only at N'); (try k_sweep)) | ((with_reducible show wpAny _ _ (call (Value.ref 270) _) _ _ _); k_here; k_dflt (apply skips_yes; (case B => k_asm); (case F => k_asm); (case X => k_asm); (case N => k_asm); (case T => k_asm); (case hA => first | exact Around.frames_deeper (Below.stack (by k_asm)) | assumption); (case hf => first | exact rfl | assumption); (case hke => first | exact rfl | assumption); (case hh => assumption); (case hdp => (first | assumption | exact room_d (by assumption) | exact room_f (by assumption) (by decide) | exact room_a (by assumption) (by decide) | exact room_b (by assumption) (by decide) | exact room_c (by assumption) (by decide) | exact room_e (by assumption) (by decide) | omega | (simp only [depth_deeper] at *; omega))); (case m1 => k_mem); (case U => k_updF); (case hi => (first | assumption | omega)); (case hi2 => (first | assumption | omega)); (case hlen => assumption); (case hw => decide +kernel); (case hs => assumption)); intro t' h' tk' F' N'; (try dsimp only at N'); (try k_sweep)) | ((with_reducible show wpAny _ _ (call (Value.ref 270) _) _ _ _); k_here; k_dflt (apply skips_no; (case B => k_asm); (case F => k_asm); (case X => k_asm); (case N => k_asm); (case T => k_asm); (case hA => first | exact Around.frames_deeper (Below.stack (by k_asm)) | assumption); (case hf => first | exact rfl | assumption); (case hke => first | exact rfl | assumption); (case hh => assumption); (case hdp => (first | assumption | exact room_d (by assumption) | exact room_f (by assumption) (by decide) | exact room_a (by assumption) (by decide) | exact room_b (by assumption) (by decide) | exact room_c (by assumption) (by decide) | exact room_e (by assumption) (by decide) | omega | (simp only [depth_deeper] at *; omega))); (case m1 => k_mem); (case m2 => k_mem); (case hi => (first | assumption | omega)); (case hi2 => (first | assumption | omega)); (case hlen => assumption); (case hw => decide +kernel); (case hs => first | assumption | exact slice_good_ne (by assumption) (by omega) (by omega) (by decide +kernel))); intro h' tk' F' N'; (try dsimp only at N'); (try k_sweep)) | ((with_reducible show wpAny _ _ (call (Value.ref 263) _) _ _ _); k_here; k_dflt (apply peek_is; (case B => k_asm); (case F => k_asm); (case X => k_asm); (case N => k_asm); (case T => k_asm); (case hA => first | exact Around.frames_deeper (Below.stack (by k_asm)) | assumption); (case hf => first | exact rfl | assumption); (case hke => first | exact rfl | assumption); (case hh => assumption); (case hdp => (first | assumption | exact room_d (by assumption) | exact room_f (by assumption) (by decide) | exact room_a (by assumption) (by decide) | exact room_b (by assumption) (by decide) | exact room_c (by assumption) (by decide) | exact room_e (by assumption) (by decide) | omega | (simp only [depth_deeper] at *; omega))); (case m1 => k_mem); (case m2 => k_mem); (case hi => (first | assumption | omega)); (case hlen => assumption); (case hp => assumption)); intro t' h' tk' F' N'; (try k_sweep)) | (k_unfold; (try dsimp only)) | (k_end; wrow_close) | walk1 | (dsimp only; walk1) | (leave1; walk_say "STEP leave1"; try dsimp only) | fail "no step"))
      skip
      rename Fr g L' _ _ => Fe
      rename News g L' _ _ => Ne
      rename Fr h₀ L _ m => kF
      rename News h₀ L _ (_ :: _) => kN
      obtain ⟨z1, z2⟩ := back (tl := (_, tupO [_, _]) :: (_, tupO [.str (Str.ofString "seq") _, _]) :: (_, listOf vs.toArray nA) :: tlA) N U m1 hK Fe Ne kN (by kcj_in) (by k_all) (by k_all)
      exact hret _ _ _ _ _ _ _ _ _ kF z1 z2 (NodesIn.seq (.head _) (.tail _ (.head _)) (hN.mono fun _ h => .tail _ (.tail _ h)))
    · have hp : Txt.slice txt (some (i + (pre.print.length : Int))) (some (i + (pre.print.length : Int) + 1)) = Str.ofString ")" := slice_is hiA (by omega) hdA (by rw [show (i + (pre.print.length : Int) + 1 - (i + (pre.print.length : Int))).toNat = 1 by omega]; rfl)
      refine whl_turn (k := 0) ?hE ?_
      case hE => first | passes_own | with_unfolding_all passes_own
      (repeat' (first | ((with_reducible show wpAny _ _ (call (Value.ref 523) _) _ _ _); k_here; k_dflt (apply read_counted_any; (case B => k_asm); (case F => k_asm); (case X => k_asm); (case N => k_asm); (case T => k_asm); (case hA => first | exact Around.frames_deeper (Below.stack (by k_asm)) | assumption); (case hf => first | exact rfl | assumption); (case hke => first | exact rfl | assumption); (case hh => assumption); (case hdp => (first | assumption | exact room_d (by assumption) | exact room_f (by assumption) (by decide) | exact room_a (by assumption) (by decide) | exact room_b (by assumption) (by decide) | exact room_c (by assumption) (by decide) | exact room_e (by assumption) (by decide) | omega | (simp only [depth_deeper] at *; omega))); (case m1 => k_mem); (case m2 => k_mem); (case hi => (first | assumption | omega)); (case hi2 => (first | assumption | omega)); (case hlen => assumption); (case hG => assumption); (case hp => assumption)); intro h' tk' F' N'; (try dsimp only at N'); (try k_sweep)) | ((with_reducible show wpAny _ _ (call (Value.ref 516) _) _ _ _); k_here; k_dflt (first | (apply read_atom_a; (case B => k_asm); (case F => k_asm); (case X => k_asm); (case N => k_asm); (case T => k_asm); (case hA => first | exact Around.frames_deeper (Below.stack (by k_asm)) | assumption); (case hf => first | exact rfl | assumption); (case hke => first | exact rfl | assumption); (case hh => assumption); (case hdp => (first | assumption | exact room_d (by assumption) | exact room_f (by assumption) (by decide) | exact room_a (by assumption) (by decide) | exact room_b (by assumption) (by decide) | exact room_c (by assumption) (by decide) | exact room_e (by assumption) (by decide) | omega | (simp only [depth_deeper] at *; omega))); (case m1 => k_mem); (case U => k_updF); (case hi => (first | assumption | omega)); (case hi2 => (first | assumption | omega)); (case hlen => assumption); (case hG => assumption); (case hp => assumption)) | (apply read_atom_b; (case B => k_asm); (case F => k_asm); (case X => k_asm); (case N => k_asm); (case T => k_asm); (case hA => first | exact Around.frames_deeper (Below.stack (by k_asm)) | assumption); (case hf => first | exact rfl | assumption); (case hke => first | exact rfl | assumption); (case hh => assumption); (case hdp => (first | assumption | exact room_d (by assumption) | exact room_f (by assumption) (by decide) | exact room_a (by assumption) (by decide) | exact room_b (by assumption) (by decide) | exact room_c (by assumption) (by decide) | exact room_e (by assumption) (by decide) | omega | (simp only [depth_deeper] at *; omega))); (case m1 => k_mem); (case U => k_updF); (case hi => (first | assumption | omega)); (case hi2 => (first | assumption | omega)); (case hlen => assumption); (case hG => assumption); (case hp => assumption)) | (apply read_atom_d; (case B => k_asm); (case F => k_asm); (case X => k_asm); (case N => k_asm); (case T => k_asm); (case hA => first | exact Around.frames_deeper (Below.stack (by k_asm)) | assumption); (case hf => first | exact rfl | assumption); (case hke => first | exact rfl | assumption); (case hh => assumption); (case hdp => (first | assumption | exact room_d (by assumption) | exact room_f (by assumption) (by decide) | exact room_a (by assumption) (by decide) | exact room_b (by assumption) (by decide) | exact room_c (by assumption) (by decide) | exact room_e (by assumption) (by decide) | omega | (simp only [depth_deeper] at *; omega))); (case m1 => k_mem); (case U => k_updF); (case hi => (first | assumption | omega)); (case hi2 => (first | assumption | omega)); (case hlen => assumption); (case hG => assumption); (case hp => assumption))); intro v' tl' t' h' tk' F' N' O' S'; (try simp only [List.cons_append, List.nil_append, List.append_assoc] at N'); (try k_sweep)) | ((with_reducible show wpAny _ _ (call (Value.ref 516) _) _ _ _); k_here; k_dflt (apply atom_spec; (case H => assumption); (case B => k_asm); (case F => k_asm); (case X => k_asm); (case N => k_asm); (case T => k_asm); (case hA => first | exact Around.frames_deeper (Below.stack (by k_asm)) | assumption); (case hf => first | exact rfl | assumption); (case hke => first | exact rfl | assumption); (case hh => assumption); (case hdp => (first | assumption | exact room_d (by assumption) | exact room_f (by assumption) (by decide) | exact room_a (by assumption) (by decide) | exact room_b (by assumption) (by decide) | exact room_c (by assumption) (by decide) | exact room_e (by assumption) (by decide) | omega | (simp only [depth_deeper] at *; omega))); (case m1 => k_mem); (case U => k_updF); (case hi => (first | assumption | omega)); (case hi2 => (first | assumption | omega)); (case hlen => assumption); (case hG => assumption); (case hd0 => assumption); (case hok => assumption); (case hdn => (first | assumption | omega)); (case hdn2 => (first | assumption | omega))); intro v' tl' t3' t4' t5' h' tk' F' N' O' S'; (try simp only [List.cons_append, List.nil_append, List.append_assoc] at N'); (try k_sweep)) | ((with_reducible show wpAny _ _ (call (Value.ref 434) _) _ _ _); k_here; k_dflt (first | (apply take_count_o; (case B => k_asm); (case F => k_asm); (case X => k_asm); (case N => k_asm); (case T => k_asm); (case hA => first | exact Around.frames_deeper (Below.stack (by k_asm)) | assumption); (case hf => first | exact rfl | assumption); (case hke => first | exact rfl | assumption); (case hh => assumption); (case hdp => (first | assumption | exact room_d (by assumption) | exact room_f (by assumption) (by decide) | exact room_a (by assumption) (by decide) | exact room_b (by assumption) (by decide) | exact room_c (by assumption) (by decide) | exact room_e (by assumption) (by decide) | omega | (simp only [depth_deeper] at *; omega))); (case m1 => k_mem); (case m2 => k_mem); (case hi => (first | assumption | omega)); (case hi2 => (first | assumption | omega)); (case hlen => assumption); (case hp => assumption)) | (apply take_count_c; (case B => k_asm); (case F => k_asm); (case X => k_asm); (case N => k_asm); (case T => k_asm); (case hA => first | exact Around.frames_deeper (Below.stack (by k_asm)) | assumption); (case hf => first | exact rfl | assumption); (case hke => first | exact rfl | assumption); (case hh => assumption); (case hdp => (first | assumption | exact room_d (by assumption) | exact room_f (by assumption) (by decide) | exact room_a (by assumption) (by decide) | exact room_b (by assumption) (by decide) | exact room_c (by assumption) (by decide) | exact room_e (by assumption) (by decide) | omega | (simp only [depth_deeper] at *; omega))); (case m1 => k_mem); (case m2 => k_mem); (case hi => (first | assumption | omega)); (case hi2 => (first | assumption | omega)); (case hlen => assumption); (case hp => assumption)) | (apply take_count_a; (case B => k_asm); (case F => k_asm); (case X => k_asm); (case N => k_asm); (case T => k_asm); (case hA => first | exact Around.frames_deeper (Below.stack (by k_asm)) | assumption); (case hf => first | exact rfl | assumption); (case hke => first | exact rfl | assumption); (case hh => assumption); (case hdp => (first | assumption | exact room_d (by assumption) | exact room_f (by assumption) (by decide) | exact room_a (by assumption) (by decide) | exact room_b (by assumption) (by decide) | exact room_c (by assumption) (by decide) | exact room_e (by assumption) (by decide) | omega | (simp only [depth_deeper] at *; omega))); (case m1 => k_mem); (case m2 => k_mem); (case hi => (first | assumption | omega)); (case hi2 => (first | assumption | omega)); (case hlen => assumption); (case hp => assumption)) | (apply take_count_b; (case B => k_asm); (case F => k_asm); (case X => k_asm); (case N => k_asm); (case T => k_asm); (case hA => first | exact Around.frames_deeper (Below.stack (by k_asm)) | assumption); (case hf => first | exact rfl | assumption); (case hke => first | exact rfl | assumption); (case hh => assumption); (case hdp => (first | assumption | exact room_d (by assumption) | exact room_f (by assumption) (by decide) | exact room_a (by assumption) (by decide) | exact room_b (by assumption) (by decide) | exact room_c (by assumption) (by decide) | exact room_e (by assumption) (by decide) | omega | (simp only [depth_deeper] at *; omega))); (case m1 => k_mem); (case m2 => k_mem); (case hi => (first | assumption | omega)); (case hi2 => (first | assumption | omega)); (case hlen => assumption); (case hp => assumption)) | (apply take_count_d; (case B => k_asm); (case F => k_asm); (case X => k_asm); (case N => k_asm); (case T => k_asm); (case hA => first | exact Around.frames_deeper (Below.stack (by k_asm)) | assumption); (case hf => first | exact rfl | assumption); (case hke => first | exact rfl | assumption); (case hh => assumption); (case hdp => (first | assumption | exact room_d (by assumption) | exact room_f (by assumption) (by decide) | exact room_a (by assumption) (by decide) | exact room_b (by assumption) (by decide) | exact room_c (by assumption) (by decide) | exact room_e (by assumption) (by decide) | omega | (simp only [depth_deeper] at *; omega))); (case m1 => k_mem); (case m2 => k_mem); (case hi => (first | assumption | omega)); (case hi2 => (first | assumption | omega)); (case hlen => assumption); (case hp => assumption)) | (apply take_count_e; (case B => k_asm); (case F => k_asm); (case X => k_asm); (case N => k_asm); (case T => k_asm); (case hA => first | exact Around.frames_deeper (Below.stack (by k_asm)) | assumption); (case hf => first | exact rfl | assumption); (case hke => first | exact rfl | assumption); (case hh => assumption); (case hdp => (first | assumption | exact room_d (by assumption) | exact room_f (by assumption) (by decide) | exact room_a (by assumption) (by decide) | exact room_b (by assumption) (by decide) | exact room_c (by assumption) (by decide) | exact room_e (by assumption) (by decide) | omega | (simp only [depth_deeper] at *; omega))); (case m1 => k_mem); (case m2 => k_mem); (case hi => (first | assumption | omega)); (case hi2 => (first | assumption | omega)); (case hlen => assumption); (case hp => assumption))); intro h' tk' F' N'; (try dsimp only at N'); (try k_sweep)) | ((with_reducible show wpAny _ _ (call (Value.ref 495) _) _ _ _); k_here; k_dflt (apply read_inline_spec; (case B => k_asm); (case F => k_asm); (case X => k_asm); (case N => k_asm); (case T => k_asm); (case hA => first | exact Around.frames_deeper (Below.stack (by k_asm)) | assumption); (case hf => first | exact rfl | assumption); (case hke => first | exact rfl | assumption); (case hh => assumption); (case hdp => (first | assumption | exact room_d (by assumption) | exact room_f (by assumption) (by decide) | exact room_a (by assumption) (by decide) | exact room_b (by assumption) (by decide) | exact room_c (by assumption) (by decide) | exact room_e (by assumption) (by decide) | omega | (simp only [depth_deeper] at *; omega))); (case m1 => k_mem); (case m2 => k_mem); (case hi => (first | assumption | omega)); (case hi2 => (first | assumption | omega)); (case hlen => assumption); (case hG => assumption)); intro h' tk' F' N'; (try dsimp only at N'); (try k_sweep)) | ((with_reducible show wpAny _ _ (call (Value.ref 483) _) _ _ _); k_here; k_dflt (apply skip_unseen_spec; (case B => k_asm); (case F => k_asm); (case X => k_asm); (case N => k_asm); (case T => k_asm); (case hA => first | exact Around.frames_deeper (Below.stack (by k_asm)) | assumption); (case hf => first | exact rfl | assumption); (case hke => first | exact rfl | assumption); (case hh => assumption); (case hdp => (first | assumption | exact room_d (by assumption) | exact room_f (by assumption) (by decide) | exact room_a (by assumption) (by decide) | exact room_b (by assumption) (by decide) | exact room_c (by assumption) (by decide) | exact room_e (by assumption) (by decide) | omega | (simp only [depth_deeper] at *; omega))); (case m1 => k_mem); (case m2 => k_mem); (case hi => (first | assumption | omega)); (case hi2 => (first | assumption | omega)); (case hlen => assumption); (case hG => assumption)); intro h' tk' F' N'; (try dsimp only at N'); (try k_sweep)) | ((with_reducible show wpAny _ _ (call (Value.ref 270) _) _ _ _); k_here; k_dflt (apply skips_yes; (case B => k_asm); (case F => k_asm); (case X => k_asm); (case N => k_asm); (case T => k_asm); (case hA => first | exact Around.frames_deeper (Below.stack (by k_asm)) | assumption); (case hf => first | exact rfl | assumption); (case hke => first | exact rfl | assumption); (case hh => assumption); (case hdp => (first | assumption | exact room_d (by assumption) | exact room_f (by assumption) (by decide) | exact room_a (by assumption) (by decide) | exact room_b (by assumption) (by decide) | exact room_c (by assumption) (by decide) | exact room_e (by assumption) (by decide) | omega | (simp only [depth_deeper] at *; omega))); (case m1 => k_mem); (case U => k_updF); (case hi => (first | assumption | omega)); (case hi2 => (first | assumption | omega)); (case hlen => assumption); (case hw => decide +kernel); (case hs => assumption)); intro t' h' tk' F' N'; (try dsimp only at N'); (try k_sweep)) | ((with_reducible show wpAny _ _ (call (Value.ref 270) _) _ _ _); k_here; k_dflt (apply skips_no; (case B => k_asm); (case F => k_asm); (case X => k_asm); (case N => k_asm); (case T => k_asm); (case hA => first | exact Around.frames_deeper (Below.stack (by k_asm)) | assumption); (case hf => first | exact rfl | assumption); (case hke => first | exact rfl | assumption); (case hh => assumption); (case hdp => (first | assumption | exact room_d (by assumption) | exact room_f (by assumption) (by decide) | exact room_a (by assumption) (by decide) | exact room_b (by assumption) (by decide) | exact room_c (by assumption) (by decide) | exact room_e (by assumption) (by decide) | omega | (simp only [depth_deeper] at *; omega))); (case m1 => k_mem); (case m2 => k_mem); (case hi => (first | assumption | omega)); (case hi2 => (first | assumption | omega)); (case hlen => assumption); (case hw => decide +kernel); (case hs => first | assumption | exact slice_good_ne (by assumption) (by omega) (by omega) (by decide +kernel))); intro h' tk' F' N'; (try dsimp only at N'); (try k_sweep)) | ((with_reducible show wpAny _ _ (call (Value.ref 263) _) _ _ _); k_here; k_dflt (apply peek_is; (case B => k_asm); (case F => k_asm); (case X => k_asm); (case N => k_asm); (case T => k_asm); (case hA => first | exact Around.frames_deeper (Below.stack (by k_asm)) | assumption); (case hf => first | exact rfl | assumption); (case hke => first | exact rfl | assumption); (case hh => assumption); (case hdp => (first | assumption | exact room_d (by assumption) | exact room_f (by assumption) (by decide) | exact room_a (by assumption) (by decide) | exact room_b (by assumption) (by decide) | exact room_c (by assumption) (by decide) | exact room_e (by assumption) (by decide) | omega | (simp only [depth_deeper] at *; omega))); (case m1 => k_mem); (case m2 => k_mem); (case hi => (first | assumption | omega)); (case hlen => assumption); (case hp => assumption)); intro t' h' tk' F' N'; (try k_sweep)) | (k_unfold; (try dsimp only)) | (k_end; wrow_close) | walk1 | (dsimp only; walk1) | (leave1; walk_say "STEP leave1"; try dsimp only) | fail "no step"))
      skip
      rename Fr g L' _ _ => Fe
      rename News g L' _ _ => Ne
      rename Fr h₀ L _ m => kF
      rename News h₀ L _ (_ :: _) => kN
      obtain ⟨z1, z2⟩ := back (tl := (_, tupO [_, _]) :: (_, tupO [.str (Str.ofString "seq") _, _]) :: (_, listOf vs.toArray nA) :: tlA) N U m1 hK Fe Ne kN (by kcj_in) (by k_all) (by k_all)
      exact hret _ _ _ _ _ _ _ _ _ kF z1 z2 (NodesIn.seq (.head _) (.tail _ (.head _)) (hN.mono fun _ h => .tail _ (.tail _ h)))
  | sign c r =>
    obtain ⟨hc, hokr⟩ := hokA
    have hdB : txt.cps.toList.drop (iA + 1).toNat = r.print ++ rest := drop_app (r := [c]) hiA hdA rfl
    have hnx := next_ok (by omega) hdB hr hokr
    have hL2 : (P.sign c r).print.length = r.print.length + 1 := rfl
    have hiB : iA + 1 ≤ 100 := by
      have := drop_len (n := 100) hdA (by show txt.length ≤ 100; exact hlen) (by omega)
      omega
    rcases hc with rfl | rfl | rfl
    · have hp : Txt.slice txt (some iA) (some (iA + 1)) = Str.ofString "a" := next_is hiA hdA rfl
      refine whl_turn (k := 0) ?hE ?_
      case hE => first | passes_own | with_unfolding_all passes_own
      (repeat' (first | ((with_reducible show wpAny _ _ (call (Value.ref 523) _) _ _ _); k_here; k_dflt (apply read_counted_any; (case B => k_asm); (case F => k_asm); (case X => k_asm); (case N => k_asm); (case T => k_asm); (case hA => first | exact Around.frames_deeper (Below.stack (by k_asm)) | assumption); (case hf => first | exact rfl | assumption); (case hke => first | exact rfl | assumption); (case hh => assumption); (case hdp => (first | assumption | exact room_d (by assumption) | exact room_f (by assumption) (by decide) | exact room_a (by assumption) (by decide) | exact room_b (by assumption) (by decide) | exact room_c (by assumption) (by decide) | exact room_e (by assumption) (by decide) | omega | (simp only [depth_deeper] at *; omega))); (case m1 => k_mem); (case m2 => k_mem); (case hi => (first | assumption | omega)); (case hi2 => (first | assumption | omega)); (case hlen => assumption); (case hG => assumption); (case hp => assumption)); intro h' tk' F' N'; (try dsimp only at N'); (try k_sweep)) | ((with_reducible show wpAny _ _ (call (Value.ref 516) _) _ _ _); k_here; k_dflt (first | (apply read_atom_a; (case B => k_asm); (case F => k_asm); (case X => k_asm); (case N => k_asm); (case T => k_asm); (case hA => first | exact Around.frames_deeper (Below.stack (by k_asm)) | assumption); (case hf => first | exact rfl | assumption); (case hke => first | exact rfl | assumption); (case hh => assumption); (case hdp => (first | assumption | exact room_d (by assumption) | exact room_f (by assumption) (by decide) | exact room_a (by assumption) (by decide) | exact room_b (by assumption) (by decide) | exact room_c (by assumption) (by decide) | exact room_e (by assumption) (by decide) | omega | (simp only [depth_deeper] at *; omega))); (case m1 => k_mem); (case U => k_updF); (case hi => (first | assumption | omega)); (case hi2 => (first | assumption | omega)); (case hlen => assumption); (case hG => assumption); (case hp => assumption)) | (apply read_atom_b; (case B => k_asm); (case F => k_asm); (case X => k_asm); (case N => k_asm); (case T => k_asm); (case hA => first | exact Around.frames_deeper (Below.stack (by k_asm)) | assumption); (case hf => first | exact rfl | assumption); (case hke => first | exact rfl | assumption); (case hh => assumption); (case hdp => (first | assumption | exact room_d (by assumption) | exact room_f (by assumption) (by decide) | exact room_a (by assumption) (by decide) | exact room_b (by assumption) (by decide) | exact room_c (by assumption) (by decide) | exact room_e (by assumption) (by decide) | omega | (simp only [depth_deeper] at *; omega))); (case m1 => k_mem); (case U => k_updF); (case hi => (first | assumption | omega)); (case hi2 => (first | assumption | omega)); (case hlen => assumption); (case hG => assumption); (case hp => assumption)) | (apply read_atom_d; (case B => k_asm); (case F => k_asm); (case X => k_asm); (case N => k_asm); (case T => k_asm); (case hA => first | exact Around.frames_deeper (Below.stack (by k_asm)) | assumption); (case hf => first | exact rfl | assumption); (case hke => first | exact rfl | assumption); (case hh => assumption); (case hdp => (first | assumption | exact room_d (by assumption) | exact room_f (by assumption) (by decide) | exact room_a (by assumption) (by decide) | exact room_b (by assumption) (by decide) | exact room_c (by assumption) (by decide) | exact room_e (by assumption) (by decide) | omega | (simp only [depth_deeper] at *; omega))); (case m1 => k_mem); (case U => k_updF); (case hi => (first | assumption | omega)); (case hi2 => (first | assumption | omega)); (case hlen => assumption); (case hG => assumption); (case hp => assumption))); intro v' tl' t' h' tk' F' N' O' S'; (try simp only [List.cons_append, List.nil_append, List.append_assoc] at N'); (try k_sweep)) | ((with_reducible show wpAny _ _ (call (Value.ref 516) _) _ _ _); k_here; k_dflt (apply atom_spec; (case H => assumption); (case B => k_asm); (case F => k_asm); (case X => k_asm); (case N => k_asm); (case T => k_asm); (case hA => first | exact Around.frames_deeper (Below.stack (by k_asm)) | assumption); (case hf => first | exact rfl | assumption); (case hke => first | exact rfl | assumption); (case hh => assumption); (case hdp => (first | assumption | exact room_d (by assumption) | exact room_f (by assumption) (by decide) | exact room_a (by assumption) (by decide) | exact room_b (by assumption) (by decide) | exact room_c (by assumption) (by decide) | exact room_e (by assumption) (by decide) | omega | (simp only [depth_deeper] at *; omega))); (case m1 => k_mem); (case U => k_updF); (case hi => (first | assumption | omega)); (case hi2 => (first | assumption | omega)); (case hlen => assumption); (case hG => assumption); (case hd0 => assumption); (case hok => assumption); (case hdn => (first | assumption | omega)); (case hdn2 => (first | assumption | omega))); intro v' tl' t3' t4' t5' h' tk' F' N' O' S'; (try simp only [List.cons_append, List.nil_append, List.append_assoc] at N'); (try k_sweep)) | ((with_reducible show wpAny _ _ (call (Value.ref 434) _) _ _ _); k_here; k_dflt (first | (apply take_count_o; (case B => k_asm); (case F => k_asm); (case X => k_asm); (case N => k_asm); (case T => k_asm); (case hA => first | exact Around.frames_deeper (Below.stack (by k_asm)) | assumption); (case hf => first | exact rfl | assumption); (case hke => first | exact rfl | assumption); (case hh => assumption); (case hdp => (first | assumption | exact room_d (by assumption) | exact room_f (by assumption) (by decide) | exact room_a (by assumption) (by decide) | exact room_b (by assumption) (by decide) | exact room_c (by assumption) (by decide) | exact room_e (by assumption) (by decide) | omega | (simp only [depth_deeper] at *; omega))); (case m1 => k_mem); (case m2 => k_mem); (case hi => (first | assumption | omega)); (case hi2 => (first | assumption | omega)); (case hlen => assumption); (case hp => assumption)) | (apply take_count_c; (case B => k_asm); (case F => k_asm); (case X => k_asm); (case N => k_asm); (case T => k_asm); (case hA => first | exact Around.frames_deeper (Below.stack (by k_asm)) | assumption); (case hf => first | exact rfl | assumption); (case hke => first | exact rfl | assumption); (case hh => assumption); (case hdp => (first | assumption | exact room_d (by assumption) | exact room_f (by assumption) (by decide) | exact room_a (by assumption) (by decide) | exact room_b (by assumption) (by decide) | exact room_c (by assumption) (by decide) | exact room_e (by assumption) (by decide) | omega | (simp only [depth_deeper] at *; omega))); (case m1 => k_mem); (case m2 => k_mem); (case hi => (first | assumption | omega)); (case hi2 => (first | assumption | omega)); (case hlen => assumption); (case hp => assumption)) | (apply take_count_a; (case B => k_asm); (case F => k_asm); (case X => k_asm); (case N => k_asm); (case T => k_asm); (case hA => first | exact Around.frames_deeper (Below.stack (by k_asm)) | assumption); (case hf => first | exact rfl | assumption); (case hke => first | exact rfl | assumption); (case hh => assumption); (case hdp => (first | assumption | exact room_d (by assumption) | exact room_f (by assumption) (by decide) | exact room_a (by assumption) (by decide) | exact room_b (by assumption) (by decide) | exact room_c (by assumption) (by decide) | exact room_e (by assumption) (by decide) | omega | (simp only [depth_deeper] at *; omega))); (case m1 => k_mem); (case m2 => k_mem); (case hi => (first | assumption | omega)); (case hi2 => (first | assumption | omega)); (case hlen => assumption); (case hp => assumption)) | (apply take_count_b; (case B => k_asm); (case F => k_asm); (case X => k_asm); (case N => k_asm); (case T => k_asm); (case hA => first | exact Around.frames_deeper (Below.stack (by k_asm)) | assumption); (case hf => first | exact rfl | assumption); (case hke => first | exact rfl | assumption); (case hh => assumption); (case hdp => (first | assumption | exact room_d (by assumption) | exact room_f (by assumption) (by decide) | exact room_a (by assumption) (by decide) | exact room_b (by assumption) (by decide) | exact room_c (by assumption) (by decide) | exact room_e (by assumption) (by decide) | omega | (simp only [depth_deeper] at *; omega))); (case m1 => k_mem); (case m2 => k_mem); (case hi => (first | assumption | omega)); (case hi2 => (first | assumption | omega)); (case hlen => assumption); (case hp => assumption)) | (apply take_count_d; (case B => k_asm); (case F => k_asm); (case X => k_asm); (case N => k_asm); (case T => k_asm); (case hA => first | exact Around.frames_deeper (Below.stack (by k_asm)) | assumption); (case hf => first | exact rfl | assumption); (case hke => first | exact rfl | assumption); (case hh => assumption); (case hdp => (first | assumption | exact room_d (by assumption) | exact room_f (by assumption) (by decide) | exact room_a (by assumption) (by decide) | exact room_b (by assumption) (by decide) | exact room_c (by assumption) (by decide) | exact room_e (by assumption) (by decide) | omega | (simp only [depth_deeper] at *; omega))); (case m1 => k_mem); (case m2 => k_mem); (case hi => (first | assumption | omega)); (case hi2 => (first | assumption | omega)); (case hlen => assumption); (case hp => assumption)) | (apply take_count_e; (case B => k_asm); (case F => k_asm); (case X => k_asm); (case N => k_asm); (case T => k_asm); (case hA => first | exact Around.frames_deeper (Below.stack (by k_asm)) | assumption); (case hf => first | exact rfl | assumption); (case hke => first | exact rfl | assumption); (case hh => assumption); (case hdp => (first | assumption | exact room_d (by assumption) | exact room_f (by assumption) (by decide) | exact room_a (by assumption) (by decide) | exact room_b (by assumption) (by decide) | exact room_c (by assumption) (by decide) | exact room_e (by assumption) (by decide) | omega | (simp only [depth_deeper] at *; omega))); (case m1 => k_mem); (case m2 => k_mem); (case hi => (first | assumption | omega)); (case hi2 => (first | assumption | omega)); (case hlen => assumption); (case hp => assumption))); intro h' tk' F' N'; (try dsimp only at N'); (try k_sweep)) | ((with_reducible show wpAny _ _ (call (Value.ref 495) _) _ _ _); k_here; k_dflt (apply read_inline_spec; (case B => k_asm); (case F => k_asm); (case X => k_asm); (case N => k_asm); (case T => k_asm); (case hA => first | exact Around.frames_deeper (Below.stack (by k_asm)) | assumption); (case hf => first | exact rfl | assumption); (case hke => first | exact rfl | assumption); (case hh => assumption); (case hdp => (first | assumption | exact room_d (by assumption) | exact room_f (by assumption) (by decide) | exact room_a (by assumption) (by decide) | exact room_b (by assumption) (by decide) | exact room_c (by assumption) (by decide) | exact room_e (by assumption) (by decide) | omega | (simp only [depth_deeper] at *; omega))); (case m1 => k_mem); (case m2 => k_mem); (case hi => (first | assumption | omega)); (case hi2 => (first | assumption | omega)); (case hlen => assumption); (case hG => assumption)); intro h' tk' F' N'; (try dsimp only at N'); (try k_sweep)) | ((with_reducible show wpAny _ _ (call (Value.ref 483) _) _ _ _); k_here; k_dflt (apply skip_unseen_spec; (case B => k_asm); (case F => k_asm); (case X => k_asm); (case N => k_asm); (case T => k_asm); (case hA => first | exact Around.frames_deeper (Below.stack (by k_asm)) | assumption); (case hf => first | exact rfl | assumption); (case hke => first | exact rfl | assumption); (case hh => assumption); (case hdp => (first | assumption | exact room_d (by assumption) | exact room_f (by assumption) (by decide) | exact room_a (by assumption) (by decide) | exact room_b (by assumption) (by decide) | exact room_c (by assumption) (by decide) | exact room_e (by assumption) (by decide) | omega | (simp only [depth_deeper] at *; omega))); (case m1 => k_mem); (case m2 => k_mem); (case hi => (first | assumption | omega)); (case hi2 => (first | assumption | omega)); (case hlen => assumption); (case hG => assumption)); intro h' tk' F' N'; (try dsimp only at N'); (try k_sweep)) | ((with_reducible show wpAny _ _ (call (Value.ref 270) _) _ _ _); k_here; k_dflt (apply skips_yes; (case B => k_asm); (case F => k_asm); (case X => k_asm); (case N => k_asm); (case T => k_asm); (case hA => first | exact Around.frames_deeper (Below.stack (by k_asm)) | assumption); (case hf => first | exact rfl | assumption); (case hke => first | exact rfl | assumption); (case hh => assumption); (case hdp => (first | assumption | exact room_d (by assumption) | exact room_f (by assumption) (by decide) | exact room_a (by assumption) (by decide) | exact room_b (by assumption) (by decide) | exact room_c (by assumption) (by decide) | exact room_e (by assumption) (by decide) | omega | (simp only [depth_deeper] at *; omega))); (case m1 => k_mem); (case U => k_updF); (case hi => (first | assumption | omega)); (case hi2 => (first | assumption | omega)); (case hlen => assumption); (case hw => decide +kernel); (case hs => assumption)); intro t' h' tk' F' N'; (try dsimp only at N'); (try k_sweep)) | ((with_reducible show wpAny _ _ (call (Value.ref 270) _) _ _ _); k_here; k_dflt (apply skips_no; (case B => k_asm); (case F => k_asm); (case X => k_asm); (case N => k_asm); (case T => k_asm); (case hA => first | exact Around.frames_deeper (Below.stack (by k_asm)) | assumption); (case hf => first | exact rfl | assumption); (case hke => first | exact rfl | assumption); (case hh => assumption); (case hdp => (first | assumption | exact room_d (by assumption) | exact room_f (by assumption) (by decide) | exact room_a (by assumption) (by decide) | exact room_b (by assumption) (by decide) | exact room_c (by assumption) (by decide) | exact room_e (by assumption) (by decide) | omega | (simp only [depth_deeper] at *; omega))); (case m1 => k_mem); (case m2 => k_mem); (case hi => (first | assumption | omega)); (case hi2 => (first | assumption | omega)); (case hlen => assumption); (case hw => decide +kernel); (case hs => first | assumption | exact slice_good_ne (by assumption) (by omega) (by omega) (by decide +kernel))); intro h' tk' F' N'; (try dsimp only at N'); (try k_sweep)) | ((with_reducible show wpAny _ _ (call (Value.ref 263) _) _ _ _); k_here; k_dflt (apply peek_is; (case B => k_asm); (case F => k_asm); (case X => k_asm); (case N => k_asm); (case T => k_asm); (case hA => first | exact Around.frames_deeper (Below.stack (by k_asm)) | assumption); (case hf => first | exact rfl | assumption); (case hke => first | exact rfl | assumption); (case hh => assumption); (case hdp => (first | assumption | exact room_d (by assumption) | exact room_f (by assumption) (by decide) | exact room_a (by assumption) (by decide) | exact room_b (by assumption) (by decide) | exact room_c (by assumption) (by decide) | exact room_e (by assumption) (by decide) | omega | (simp only [depth_deeper] at *; omega))); (case m1 => k_mem); (case m2 => k_mem); (case hi => (first | assumption | omega)); (case hlen => assumption); (case hp => assumption)); intro t' h' tk' F' N'; (try k_sweep)) | (k_unfold; (try dsimp only)) | (k_end; wrow_close) | walk1 | (dsimp only; walk1) | (leave1; walk_say "STEP leave1"; try dsimp only) | fail "no step"))
      unfold Hold
      rename List (Addr × Obj) => tlB
      rename ∀ _, NodesIn _ _ _ => SB
      rename Fr g L' _ _ => FB
      rename News g L' _ _ => NB
      simp only [List.push_toArray] at NB
      exact IH r _ (by show r.size < r.size + 1; omega) ⟨_, _, _, iA + 1, gA, _, _, _, _, tlA ++ tlB, pre.app (.sign 97 .nil), _, rfl, frame_same FB, News.sub NB (by kcj_in),
        NodesIn.app (hN.mono fun _ h => List.mem_append_left _ h) ((SB 97).mono fun _ h => List.mem_append_right _ h), by rw [P.app_assoc]; exact happ, by omega, hiB, hdB, hokr, hhtA, by have : (P.sign 97 r).size = r.size + 1 := rfl; omega,
        by rw [← hiE, hL2]; push_cast; omega, hgE, by rw [hL2] at hvs; simp only [List.length_append, List.length_cons, List.length_nil]; omega, by k_all, by k_all, by k_all⟩
    · have hp : Txt.slice txt (some iA) (some (iA + 1)) = Str.ofString "b" := next_is hiA hdA rfl
      refine whl_turn (k := 0) ?hE ?_
      case hE => first | passes_own | with_unfolding_all passes_own
      (repeat' (first | ((with_reducible show wpAny _ _ (call (Value.ref 523) _) _ _ _); k_here; k_dflt (apply read_counted_any; (case B => k_asm); (case F => k_asm); (case X => k_asm); (case N => k_asm); (case T => k_asm); (case hA => first | exact Around.frames_deeper (Below.stack (by k_asm)) | assumption); (case hf => first | exact rfl | assumption); (case hke => first | exact rfl | assumption); (case hh => assumption); (case hdp => (first | assumption | exact room_d (by assumption) | exact room_f (by assumption) (by decide) | exact room_a (by assumption) (by decide) | exact room_b (by assumption) (by decide) | exact room_c (by assumption) (by decide) | exact room_e (by assumption) (by decide) | omega | (simp only [depth_deeper] at *; omega))); (case m1 => k_mem); (case m2 => k_mem); (case hi => (first | assumption | omega)); (case hi2 => (first | assumption | omega)); (case hlen => assumption); (case hG => assumption); (case hp => assumption)); intro h' tk' F' N'; (try dsimp only at N'); (try k_sweep)) | ((with_reducible show wpAny _ _ (call (Value.ref 516) _) _ _ _); k_here; k_dflt (first | (apply read_atom_a; (case B => k_asm); (case F => k_asm); (case X => k_asm); (case N => k_asm); (case T => k_asm); (case hA => first | exact Around.frames_deeper (Below.stack (by k_asm)) | assumption); (case hf => first | exact rfl | assumption); (case hke => first | exact rfl | assumption); (case hh => assumption); (case hdp => (first | assumption | exact room_d (by assumption) | exact room_f (by assumption) (by decide) | exact room_a (by assumption) (by decide) | exact room_b (by assumption) (by decide) | exact room_c (by assumption) (by decide) | exact room_e (by assumption) (by decide) | omega | (simp only [depth_deeper] at *; omega))); (case m1 => k_mem); (case U => k_updF); (case hi => (first | assumption | omega)); (case hi2 => (first | assumption | omega)); (case hlen => assumption); (case hG => assumption); (case hp => assumption)) | (apply read_atom_b; (case B => k_asm); (case F => k_asm); (case X => k_asm); (case N => k_asm); (case T => k_asm); (case hA => first | exact Around.frames_deeper (Below.stack (by k_asm)) | assumption); (case hf => first | exact rfl | assumption); (case hke => first | exact rfl | assumption); (case hh => assumption); (case hdp => (first | assumption | exact room_d (by assumption) | exact room_f (by assumption) (by decide) | exact room_a (by assumption) (by decide) | exact room_b (by assumption) (by decide) | exact room_c (by assumption) (by decide) | exact room_e (by assumption) (by decide) | omega | (simp only [depth_deeper] at *; omega))); (case m1 => k_mem); (case U => k_updF); (case hi => (first | assumption | omega)); (case hi2 => (first | assumption | omega)); (case hlen => assumption); (case hG => assumption); (case hp => assumption)) | (apply read_atom_d; (case B => k_asm); (case F => k_asm); (case X => k_asm); (case N => k_asm); (case T => k_asm); (case hA => first | exact Around.frames_deeper (Below.stack (by k_asm)) | assumption); (case hf => first | exact rfl | assumption); (case hke => first | exact rfl | assumption); (case hh => assumption); (case hdp => (first | assumption | exact room_d (by assumption) | exact room_f (by assumption) (by decide) | exact room_a (by assumption) (by decide) | exact room_b (by assumption) (by decide) | exact room_c (by assumption) (by decide) | exact room_e (by assumption) (by decide) | omega | (simp only [depth_deeper] at *; omega))); (case m1 => k_mem); (case U => k_updF); (case hi => (first | assumption | omega)); (case hi2 => (first | assumption | omega)); (case hlen => assumption); (case hG => assumption); (case hp => assumption))); intro v' tl' t' h' tk' F' N' O' S'; (try simp only [List.cons_append, List.nil_append, List.append_assoc] at N'); (try k_sweep)) | ((with_reducible show wpAny _ _ (call (Value.ref 516) _) _ _ _); k_here; k_dflt (apply atom_spec; (case H => assumption); (case B => k_asm); (case F => k_asm); (case X => k_asm); (case N => k_asm); (case T => k_asm); (case hA => first | exact Around.frames_deeper (Below.stack (by k_asm)) | assumption); (case hf => first | exact rfl | assumption); (case hke => first | exact rfl | assumption); (case hh => assumption); (case hdp => (first | assumption | exact room_d (by assumption) | exact room_f (by assumption) (by decide) | exact room_a (by assumption) (by decide) | exact room_b (by assumption) (by decide) | exact room_c (by assumption) (by decide) | exact room_e (by assumption) (by decide) | omega | (simp only [depth_deeper] at *; omega))); (case m1 => k_mem); (case U => k_updF); (case hi => (first | assumption | omega)); (case hi2 => (first | assumption | omega)); (case hlen => assumption); (case hG => assumption); (case hd0 => assumption); (case hok => assumption); (case hdn => (first | assumption | omega)); (case hdn2 => (first | assumption | omega))); intro v' tl' t3' t4' t5' h' tk' F' N' O' S'; (try simp only [List.cons_append, List.nil_append, List.append_assoc] at N'); (try k_sweep)) | ((with_reducible show wpAny _ _ (call (Value.ref 434) _) _ _ _); k_here; k_dflt (first | (apply take_count_o; (case B => k_asm); (case F => k_asm); (case X => k_asm); (case N => k_asm); (case T => k_asm); (case hA => first | exact Around.frames_deeper (Below.stack (by k_asm)) | assumption); (case hf => first | exact rfl | assumption); (case hke => first | exact rfl | assumption); (case hh => assumption); (case hdp => (first | assumption | exact room_d (by assumption) | exact room_f (by assumption) (by decide) | exact room_a (by assumption) (by decide) | exact room_b (by assumption) (by decide) | exact room_c (by assumption) (by decide) | exact room_e (by assumption) (by decide) | omega | (simp only [depth_deeper] at *; omega))); (case m1 => k_mem); (case m2 => k_mem); (case hi => (first | assumption | omega)); (case hi2 => (first | assumption | omega)); (case hlen => assumption); (case hp => assumption)) | (apply take_count_c; (case B => k_asm); (case F => k_asm); (case X => k_asm); (case N => k_asm); (case T => k_asm); (case hA => first | exact Around.frames_deeper (Below.stack (by k_asm)) | assumption); (case hf => first | exact rfl | assumption); (case hke => first | exact rfl | assumption); (case hh => assumption); (case hdp => (first | assumption | exact room_d (by assumption) | exact room_f (by assumption) (by decide) | exact room_a (by assumption) (by decide) | exact room_b (by assumption) (by decide) | exact room_c (by assumption) (by decide) | exact room_e (by assumption) (by decide) | omega | (simp only [depth_deeper] at *; omega))); (case m1 => k_mem); (case m2 => k_mem); (case hi => (first | assumption | omega)); (case hi2 => (first | assumption | omega)); (case hlen => assumption); (case hp => assumption)) | (apply take_count_a; (case B => k_asm); (case F => k_asm); (case X => k_asm); (case N => k_asm); (case T => k_asm); (case hA => first | exact Around.frames_deeper (Below.stack (by k_asm)) | assumption); (case hf => first | exact rfl | assumption); (case hke => first | exact rfl | assumption); (case hh => assumption); (case hdp => (first | assumption | exact room_d (by assumption) | exact room_f (by assumption) (by decide) | exact room_a (by assumption) (by decide) | exact room_b (by assumption) (by decide) | exact room_c (by assumption) (by decide) | exact room_e (by assumption) (by decide) | omega | (simp only [depth_deeper] at *; omega))); (case m1 => k_mem); (case m2 => k_mem); (case hi => (first | assumption | omega)); (case hi2 => (first | assumption | omega)); (case hlen => assumption); (case hp => assumption)) | (apply take_count_b; (case B => k_asm); (case F => k_asm); (case X => k_asm); (case N => k_asm); (case T => k_asm); (case hA => first | exact Around.frames_deeper (Below.stack (by k_asm)) | assumption); (case hf => first | exact rfl | assumption); (case hke => first | exact rfl | assumption); (case hh => assumption); (case hdp => (first | assumption | exact room_d (by assumption) | exact room_f (by assumption) (by decide) | exact room_a (by assumption) (by decide) | exact room_b (by assumption) (by decide) | exact room_c (by assumption) (by decide) | exact room_e (by assumption) (by decide) | omega | (simp only [depth_deeper] at *; omega))); (case m1 => k_mem); (case m2 => k_mem); (case hi => (first | assumption | omega)); (case hi2 => (first | assumption | omega)); (case hlen => assumption); (case hp => assumption)) | (apply take_count_d; (case B => k_asm); (case F => k_asm); (case X => k_asm); (case N => k_asm); (case T => k_asm); (case hA => first | exact Around.frames_deeper (Below.stack (by k_asm)) | assumption); (case hf => first | exact rfl | assumption); (case hke => first | exact rfl | assumption); (case hh => assumption); (case hdp => (first | assumption | exact room_d (by assumption) | exact room_f (by assumption) (by decide) | exact room_a (by assumption) (by decide) | exact room_b (by assumption) (by decide) | exact room_c (by assumption) (by decide) | exact room_e (by assumption) (by decide) | omega | (simp only [depth_deeper] at *; omega))); (case m1 => k_mem); (case m2 => k_mem); (case hi => (first | assumption | omega)); (case hi2 => (first | assumption | omega)); (case hlen => assumption); (case hp => assumption)) | (apply take_count_e; (case B => k_asm); (case F => k_asm); (case X => k_asm); (case N => k_asm); (case T => k_asm); (case hA => first | exact Around.frames_deeper (Below.stack (by k_asm)) | assumption); (case hf => first | exact rfl | assumption); (case hke => first | exact rfl | assumption); (case hh => assumption); (case hdp => (first | assumption | exact room_d (by assumption) | exact room_f (by assumption) (by decide) | exact room_a (by assumption) (by decide) | exact room_b (by assumption) (by decide) | exact room_c (by assumption) (by decide) | exact room_e (by assumption) (by decide) | omega | (simp only [depth_deeper] at *; omega))); (case m1 => k_mem); (case m2 => k_mem); (case hi => (first | assumption | omega)); (case hi2 => (first | assumption | omega)); (case hlen => assumption); (case hp => assumption))); intro h' tk' F' N'; (try dsimp only at N'); (try k_sweep)) | ((with_reducible show wpAny _ _ (call (Value.ref 495) _) _ _ _); k_here; k_dflt (apply read_inline_spec; (case B => k_asm); (case F => k_asm); (case X => k_asm); (case N => k_asm); (case T => k_asm); (case hA => first | exact Around.frames_deeper (Below.stack (by k_asm)) | assumption); (case hf => first | exact rfl | assumption); (case hke => first | exact rfl | assumption); (case hh => assumption); (case hdp => (first | assumption | exact room_d (by assumption) | exact room_f (by assumption) (by decide) | exact room_a (by assumption) (by decide) | exact room_b (by assumption) (by decide) | exact room_c (by assumption) (by decide) | exact room_e (by assumption) (by decide) | omega | (simp only [depth_deeper] at *; omega))); (case m1 => k_mem); (case m2 => k_mem); (case hi => (first | assumption | omega)); (case hi2 => (first | assumption | omega)); (case hlen => assumption); (case hG => assumption)); intro h' tk' F' N'; (try dsimp only at N'); (try k_sweep)) | ((with_reducible show wpAny _ _ (call (Value.ref 483) _) _ _ _); k_here; k_dflt (apply skip_unseen_spec; (case B => k_asm); (case F => k_asm); (case X => k_asm); (case N => k_asm); (case T => k_asm); (case hA => first | exact Around.frames_deeper (Below.stack (by k_asm)) | assumption); (case hf => first | exact rfl | assumption); (case hke => first | exact rfl | assumption); (case hh => assumption); (case hdp => (first | assumption | exact room_d (by assumption) | exact room_f (by assumption) (by decide) | exact room_a (by assumption) (by decide) | exact room_b (by assumption) (by decide) | exact room_c (by assumption) (by decide) | exact room_e (by assumption) (by decide) | omega | (simp only [depth_deeper] at *; omega))); (case m1 => k_mem); (case m2 => k_mem); (case hi => (first | assumption | omega)); (case hi2 => (first | assumption | omega)); (case hlen => assumption); (case hG => assumption)); intro h' tk' F' N'; (try dsimp only at N'); (try k_sweep)) | ((with_reducible show wpAny _ _ (call (Value.ref 270) _) _ _ _); k_here; k_dflt (apply skips_yes; (case B => k_asm); (case F => k_asm); (case X => k_asm); (case N => k_asm); (case T => k_asm); (case hA => first | exact Around.frames_deeper (Below.stack (by k_asm)) | assumption); (case hf => first | exact rfl | assumption); (case hke => first | exact rfl | assumption); (case hh => assumption); (case hdp => (first | assumption | exact room_d (by assumption) | exact room_f (by assumption) (by decide) | exact room_a (by assumption) (by decide) | exact room_b (by assumption) (by decide) | exact room_c (by assumption) (by decide) | exact room_e (by assumption) (by decide) | omega | (simp only [depth_deeper] at *; omega))); (case m1 => k_mem); (case U => k_updF); (case hi => (first | assumption | omega)); (case hi2 => (first | assumption | omega)); (case hlen => assumption); (case hw => decide +kernel); (case hs => assumption)); intro t' h' tk' F' N'; (try dsimp only at N'); (try k_sweep)) | ((with_reducible show wpAny _ _ (call (Value.ref 270) _) _ _ _); k_here; k_dflt (apply skips_no; (case B => k_asm); (case F => k_asm); (case X => k_asm); (case N => k_asm); (case T => k_asm); (case hA => first | exact Around.frames_deeper (Below.stack (by k_asm)) | assumption); (case hf => first | exact rfl | assumption); (case hke => first | exact rfl | assumption); (case hh => assumption); (case hdp => (first | assumption | exact room_d (by assumption) | exact room_f (by assumption) (by decide) | exact room_a (by assumption) (by decide) | exact room_b (by assumption) (by decide) | exact room_c (by assumption) (by decide) | exact room_e (by assumption) (by decide) | omega | (simp only [depth_deeper] at *; omega))); (case m1 => k_mem); (case m2 => k_mem); (case hi => (first | assumption | omega)); (case hi2 => (first | assumption | omega)); (case hlen => assumption); (case hw => decide +kernel); (case hs => first | assumption | exact slice_good_ne (by assumption) (by omega) (by omega) (by decide +kernel))); intro h' tk' F' N'; (try dsimp only at N'); (try k_sweep)) | ((with_reducible show wpAny _ _ (call (Value.ref 263) _) _ _ _); k_here; k_dflt (apply peek_is; (case B => k_asm); (case F => k_asm); (case X => k_asm); (case N => k_asm); (case T => k_asm); (case hA => first | exact Around.frames_deeper (Below.stack (by k_asm)) | assumption); (case hf => first | exact rfl | assumption); (case hke => first | exact rfl | assumption); (case hh => assumption); (case hdp => (first | assumption | exact room_d (by assumption) | exact room_f (by assumption) (by decide) | exact room_a (by assumption) (by decide) | exact room_b (by assumption) (by decide) | exact room_c (by assumption) (by decide) | exact room_e (by assumption) (by decide) | omega | (simp only [depth_deeper] at *; omega))); (case m1 => k_mem); (case m2 => k_mem); (case hi => (first | assumption | omega)); (case hlen => assumption); (case hp => assumption)); intro t' h' tk' F' N'; (try k_sweep)) | (k_unfold; (try dsimp only)) | (k_end; wrow_close) | walk1 | (dsimp only; walk1) | (leave1; walk_say "STEP leave1"; try dsimp only) | fail "no step"))
      unfold Hold
      rename List (Addr × Obj) => tlB
      rename ∀ _, NodesIn _ _ _ => SB
      rename Fr g L' _ _ => FB
      rename News g L' _ _ => NB
      simp only [List.push_toArray] at NB
      exact IH r _ (by show r.size < r.size + 1; omega) ⟨_, _, _, iA + 1, gA, _, _, _, _, tlA ++ tlB, pre.app (.sign 98 .nil), _, rfl, frame_same FB, News.sub NB (by kcj_in),
        NodesIn.app (hN.mono fun _ h => List.mem_append_left _ h) ((SB 98).mono fun _ h => List.mem_append_right _ h), by rw [P.app_assoc]; exact happ, by omega, hiB, hdB, hokr, hhtA, by have : (P.sign 98 r).size = r.size + 1 := rfl; omega,
        by rw [← hiE, hL2]; push_cast; omega, hgE, by rw [hL2] at hvs; simp only [List.length_append, List.length_cons, List.length_nil]; omega, by k_all, by k_all, by k_all⟩
    · have hp : Txt.slice txt (some iA) (some (iA + 1)) = Str.ofString "c" := next_is hiA hdA rfl
      refine whl_turn (k := 0) ?hE ?_
      case hE => first | passes_own | with_unfolding_all passes_own
      (repeat' (first | ((with_reducible show wpAny _ _ (call (Value.ref 523) _) _ _ _); k_here; k_dflt (apply read_counted_any; (case B => k_asm); (case F => k_asm); (case X => k_asm); (case N => k_asm); (case T => k_asm); (case hA => first | exact Around.frames_deeper (Below.stack (by k_asm)) | assumption); (case hf => first | exact rfl | assumption); (case hke => first | exact rfl | assumption); (case hh => assumption); (case hdp => (first | assumption | exact room_d (by assumption) | exact room_f (by assumption) (by decide) | exact room_a (by assumption) (by decide) | exact room_b (by assumption) (by decide) | exact room_c (by assumption) (by decide) | exact room_e (by assumption) (by decide) | omega | (simp only [depth_deeper] at *; omega))); (case m1 => k_mem); (case m2 => k_mem); (case hi => (first | assumption | omega)); (case hi2 => (first | assumption | omega)); (case hlen => assumption); (case hG => assumption); (case hp => assumption)); intro h' tk' F' N'; (try dsimp only at N'); (try k_sweep)) | ((with_reducible show wpAny _ _ (call (Value.ref 516) _) _ _ _); k_here; k_dflt (first | (apply read_atom_a; (case B => k_asm); (case F => k_asm); (case X => k_asm); (case N => k_asm); (case T => k_asm); (case hA => first | exact Around.frames_deeper (Below.stack (by k_asm)) | assumption); (case hf => first | exact rfl | assumption); (case hke => first | exact rfl | assumption); (case hh => assumption); (case hdp => (first | assumption | exact room_d (by assumption) | exact room_f (by assumption) (by decide) | exact room_a (by assumption) (by decide) | exact room_b (by assumption) (by decide) | exact room_c (by assumption) (by decide) | exact room_e (by assumption) (by decide) | omega | (simp only [depth_deeper] at *; omega))); (case m1 => k_mem); (case U => k_updF); (case hi => (first | assumption | omega)); (case hi2 => (first | assumption | omega)); (case hlen => assumption); (case hG => assumption); (case hp => assumption)) | (apply read_atom_b; (case B => k_asm); (case F => k_asm); (case X => k_asm); (case N => k_asm); (case T => k_asm); (case hA => first | exact Around.frames_deeper (Below.stack (by k_asm)) | assumption); (case hf => first | exact rfl | assumption); (case hke => first | exact rfl | assumption); (case hh => assumption); (case hdp => (first | assumption | exact room_d (by assumption) | exact room_f (by assumption) (by decide) | exact room_a (by assumption) (by decide) | exact room_b (by assumption) (by decide) | exact room_c (by assumption) (by decide) | exact room_e (by assumption) (by decide) | omega | (simp only [depth_deeper] at *; omega))); (case m1 => k_mem); (case U => k_updF); (case hi => (first | assumption | omega)); (case hi2 => (first | assumption | omega)); (case hlen => assumption); (case hG => assumption); (case hp => assumption)) | (apply read_atom_d; (case B => k_asm); (case F => k_asm); (case X => k_asm); (case N => k_asm); (case T => k_asm); (case hA => first | exact Around.frames_deeper (Below.stack (by k_asm)) | assumption); (case hf => first | exact rfl | assumption); (case hke => first | exact rfl | assumption); (case hh => assumption); (case hdp => (first | assumption | exact room_d (by assumption) | exact room_f (by assumption) (by decide) | exact room_a (by assumption) (by decide) | exact room_b (by assumption) (by decide) | exact room_c (by assumption) (by decide) | exact room_e (by assumption) (by decide) | omega | (simp only [depth_deeper] at *; omega))); (case m1 => k_mem); (case U => k_updF); (case hi => (first | assumption | omega)); (case hi2 => (first | assumption | omega)); (case hlen => assumption); (case hG => assumption); (case hp => assumption))); intro v' tl' t' h' tk' F' N' O' S'; (try simp only [List.cons_append, List.nil_append, List.append_assoc] at N'); (try k_sweep)) | ((with_reducible show wpAny _ _ (call (Value.ref 516) _) _ _ _); k_here; k_dflt (apply atom_spec; (case H => assumption); (case B => k_asm); (case F => k_asm); (case X => k_asm); (case N => k_asm); (case T => k_asm); (case hA => first | exact Around.frames_deeper (Below.stack (by k_asm)) | assumption); (case hf => first | exact rfl | assumption); (case hke => first | exact rfl | assumption); (case hh => assumption); (case hdp => (first | assumption | exact room_d (by assumption) | exact room_f (by assumption) (by decide) | exact room_a (by assumption) (by decide) | exact room_b (by assumption) (by decide) | exact room_c (by assumption) (by decide) | exact room_e (by assumption) (by decide) | omega | (simp only [depth_deeper] at *; omega))); (case m1 => k_mem); (case U => k_updF); (case hi => (first | assumption | omega)); (case hi2 => (first | assumption | omega)); (case hlen => assumption); (case hG => assumption); (case hd0 => assumption); (case hok => assumption); (case hdn => (first | assumption | omega)); (case hdn2 => (first | assumption | omega))); intro v' tl' t3' t4' t5' h' tk' F' N' O' S'; (try simp only [List.cons_append, List.nil_append, List.append_assoc] at N'); (try k_sweep)) | ((with_reducible show wpAny _ _ (call (Value.ref 434) _) _ _ _); k_here; k_dflt (first | (apply take_count_o; (case B => k_asm); (case F => k_asm); (case X => k_asm); (case N => k_asm); (case T => k_asm); (case hA => first | exact Around.frames_deeper (Below.stack (by k_asm)) | assumption); (case hf => first | exact rfl | assumption); (case hke => first | exact rfl | assumption); (case hh => assumption); (case hdp => (first | assumption | exact room_d (by assumption) | exact room_f (by assumption) (by decide) | exact room_a (by assumption) (by decide) | exact room_b (by assumption) (by decide) | exact room_c (by assumption) (by decide) | exact room_e (by assumption) (by decide) | omega | (simp only [depth_deeper] at *; omega))); (case m1 => k_mem); (case m2 => k_mem); (case hi => (first | assumption | omega)); (case hi2 => (first | assumption | omega)); (case hlen => assumption); (case hp => assumption)) | (apply take_count_c; (case B => k_asm); (case F => k_asm); (case X => k_asm); (case N => k_asm); (case T => k_asm); (case hA => first | exact Around.frames_deeper (Below.stack (by k_asm)) | assumption); (case hf => first | exact rfl | assumption); (case hke => first | exact rfl | assumption); (case hh => assumption); (case hdp => (first | assumption | exact room_d (by assumption) | exact room_f (by assumption) (by decide) | exact room_a (by assumption) (by decide) | exact room_b (by assumption) (by decide) | exact room_c (by assumption) (by decide) | exact room_e (by assumption) (by decide) | omega | (simp only [depth_deeper] at *; omega))); (case m1 => k_mem); (case m2 => k_mem); (case hi => (first | assumption | omega)); (case hi2 => (first | assumption | omega)); (case hlen => assumption); (case hp => assumption)) | (apply take_count_a; (case B => k_asm); (case F => k_asm); (case X => k_asm); (case N => k_asm); (case T => k_asm); (case hA => first | exact Around.frames_deeper (Below.stack (by k_asm)) | assumption); (case hf => first | exact rfl | assumption); (case hke => first | exact rfl | assumption); (case hh => assumption); (case hdp => (first | assumption | exact room_d (by assumption) | exact room_f (by assumption) (by decide) | exact room_a (by assumption) (by decide) | exact room_b (by assumption) (by decide) | exact room_c (by assumption) (by decide) | exact room_e (by assumption) (by decide) | omega | (simp only [depth_deeper] at *; omega))); (case m1 => k_mem); (case m2 => k_mem); (case hi => (first | assumption | omega)); (case hi2 => (first | assumption | omega)); (case hlen => assumption); (case hp => assumption)) | (apply take_count_b; (case B => k_asm); (case F => k_asm); (case X => k_asm); (case N => k_asm); (case T => k_asm); (case hA => first | exact Around.frames_deeper (Below.stack (by k_asm)) | assumption); (case hf => first | exact rfl | assumption); (case hke => first | exact rfl | assumption); (case hh => assumption); (case hdp => (first | assumption | exact room_d (by assumption) | exact room_f (by assumption) (by decide) | exact room_a (by assumption) (by decide) | exact room_b (by assumption) (by decide) | exact room_c (by assumption) (by decide) | exact room_e (by assumption) (by decide) | omega | (simp only [depth_deeper] at *; omega))); (case m1 => k_mem); (case m2 => k_mem); (case hi => (first | assumption | omega)); (case hi2 => (first | assumption | omega)); (case hlen => assumption); (case hp => assumption)) | (apply take_count_d; (case B => k_asm); (case F => k_asm); (case X => k_asm); (case N => k_asm); (case T => k_asm); (case hA => first | exact Around.frames_deeper (Below.stack (by k_asm)) | assumption); (case hf => first | exact rfl | assumption); (case hke => first | exact rfl | assumption); (case hh => assumption); (case hdp => (first | assumption | exact room_d (by assumption) | exact room_f (by assumption) (by decide) | exact room_a (by assumption) (by decide) | exact room_b (by assumption) (by decide) | exact room_c (by assumption) (by decide) | exact room_e (by assumption) (by decide) | omega | (simp only [depth_deeper] at *; omega))); (case m1 => k_mem); (case m2 => k_mem); (case hi => (first | assumption | omega)); (case hi2 => (first | assumption | omega)); (case hlen => assumption); (case hp => assumption)) | (apply take_count_e; (case B => k_asm); (case F => k_asm); (case X => k_asm); (case N => k_asm); (case T => k_asm); (case hA => first | exact Around.frames_deeper (Below.stack (by k_asm)) | assumption); (case hf => first | exact rfl | assumption); (case hke => first | exact rfl | assumption); (case hh => assumption); (case hdp => (first | assumption | exact room_d (by assumption) | exact room_f (by assumption) (by decide) | exact room_a (by assumption) (by decide) | exact room_b (by assumption) (by decide) | exact room_c (by assumption) (by decide) | exact room_e (by assumption) (by decide) | omega | (simp only [depth_deeper] at *; omega))); (case m1 => k_mem); (case m2 => k_mem); (case hi => (first | assumption | omega)); (case hi2 => (first | assumption | omega)); (case hlen => assumption); (case hp => assumption))); intro h' tk' F' N'; (try dsimp only at N'); (try k_sweep)) | ((with_reducible show wpAny _ _ (call (Value.ref 495) _) _ _ _); k_here; k_dflt (apply read_inline_spec; (case B => k_asm); (case F => k_asm); (case X => k_asm); (case N => k_asm); (case T => k_asm); (case hA => first | exact Around.frames_deeper (Below.stack (by k_asm)) | assumption); (case hf => first | exact rfl | assumption); (case hke => first | exact rfl | assumption); (case hh => assumption); (case hdp => (first | assumption | exact room_d (by assumption) | exact room_f (by assumption) (by decide) | exact room_a (by assumption) (by decide) | exact room_b (by assumption) (by decide) | exact room_c (by assumption) (by decide) | exact room_e (by assumption) (by decide) | omega | (simp only [depth_deeper] at *; omega))); (case m1 => k_mem); (case m2 => k_mem); (case hi => (first | assumption | omega)); (case hi2 => (first | assumption | omega)); (case hlen => assumption); (case hG => assumption)); intro h' tk' F' N'; (try dsimp only at N'); (try k_sweep)) | ((with_reducible show wpAny _ _ (call (Value.ref 483) _) _ _ _); k_here; k_dflt (apply skip_unseen_spec; (case B => k_asm); (case F => k_asm); (case X => k_asm); (case N => k_asm); (case T => k_asm); (case hA => first | exact Around.frames_deeper (Below.stack (by k_asm)) | assumption); (case hf => first | exact rfl | assumption); (case hke => first | exact rfl | assumption); (case hh => assumption); (case hdp => (first | assumption | exact room_d (by assumption) | exact room_f (by assumption) (by decide) | exact room_a (by assumption) (by decide) | exact room_b (by assumption) (by decide) | exact room_c (by assumption) (by decide) | exact room_e (by assumption) (by decide) | omega | (simp only [depth_deeper] at *; omega))); (case m1 => k_mem); (case m2 => k_mem); (case hi => (first | assumption | omega)); (case hi2 => (first | assumption | omega)); (case hlen => assumption); (case hG => assumption)); intro h' tk' F' N'; (try dsimp only at N'); (try k_sweep)) | ((with_reducible show wpAny _ _ (call (Value.ref 270) _) _ _ _); k_here; k_dflt (apply skips_yes; (case B => k_asm); (case F => k_asm); (case X => k_asm); (case N => k_asm); (case T => k_asm); (case hA => first | exact Around.frames_deeper (Below.stack (by k_asm)) | assumption); (case hf => first | exact rfl | assumption); (case hke => first | exact rfl | assumption); (case hh => assumption); (case hdp => (first | assumption | exact room_d (by assumption) | exact room_f (by assumption) (by decide) | exact room_a (by assumption) (by decide) | exact room_b (by assumption) (by decide) | exact room_c (by assumption) (by decide) | exact room_e (by assumption) (by decide) | omega | (simp only [depth_deeper] at *; omega))); (case m1 => k_mem); (case U => k_updF); (case hi => (first | assumption | omega)); (case hi2 => (first | assumption | omega)); (case hlen => assumption); (case hw => decide +kernel); (case hs => assumption)); intro t' h' tk' F' N'; (try dsimp only at N'); (try k_sweep)) | ((with_reducible show wpAny _ _ (call (Value.ref 270) _) _ _ _); k_here; k_dflt (apply skips_no; (case B => k_asm); (case F => k_asm); (case X => k_asm); (case N => k_asm); (case T => k_asm); (case hA => first | exact Around.frames_deeper (Below.stack (by k_asm)) | assumption); (case hf => first | exact rfl | assumption); (case hke => first | exact rfl | assumption); (case hh => assumption); (case hdp => (first | assumption | exact room_d (by assumption) | exact room_f (by assumption) (by decide) | exact room_a (by assumption) (by decide) | exact room_b (by assumption) (by decide) | exact room_c (by assumption) (by decide) | exact room_e (by assumption) (by decide) | omega | (simp only [depth_deeper] at *; omega))); (case m1 => k_mem); (case m2 => k_mem); (case hi => (first | assumption | omega)); (case hi2 => (first | assumption | omega)); (case hlen => assumption); (case hw => decide +kernel); (case hs => first | assumption | exact slice_good_ne (by assumption) (by omega) (by omega) (by decide +kernel))); intro h' tk' F' N'; (try dsimp only at N'); (try k_sweep)) | ((with_reducible show wpAny _ _ (call (Value.ref 263) _) _ _ _); k_here; k_dflt (apply peek_is; (case B => k_asm); (case F => k_asm); (case X => k_asm); (case N => k_asm); (case T => k_asm); (case hA => first | exact Around.frames_deeper (Below.stack (by k_asm)) | assumption); (case hf => first | exact rfl | assumption); (case hke => first | exact rfl | assumption); (case hh => assumption); (case hdp => (first | assumption | exact room_d (by assumption) | exact room_f (by assumption) (by decide) | exact room_a (by assumption) (by decide) | exact room_b (by assumption) (by decide) | exact room_c (by assumption) (by decide) | exact room_e (by assumption) (by decide) | omega | (simp only [depth_deeper] at *; omega))); (case m1 => k_mem); (case m2 => k_mem); (case hi => (first | assumption | omega)); (case hlen => assumption); (case hp => assumption)); intro t' h' tk' F' N'; (try k_sweep)) | (k_unfold; (try dsimp only)) | (k_end; wrow_close) | walk1 | (dsimp only; walk1) | (leave1; walk_say "STEP leave1"; try dsimp only) | fail "no step"))
      unfold Hold
      rename List (Addr × Obj) => tlB
      rename ∀ _, NodesIn _ _ _ => SB
      rename Fr g L' _ _ => FB
      rename News g L' _ _ => NB
      simp only [List.push_toArray] at NB
      exact IH r _ (by show r.size < r.size + 1; omega) ⟨_, _, _, iA + 1, gA, _, _, _, _, tlA ++ tlB, pre.app (.sign 99 .nil), _, rfl, frame_same FB, News.sub NB (by kcj_in),
        NodesIn.app (hN.mono fun _ h => List.mem_append_left _ h) ((SB 99).mono fun _ h => List.mem_append_right _ h), by rw [P.app_assoc]; exact happ, by omega, hiB, hdB, hokr, hhtA, by have : (P.sign 99 r).size = r.size + 1 := rfl; omega,
        by rw [← hiE, hL2]; push_cast; omega, hgE, by rw [hL2] at hvs; simp only [List.length_append, List.length_cons, List.length_nil]; omega, by k_all, by k_all, by k_all⟩
  | group q r =>
    obtain ⟨hokq, hokr⟩ := hokA
    have hsz : (P.group q r).size = q.size + r.size + 1 := rfl
    have hIH : AltS w q := H q (by omega)
    have hL2 : (P.group q r).print.length = q.print.length + r.print.length + 2 := by
      show (40 :: (q.print ++ 41 :: r.print)).length = _
      simp only [List.length_cons, List.length_append]; omega
    have hng : (P.group q r).ng = q.ng + 1 + r.ng := rfl
    have hht2 : q.ht + 1 ≤ p.ht := Nat.le_trans (Nat.le_max_left _ _) hhtA
    have hht3 : r.ht ≤ p.ht := Nat.le_trans (Nat.le_max_right _ _) hhtA
    have hd0 : txt.cps.toList.drop iA.toNat = 40 :: (q.print ++ 41 :: (r.print ++ rest)) := by rw [hdA]; simp [P.print]
    have hdB : txt.cps.toList.drop (iA + 1 + (q.print.length : Int) + 1).toNat = r.print ++ rest := by
      have := drop_app (r := 40 :: (q.print ++ [41])) (rest := r.print ++ rest) hiA (by rw [hd0]; simp) (k := 1 + (q.print.length : Int) + 1) (by simp only [List.length_cons, List.length_append, List.length_nil]; push_cast; omega)
      rw [show iA + 1 + (q.print.length : Int) + 1 = iA + (1 + (q.print.length : Int) + 1) by omega]; exact this
    have hiB : iA + 1 + (q.print.length : Int) + 1 ≤ 100 := by
      have := drop_len (n := 100) hdA (by show txt.length ≤ 100; exact hlen) (by omega)
      omega
    have hnx := next_ok (by omega) hdB hr hokr
    have hp : Txt.slice txt (some iA) (some (iA + 1)) = Str.ofString "(" := next_is hiA hdA rfl
    refine whl_turn (k := 0) ?hE ?_
    case hE => first | passes_own | with_unfolding_all passes_own
    (repeat' (first | ((with_reducible show wpAny _ _ (call (Value.ref 523) _) _ _ _); k_here; k_dflt (apply read_counted_any; (case B => k_asm); (case F => k_asm); (case X => k_asm); (case N => k_asm); (case T => k_asm); (case hA => first | exact Around.frames_deeper (Below.stack (by k_asm)) | assumption); (case hf => first | exact rfl | assumption); (case hke => first | exact rfl | assumption); (case hh => assumption); (case hdp => (first | assumption | exact room_d (by assumption) | exact room_f (by assumption) (by decide) | exact room_a (by assumption) (by decide) | exact room_b (by assumption) (by decide) | exact room_c (by assumption) (by decide) | exact room_e (by assumption) (by decide) | omega | (simp only [depth_deeper] at *; omega))); (case m1 => k_mem); (case m2 => k_mem); (case hi => (first | assumption | omega)); (case hi2 => (first | assumption | omega)); (case hlen => assumption); (case hG => assumption); (case hp => assumption)); intro h' tk' F' N'; (try dsimp only at N'); (try k_sweep)) | ((with_reducible show wpAny _ _ (call (Value.ref 516) _) _ _ _); k_here; k_dflt (first | (apply read_atom_a; (case B => k_asm); (case F => k_asm); (case X => k_asm); (case N => k_asm); (case T => k_asm); (case hA => first | exact Around.frames_deeper (Below.stack (by k_asm)) | assumption); (case hf => first | exact rfl | assumption); (case hke => first | exact rfl | assumption); (case hh => assumption); (case hdp => (first | assumption | exact room_d (by assumption) | exact room_f (by assumption) (by decide) | exact room_a (by assumption) (by decide) | exact room_b (by assumption) (by decide) | exact room_c (by assumption) (by decide) | exact room_e (by assumption) (by decide) | omega | (simp only [depth_deeper] at *; omega))); (case m1 => k_mem); (case U => k_updF); (case hi => (first | assumption | omega)); (case hi2 => (first | assumption | omega)); (case hlen => assumption); (case hG => assumption); (case hp => assumption)) | (apply read_atom_b; (case B => k_asm); (case F => k_asm); (case X => k_asm); (case N => k_asm); (case T => k_asm); (case hA => first | exact Around.frames_deeper (Below.stack (by k_asm)) | assumption); (case hf => first | exact rfl | assumption); (case hke => first | exact rfl | assumption); (case hh => assumption); (case hdp => (first | assumption | exact room_d (by assumption) | exact room_f (by assumption) (by decide) | exact room_a (by assumption) (by decide) | exact room_b (by assumption) (by decide) | exact room_c (by assumption) (by decide) | exact room_e (by assumption) (by decide) | omega | (simp only [depth_deeper] at *; omega))); (case m1 => k_mem); (case U => k_updF); (case hi => (first | assumption | omega)); (case hi2 => (first | assumption | omega)); (case hlen => assumption); (case hG => assumption); (case hp => assumption)) | (apply read_atom_d; (case B => k_asm); (case F => k_asm); (case X => k_asm); (case N => k_asm); (case T => k_asm); (case hA => first | exact Around.frames_deeper (Below.stack (by k_asm)) | assumption); (case hf => first | exact rfl | assumption); (case hke => first | exact rfl | assumption); (case hh => assumption); (case hdp => (first | assumption | exact room_d (by assumption) | exact room_f (by assumption) (by decide) | exact room_a (by assumption) (by decide) | exact room_b (by assumption) (by decide) | exact room_c (by assumption) (by decide) | exact room_e (by assumption) (by decide) | omega | (simp only [depth_deeper] at *; omega))); (case m1 => k_mem); (case U => k_updF); (case hi => (first | assumption | omega)); (case hi2 => (first | assumption | omega)); (case hlen => assumption); (case hG => assumption); (case hp => assumption))); intro v' tl' t' h' tk' F' N' O' S'; (try simp only [List.cons_append, List.nil_append, List.append_assoc] at N'); (try k_sweep)) | ((with_reducible show wpAny _ _ (call (Value.ref 516) _) _ _ _); k_here; k_dflt (apply atom_spec; (case H => assumption); (case B => k_asm); (case F => k_asm); (case X => k_asm); (case N => k_asm); (case T => k_asm); (case hA => first | exact Around.frames_deeper (Below.stack (by k_asm)) | assumption); (case hf => first | exact rfl | assumption); (case hke => first | exact rfl | assumption); (case hh => assumption); (case hdp => (first | assumption | exact room_d (by assumption) | exact room_f (by assumption) (by decide) | exact room_a (by assumption) (by decide) | exact room_b (by assumption) (by decide) | exact room_c (by assumption) (by decide) | exact room_e (by assumption) (by decide) | omega | (simp only [depth_deeper] at *; omega))); (case m1 => k_mem); (case U => k_updF); (case hi => (first | assumption | omega)); (case hi2 => (first | assumption | omega)); (case hlen => assumption); (case hG => assumption); (case hd0 => assumption); (case hok => assumption); (case hdn => (first | assumption | omega)); (case hdn2 => (first | assumption | omega))); intro v' tl' t3' t4' t5' h' tk' F' N' O' S'; (try simp only [List.cons_append, List.nil_append, List.append_assoc] at N'); (try k_sweep)) | ((with_reducible show wpAny _ _ (call (Value.ref 434) _) _ _ _); k_here; k_dflt (first | (apply take_count_o; (case B => k_asm); (case F => k_asm); (case X => k_asm); (case N => k_asm); (case T => k_asm); (case hA => first | exact Around.frames_deeper (Below.stack (by k_asm)) | assumption); (case hf => first | exact rfl | assumption); (case hke => first | exact rfl | assumption); (case hh => assumption); (case hdp => (first | assumption | exact room_d (by assumption) | exact room_f (by assumption) (by decide) | exact room_a (by assumption) (by decide) | exact room_b (by assumption) (by decide) | exact room_c (by assumption) (by decide) | exact room_e (by assumption) (by decide) | omega | (simp only [depth_deeper] at *; omega))); (case m1 => k_mem); (case m2 => k_mem); (case hi => (first | assumption | omega)); (case hi2 => (first | assumption | omega)); (case hlen => assumption); (case hp => assumption)) | (apply take_count_c; (case B => k_asm); (case F => k_asm); (case X => k_asm); (case N => k_asm); (case T => k_asm); (case hA => first | exact Around.frames_deeper (Below.stack (by k_asm)) | assumption); (case hf => first | exact rfl | assumption); (case hke => first | exact rfl | assumption); (case hh => assumption); (case hdp => (first | assumption | exact room_d (by assumption) | exact room_f (by assumption) (by decide) | exact room_a (by assumption) (by decide) | exact room_b (by assumption) (by decide) | exact room_c (by assumption) (by decide) | exact room_e (by assumption) (by decide) | omega | (simp only [depth_deeper] at *; omega))); (case m1 => k_mem); (case m2 => k_mem); (case hi => (first | assumption | omega)); (case hi2 => (first | assumption | omega)); (case hlen => assumption); (case hp => assumption)) | (apply take_count_a; (case B => k_asm); (case F => k_asm); (case X => k_asm); (case N => k_asm); (case T => k_asm); (case hA => first | exact Around.frames_deeper (Below.stack (by k_asm)) | assumption); (case hf => first | exact rfl | assumption); (case hke => first | exact rfl | assumption); (case hh => assumption); (case hdp => (first | assumption | exact room_d (by assumption) | exact room_f (by assumption) (by decide) | exact room_a (by assumption) (by decide) | exact room_b (by assumption) (by decide) | exact room_c (by assumption) (by decide) | exact room_e (by assumption) (by decide) | omega | (simp only [depth_deeper] at *; omega))); (case m1 => k_mem); (case m2 => k_mem); (case hi => (first | assumption | omega)); (case hi2 => (first | assumption | omega)); (case hlen => assumption); (case hp => assumption)) | (apply take_count_b; (case B => k_asm); (case F => k_asm); (case X => k_asm); (case N => k_asm); (case T => k_asm); (case hA => first | exact Around.frames_deeper (Below.stack (by k_asm)) | assumption); (case hf => first | exact rfl | assumption); (case hke => first | exact rfl | assumption); (case hh => assumption); (case hdp => (first | assumption | exact room_d (by assumption) | exact room_f (by assumption) (by decide) | exact room_a (by assumption) (by decide) | exact room_b (by assumption) (by decide) | exact room_c (by assumption) (by decide) | exact room_e (by assumption) (by decide) | omega | (simp only [depth_deeper] at *; omega))); (case m1 => k_mem); (case m2 => k_mem); (case hi => (first | assumption | omega)); (case hi2 => (first | assumption | omega)); (case hlen => assumption); (case hp => assumption)) | (apply take_count_d; (case B => k_asm); (case F => k_asm); (case X => k_asm); (case N => k_asm); (case T => k_asm); (case hA => first | exact Around.frames_deeper (Below.stack (by k_asm)) | assumption); (case hf => first | exact rfl | assumption); (case hke => first | exact rfl | assumption); (case hh => assumption); (case hdp => (first | assumption | exact room_d (by assumption) | exact room_f (by assumption) (by decide) | exact room_a (by assumption) (by decide) | exact room_b (by assumption) (by decide) | exact room_c (by assumption) (by decide) | exact room_e (by assumption) (by decide) | omega | (simp only [depth_deeper] at *; omega))); (case m1 => k_mem); (case m2 => k_mem); (case hi => (first | assumption | omega)); (case hi2 => (first | assumption | omega)); (case hlen => assumption); (case hp => assumption)) | (apply take_count_e; (case B => k_asm); (case F => k_asm); (case X => k_asm); (case N => k_asm); (case T => k_asm); (case hA => first | exact Around.frames_deeper (Below.stack (by k_asm)) | assumption); (case hf => first | exact rfl | assumption); (case hke => first | exact rfl | assumption); (case hh => assumption); (case hdp => (first | assumption | exact room_d (by assumption) | exact room_f (by assumption) (by decide) | exact room_a (by assumption) (by decide) | exact room_b (by assumption) (by decide) | exact room_c (by assumption) (by decide) | exact room_e (by assumption) (by decide) | omega | (simp only [depth_deeper] at *; omega))); (case m1 => k_mem); (case m2 => k_mem); (case hi => (first | assumption | omega)); (case hi2 => (first | assumption | omega)); (case hlen => assumption); (case hp => assumption))); intro h' tk' F' N'; (try dsimp only at N'); (try k_sweep)) | ((with_reducible show wpAny _ _ (call (Value.ref 495) _) _ _ _); k_here; k_dflt (apply read_inline_spec; (case B => k_asm); (case F => k_asm); (case X => k_asm); (case N => k_asm); (case T => k_asm); (case hA => first | exact Around.frames_deeper (Below.stack (by k_asm)) | assumption); (case hf => first | exact rfl | assumption); (case hke => first | exact rfl | assumption); (case hh => assumption); (case hdp => (first | assumption | exact room_d (by assumption) | exact room_f (by assumption) (by decide) | exact room_a (by assumption) (by decide) | exact room_b (by assumption) (by decide) | exact room_c (by assumption) (by decide) | exact room_e (by assumption) (by decide) | omega | (simp only [depth_deeper] at *; omega))); (case m1 => k_mem); (case m2 => k_mem); (case hi => (first | assumption | omega)); (case hi2 => (first | assumption | omega)); (case hlen => assumption); (case hG => assumption)); intro h' tk' F' N'; (try dsimp only at N'); (try k_sweep)) | ((with_reducible show wpAny _ _ (call (Value.ref 483) _) _ _ _); k_here; k_dflt (apply skip_unseen_spec; (case B => k_asm); (case F => k_asm); (case X => k_asm); (case N => k_asm); (case T => k_asm); (case hA => first | exact Around.frames_deeper (Below.stack (by k_asm)) | assumption); (case hf => first | exact rfl | assumption); (case hke => first | exact rfl | assumption); (case hh => assumption); (case hdp => (first | assumption | exact room_d (by assumption) | exact room_f (by assumption) (by decide) | exact room_a (by assumption) (by decide) | exact room_b (by assumption) (by decide) | exact room_c (by assumption) (by decide) | exact room_e (by assumption) (by decide) | omega | (simp only [depth_deeper] at *; omega))); (case m1 => k_mem); (case m2 => k_mem); (case hi => (first | assumption | omega)); (case hi2 => (first | assumption | omega)); (case hlen => assumption); (case hG => assumption)); intro h' tk' F' N'; (try dsimp only at N'); (try k_sweep)) | ((with_reducible show wpAny _ _ (call (Value.ref 270) _) _ _ _); k_here; k_dflt (apply skips_yes; (case B => k_asm); (case F => k_asm); (case X => k_asm); (case N => k_asm); (case T => k_asm); (case hA => first | exact Around.frames_deeper (Below.stack (by k_asm)) | assumption); (case hf => first | exact rfl | assumption); (case hke => first | exact rfl | assumption); (case hh => assumption); (case hdp => (first | assumption | exact room_d (by assumption) | exact room_f (by assumption) (by decide) | exact room_a (by assumption) (by decide) | exact room_b (by assumption) (by decide) | exact room_c (by assumption) (by decide) | exact room_e (by assumption) (by decide) | omega | (simp only [depth_deeper] at *; omega))); (case m1 => k_mem); (case U => k_updF); (case hi => (first | assumption | omega)); (case hi2 => (first | assumption | omega)); (case hlen => assumption); (case hw => decide +kernel); (case hs => assumption)); intro t' h' tk' F' N'; (try dsimp only at N'); (try k_sweep)) | ((with_reducible show wpAny _ _ (call (Value.ref 270) _) _ _ _); k_here; k_dflt (apply skips_no; (case B => k_asm); (case F => k_asm); (case X => k_asm); (case N => k_asm); (case T => k_asm); (case hA => first | exact Around.frames_deeper (Below.stack (by k_asm)) | assumption); (case hf => first | exact rfl | assumption); (case hke => first | exact rfl | assumption); (case hh => assumption); (case hdp => (first | assumption | exact room_d (by assumption) | exact room_f (by assumption) (by decide) | exact room_a (by assumption) (by decide) | exact room_b (by assumption) (by decide) | exact room_c (by assumption) (by decide) | exact room_e (by assumption) (by decide) | omega | (simp only [depth_deeper] at *; omega))); (case m1 => k_mem); (case m2 => k_mem); (case hi => (first | assumption | omega)); (case hi2 => (first | assumption | omega)); (case hlen => assumption); (case hw => decide +kernel); (case hs => first | assumption | exact slice_good_ne (by assumption) (by omega) (by omega) (by decide +kernel))); intro h' tk' F' N'; (try dsimp only at N'); (try k_sweep)) | ((with_reducible show wpAny _ _ (call (Value.ref 263) _) _ _ _); k_here; k_dflt (apply peek_is; (case B => k_asm); (case F => k_asm); (case X => k_asm); (case N => k_asm); (case T => k_asm); (case hA => first | exact Around.frames_deeper (Below.stack (by k_asm)) | assumption); (case hf => first | exact rfl | assumption); (case hke => first | exact rfl | assumption); (case hh => assumption); (case hdp => (first | assumption | exact room_d (by assumption) | exact room_f (by assumption) (by decide) | exact room_a (by assumption) (by decide) | exact room_b (by assumption) (by decide) | exact room_c (by assumption) (by decide) | exact room_e (by assumption) (by decide) | omega | (simp only [depth_deeper] at *; omega))); (case m1 => k_mem); (case m2 => k_mem); (case hi => (first | assumption | omega)); (case hlen => assumption); (case hp => assumption)); intro t' h' tk' F' N'; (try k_sweep)) | (k_unfold; (try dsimp only)) | (k_end; wrow_close) | walk1 | (dsimp only; walk1) | (leave1; walk_say "STEP leave1"; try dsimp only) | fail "no step"))
    unfold Hold
    rename List (Addr × Obj) => tlB
    rename GroupIn _ _ _ => SB
    rename Fr g L' _ _ => FB
    rename News g L' _ _ => NB
    simp only [List.push_toArray] at NB
    exact IH r _ (by omega) ⟨_, _, _, iA + 1 + (q.print.length : Int) + 1, gA + 1 + (q.ng : Int), _, _, _, _, tlA ++ tlB, pre.app (.group q .nil), _, rfl, frame_same FB, News.sub NB (by kcj_in),
        NodesIn.app (hN.mono fun _ h => List.mem_append_left _ h) ((NodesIn.one SB).mono fun _ h => List.mem_append_right _ h), by rw [P.app_assoc]; exact happ, by omega, hiB, hdB, hokr, hht3, by omega,
        by rw [← hiE, hL2]; push_cast; omega, by rw [← hgE, hng]; push_cast; omega, by rw [hL2] at hvs; simp only [List.length_append, List.length_cons, List.length_nil]; omega, by k_all, by k_all, by k_all⟩
end

end Mine
end
local macro_rules | `(tactic| walk_at "assign Tuple") => `(tactic| (k_here; (with_reducible show wpAny _ _ (assign (Expr.Tuple _ _ _) _ (Value.ref _)) _ _ _); k_dflt (refine' unpackN_ ?F ?N ?T ?k1 ?k2 ?k3 ?_; (case F => k_asm); (case N => k_asm); (case T => first | with_reducible assumption | (refine News.isTup (by k_asm) (by k_mem))); (case k1 => first | assumption | exact rfl); (case k2 => exact rfl); (case k3 => exact rfl)); intro h' F' N'; (try k_sweep)))
-- S8
section
open PySem PySem.W PyProof.Rows PySem.Calls PySem.Spec
namespace Mine
theorem alt_step {w : World} {p : P} (H : ∀ q : P, q.size < p.size → AltS w q) : AltS w p := by
  unfold AltS
  intro vw lo mean mg mb A₀ A base h₀ env outer L m s Q E news x dx txt t1 t3 t4 t5 i gn dn h1 h2 h3 h4 h5 h6 h7 k1 k2 k3 k4 k5 k6 k7 v2 v6 v7 tf gg rest B F X N T hA hf hke hh hdp m1 U hi hi2 hlen hG hd hr hok hdn hdn2 hret
  refine wpAny_call ?_
  have m2 := UpdF.mem U
  have hin := in2 m1 m2
  have N2 := News.sub N hin
  have hne := inst_ne N m1 m2
  have hb : i + (p.print.length : Int) ≤ 100 := by
    have := drop_len (n := 100) hd (by show txt.length ≤ 100; exact hlen) (by omega)
    omega
  (k_dflt (refine' enterS B F X N2 T ?kA hf hke ?k6 ?k7 ?k8 ?k9 ?kB ?_ ?c2 ?c3 ?c4 ?c5; (case kA => exact hA); (case k6 => k_is); (case k7 => k_is); (case k8 => (first | assumption | exact room_d (by assumption) | exact room_f (by assumption) (by decide) | exact room_a (by assumption) (by decide) | exact room_b (by assumption) (by decide) | exact room_c (by assumption) (by decide) | exact room_e (by assumption) (by decide) | omega | (simp only [depth_deeper] at *; omega))); (case k9 => exact BindsTo.of_eq rfl); (case c5 => decide); (case kB => exact locs rfl); (case c2 => exact rfl); (case c3 => exact rfl); (case c4 => exact rfl)))
  intro g L' hq FG F' N' B' X' T' l1 hK hS hL
  (try k_lt l1)
  (try dsimp only); (try k_fold)
  (repeat' (first | ((with_reducible show wpAny _ _ (call (Value.ref 509) _) _ _ _); k_here; k_dflt (apply branch_spec; (case H => assumption); (case B => k_asm); (case F => k_asm); (case X => k_asm); (case N => k_asm); (case T => k_asm); (case hA => first | exact Around.frames_deeper (Below.stack (by k_asm)) | assumption); (case hf => first | exact rfl | assumption); (case hke => first | exact rfl | assumption); (case hh => assumption); (case hdp => (first | assumption | exact room_d (by assumption) | exact room_f (by assumption) (by decide) | exact room_a (by assumption) (by decide) | exact room_b (by assumption) (by decide) | exact room_c (by assumption) (by decide) | exact room_e (by assumption) (by decide) | omega | (simp only [depth_deeper] at *; omega))); (case m1 => k_mem); (case U => k_updF); (case hi => (first | assumption | omega)); (case hi2 => (first | assumption | omega)); (case hlen => assumption); (case hG => assumption); (case hd => assumption); (case hr => assumption); (case hok => assumption); (case hdn => (first | assumption | omega)); (case hdn2 => (first | assumption | omega))); intro a' tl' v' t' t3' t4' t5' h' tk' F' N' O' S'; (try simp only [List.cons_append, List.nil_append, List.append_assoc] at N'); (try k_sweep)) | ((with_reducible show wpAny _ _ (call (Value.ref 270) _) _ _ _); k_here; k_dflt (apply skips_yes; (case B => k_asm); (case F => k_asm); (case X => k_asm); (case N => k_asm); (case T => k_asm); (case hA => first | exact Around.frames_deeper (Below.stack (by k_asm)) | assumption); (case hf => first | exact rfl | assumption); (case hke => first | exact rfl | assumption); (case hh => assumption); (case hdp => (first | assumption | exact room_d (by assumption) | exact room_f (by assumption) (by decide) | exact room_a (by assumption) (by decide) | exact room_b (by assumption) (by decide) | exact room_c (by assumption) (by decide) | exact room_e (by assumption) (by decide) | omega | (simp only [depth_deeper] at *; omega))); (case m1 => k_mem); (case U => k_updF); (case hi => (first | assumption | omega)); (case hi2 => (first | assumption | omega)); (case hlen => assumption); (case hw => decide +kernel); (case hs => assumption)); intro t' h' tk' F' N'; (try dsimp only at N'); (try k_sweep)) | ((with_reducible show wpAny _ _ (call (Value.ref 270) _) _ _ _); k_here; k_dflt (apply skips_no; (case B => k_asm); (case F => k_asm); (case X => k_asm); (case N => k_asm); (case T => k_asm); (case hA => first | exact Around.frames_deeper (Below.stack (by k_asm)) | assumption); (case hf => first | exact rfl | assumption); (case hke => first | exact rfl | assumption); (case hh => assumption); (case hdp => (first | assumption | exact room_d (by assumption) | exact room_f (by assumption) (by decide) | exact room_a (by assumption) (by decide) | exact room_b (by assumption) (by decide) | exact room_c (by assumption) (by decide) | exact room_e (by assumption) (by decide) | omega | (simp only [depth_deeper] at *; omega))); (case m1 => k_mem); (case m2 => k_mem); (case hi => (first | assumption | omega)); (case hi2 => (first | assumption | omega)); (case hlen => assumption); (case hw => decide +kernel); (case hs => first | assumption | exact slice_good_ne (by assumption) (by omega) (by omega) (by decide +kernel))); intro h' tk' F' N'; (try dsimp only at N'); (try k_sweep)) | (k_unfold; (try dsimp only)) | (k_end; wrow_close) | walk1 | (dsimp only; walk1) | (leave1; walk_say "STEP leave1"; try dsimp only) | fail "no step"))
  unfold Hold
  refine whl_start 1 ?_
  refine whl_turn (k := 0) ?hE ?_
  case hE => first | passes_own | with_unfolding_all passes_own
  (repeat' (first | ((with_reducible show wpAny _ _ (call (Value.ref 509) _) _ _ _); k_here; k_dflt (apply branch_spec; (case H => assumption); (case B => k_asm); (case F => k_asm); (case X => k_asm); (case N => k_asm); (case T => k_asm); (case hA => first | exact Around.frames_deeper (Below.stack (by k_asm)) | assumption); (case hf => first | exact rfl | assumption); (case hke => first | exact rfl | assumption); (case hh => assumption); (case hdp => (first | assumption | exact room_d (by assumption) | exact room_f (by assumption) (by decide) | exact room_a (by assumption) (by decide) | exact room_b (by assumption) (by decide) | exact room_c (by assumption) (by decide) | exact room_e (by assumption) (by decide) | omega | (simp only [depth_deeper] at *; omega))); (case m1 => k_mem); (case U => k_updF); (case hi => (first | assumption | omega)); (case hi2 => (first | assumption | omega)); (case hlen => assumption); (case hG => assumption); (case hd => assumption); (case hr => assumption); (case hok => assumption); (case hdn => (first | assumption | omega)); (case hdn2 => (first | assumption | omega))); intro a' tl' v' t' t3' t4' t5' h' tk' F' N' O' S'; (try simp only [List.cons_append, List.nil_append, List.append_assoc] at N'); (try k_sweep)) | ((with_reducible show wpAny _ _ (call (Value.ref 270) _) _ _ _); k_here; k_dflt (apply skips_yes; (case B => k_asm); (case F => k_asm); (case X => k_asm); (case N => k_asm); (case T => k_asm); (case hA => first | exact Around.frames_deeper (Below.stack (by k_asm)) | assumption); (case hf => first | exact rfl | assumption); (case hke => first | exact rfl | assumption); (case hh => assumption); (case hdp => (first | assumption | exact room_d (by assumption) | exact room_f (by assumption) (by decide) | exact room_a (by assumption) (by decide) | exact room_b (by assumption) (by decide) | exact room_c (by assumption) (by decide) | exact room_e (by assumption) (by decide) | omega | (simp only [depth_deeper] at *; omega))); (case m1 => k_mem); (case U => k_updF); (case hi => (first | assumption | omega)); (case hi2 => (first | assumption | omega)); (case hlen => assumption); (case hw => decide +kernel); (case hs => assumption)); intro t' h' tk' F' N'; (try dsimp only at N'); (try k_sweep)) | ((with_reducible show wpAny _ _ (call (Value.ref 270) _) _ _ _); k_here; k_dflt (apply skips_no; (case B => k_asm); (case F => k_asm); (case X => k_asm); (case N => k_asm); (case T => k_asm); (case hA => first | exact Around.frames_deeper (Below.stack (by k_asm)) | assumption); (case hf => first | exact rfl | assumption); (case hke => first | exact rfl | assumption); (case hh => assumption); (case hdp => (first | assumption | exact room_d (by assumption) | exact room_f (by assumption) (by decide) | exact room_a (by assumption) (by decide) | exact room_b (by assumption) (by decide) | exact room_c (by assumption) (by decide) | exact room_e (by assumption) (by decide) | omega | (simp only [depth_deeper] at *; omega))); (case m1 => k_mem); (case m2 => k_mem); (case hi => (first | assumption | omega)); (case hi2 => (first | assumption | omega)); (case hlen => assumption); (case hw => decide +kernel); (case hs => first | assumption | exact slice_good_ne (by assumption) (by omega) (by omega) (by decide +kernel))); intro h' tk' F' N'; (try dsimp only at N'); (try k_sweep)) | (k_unfold; (try dsimp only)) | (k_end; wrow_close) | walk1 | (dsimp only; walk1) | (leave1; walk_say "STEP leave1"; try dsimp only) | fail "no step"))
  rename List (Addr × Obj) => tlA
  rename SeqIn _ _ _ => Sq
  rename Fr g L' _ _ => Fe
  rename News g L' _ _ => Ne
  rename Fr h₀ L _ m => kF
  rename News h₀ L _ (_ :: _) => kN
  obtain ⟨z1, z2⟩ := back (tl := tlA) N U m1 hK Fe Ne kN (by kcj_in) (by k_all) (by k_all)
  exact hret _ _ _ _ _ _ _ kF z1 z2 Sq
theorem alt_all (w : World) : ∀ p : P, AltS w p := by
  have all : ∀ n, ∀ p : P, p.size < n → AltS w p := by
    intro n
    induction n with
    | zero => intro p h; exact absurd h (Nat.not_lt_zero _)
    | succ n ih => exact fun p h => alt_step fun q hq => ih q (Nat.lt_of_lt_of_le hq (Nat.le_of_lt_succ h))
  exact fun p => all _ p (Nat.lt_succ_self _)

end Mine
end
-- PMore
section
open PySem PySem.W PyProof.Rows PySem.Calls PySem.Spec
namespace Mine
def ItemIs (x : Str) (i : Int) (lit : Str) : Prop := 0 ≤ i ∧ i < x.length ∧ ∃ c, x.cps[i.toNat]? = some c ∧ lit = ⟨#[c]⟩
theorem item_lit {prog : Program} {w : World} {A : Around} {E : Value → Shared → Prop} {s : Shared} {value slice : Expr} {x lit : Str} {t u : Tok} {i : Int} {Q : Value → Shared → Prop} (h : ItemIs x i lit) (hlen : x.length ≤ 100)
    (hq : Q (.str lit s.toks) { s with toks := s.toks + 1 })
    (hs : subscripted slice false (.str x t) (.int i u) = operate [.str x t, .int i u] (getItem (.str x t) (.int i u)) := by with_unfolding_all rfl)
    (ht : ∀ r, letTemporaryGo value (.str x t) r = pure () := by intro _; with_unfolding_all rfl) :
    wpAny (model prog w) A (subscriptTail value slice (.str x t) (.int i u)) Q E s := by
  obtain ⟨h0, h1, c, hc, rfl⟩ := h
  have e : Txt.item x i = ⟨#[c]⟩ := by
    have : Txt.charAt x i = some c := by
      unfold Txt.charAt seqIndex?
      have e1 : (if i < 0 then i + (x.length : Int) else i) = i := if_neg (by omega)
      simp only [e1]
      rw [if_pos (by simp; omega)]
      exact hc
    unfold Txt.item
    rw [this]; rfl
  refine item_str (fitsSsize_of (N := 9223372036854775808) (by omega) (by omega) (Int.le_refl _)) (by omega) h1 (fun _ => ?_) hs ht
  rw [e]; exact hq
theorem fr_congr {g h : Heap} {L : Addr} {m m' : Str → Option Value} (F : Fr g L h m) (e : ∀ y, m y = m' y) : Fr g L h m' := by
  have : m = m' := funext e
  rw [← this]; exact F
theorem good_cases {x : Str} {i : Int} (hg : Good x) (h0 : 0 ≤ i) (h1 : i < x.length) : ItemIs x i (Str.ofString "(") ∨ ItemIs x i (Str.ofString ")") ∨ ItemIs x i (Str.ofString "a") ∨ ItemIs x i (Str.ofString "b") ∨ ItemIs x i (Str.ofString "c") := by
  have hlt : i.toNat < x.cps.size := by have : x.length = x.cps.size := rfl; omega
  have hc : x.cps[i.toNat]? = some x.cps[i.toNat] := Array.getElem?_eq_getElem hlt
  have hm : x.cps[i.toNat] ∈ x.cps.toList := by simp
  have hgood := hg _ hm
  generalize x.cps[i.toNat] = c at hc hgood
  have : c = 40 ∨ c = 41 ∨ c = 97 ∨ c = 98 ∨ c = 99 := by
    simp only [good, Bool.or_eq_true, beq_iff_eq] at hgood; simpa only [or_assoc] using hgood
  rcases this with rfl | rfl | rfl | rfl | rfl
  · exact .inl ⟨h0, h1, 40, hc, rfl⟩
  · exact .inr (.inl ⟨h0, h1, 41, hc, rfl⟩)
  · exact .inr (.inr (.inl ⟨h0, h1, 97, hc, rfl⟩))
  · exact .inr (.inr (.inr (.inl ⟨h0, h1, 98, hc, rfl⟩)))
  · exact .inr (.inr (.inr (.inr ⟨h0, h1, 99, hc, rfl⟩)))

end Mine
end
-- S9
section
open PySem PySem.W PyProof.Rows PySem.Calls PySem.Spec
namespace Mine
local macro_rules | `(tactic| walk_at "ite") => `(tactic| first | refine PySem.W.ite_pos (bne_of_not (by assumption)) ?_ | refine PySem.W.ite_neg (beq_of_not (by assumption)) ?_ | refine PySem.W.ite_pos (by assumption) ?_ | refine PySem.W.ite_neg (by assumption) ?_)
local macro_rules | `(tactic| walk_at "WhlIf") => `(tactic| first | (refine WhlIf.yes (decide_eq_true (by omega)) ?_) | (refine WhlIf.no (decide_eq_false (by omega)) ?_))
local macro_rules | `(tactic| walk_at "exec") => `(tactic| (k_here; (with_reducible show wpAny _ _ (exec (Stmt.While _ _ _ _) _) _ _ _); refine hold ?_))
section
variable {w : World} {vw : Program} {lo : List Str} {mean : ExcName → Option Value} {mg mb : Str → Option Value} {A₀ A : Around} {base h₀ : Heap} {env : Env} {outer : List Env} {L : Addr} {m : Str → Option Value} {s : Shared} {Q E : Value → Shared → Prop} {news : List (Addr × Obj)}
  {x dx : Addr} {txt : Str} {t1 t3 t4 t5 : Tok} {i gn dn : Int} {h1 h2 h3 h4 h5 h6 h7 : Int} {k1 k2 k3 k4 k5 k6 k7 : Tok} {v2 v4 v5 v6 v7 : Value}
theorem opens_spec {sg : Str} {tg : Tok}
  (B : Below A₀ base outer h₀) (F : Fr h₀ L s.heap m) (X : (pre.heap_1 w.params).In h₀) (N : News h₀ L s.heap news) (T : Top vw lo mean mg mb h₀) (hA : A.frames = some (env :: outer)) (hf : env.frame = some L) (hke : env.scope.kind = .function) (hh : A.handled = none)
  (hdp : A.depth + 1 < recursionLimit) (hlen : sg.length ≤ 100)
  (hs : ¬ Txt.slice sg none (some 1) = Str.ofString "?")
  (hret : ∀ h' tk', Fr h₀ L h' m → News h₀ L h' news → Q (.bool true) { s with heap := h', toks := tk' }) :
  wpAny (model PySem.Challenge.rw_qz0116_01.row.toRowW.1 w) A (call (.ref 415) [.str sg tg]) Q E s := by
  refine wpAny_call ?_
  have hin : ∀ p ∈ ([] : List (Addr × Obj)), p ∈ news := fun _ h => nomatch h
  have N2 := News.sub N hin
  (k_dflt (refine' enterS B F X N2 T ?kA hf hke ?k6 ?k7 ?k8 ?k9 ?kB ?_ ?c2 ?c3 ?c4 ?c5; (case kA => exact hA); (case k6 => k_is); (case k7 => k_is); (case k8 => (first | assumption | exact room_d (by assumption) | exact room_f (by assumption) (by decide) | exact room_a (by assumption) (by decide) | exact room_b (by assumption) (by decide) | exact room_c (by assumption) (by decide) | exact room_e (by assumption) (by decide) | omega | (simp only [depth_deeper] at *; omega))); (case k9 => exact BindsTo.of_eq rfl); (case c5 => decide); (case kB => exact locs rfl); (case c2 => exact rfl); (case c3 => exact rfl); (case c4 => exact rfl)))
  intro g L' hq FG F' N' B' X' T' l1 hK hS hL
  (try k_lt l1)
  (try dsimp only); (try k_fold)
  k_steps
  rename Fr g L' _ _ => Fe
  rename Fr h₀ L _ m => kF
  rename News h₀ L _ [] => kN
  exact hret _ _ kF (after0 (mods := []) N hin (hK.trans Fe.keep) kN)
local macro_rules | `(tactic| walk_at "subscriptTail Name Name str int") => `(tactic| (k_here; k_dflt (refine item_lit (by assumption) (by assumption) ?_)))
inductive CgInv (g : Heap) (L' : Addr) (m₁ : Str → Option Value) (s₁ : Shared) (len : Nat) (n : Nat) (s' : Shared) : Prop
  | mk (h : Heap) (tk : Nat) (a f : Int) (ta tf : Tok) (f0 : s' = { s₁ with heap := h, toks := tk }) (f1 : Fr g L' h (fun y => if y = (Str.ofString "at") then some (.int a ta) else if y = (Str.ofString "found") then some (.int f tf) else m₁ y)) (f2 : News g L' h []) (f3 : 0 ≤ a) (f4 : a ≤ len) (f5 : n = len - a.toNat) : CgInv g L' m₁ s₁ len n s'
theorem count_spec {tg : Tok}
  (B : Below A₀ base outer h₀) (F : Fr h₀ L s.heap m) (X : (pre.heap_1 w.params).In h₀) (N : News h₀ L s.heap news) (T : Top vw lo mean mg mb h₀) (hA : A.frames = some (env :: outer)) (hf : env.frame = some L) (hke : env.scope.kind = .function) (hh : A.handled = none)
  (hdp : A.depth + 2 < recursionLimit) (hlen : txt.length ≤ 100) (hG : Good txt)
  (hret : ∀ k t h' tk', Fr h₀ L h' m → News h₀ L h' news → Q (.int k t) { s with heap := h', toks := tk' }) :
  wpAny (model PySem.Challenge.rw_qz0116_01.row.toRowW.1 w) A (call (.ref 394) [.str txt tg]) Q E s := by
  refine wpAny_call ?_
  have hin : ∀ p ∈ ([] : List (Addr × Obj)), p ∈ news := fun _ h => nomatch h
  have N2 := News.sub N hin
  (k_dflt (refine' enterS B F X N2 T ?kA hf hke ?k6 ?k7 ?k8 ?k9 ?kB ?_ ?c2 ?c3 ?c4 ?c5; (case kA => exact hA); (case k6 => k_is); (case k7 => k_is); (case k8 => (first | assumption | exact room_d (by assumption) | exact room_f (by assumption) (by decide) | exact room_a (by assumption) (by decide) | exact room_b (by assumption) (by decide) | exact room_c (by assumption) (by decide) | exact room_e (by assumption) (by decide) | omega | (simp only [depth_deeper] at *; omega))); (case k9 => exact BindsTo.of_eq rfl); (case c5 => decide); (case kB => exact locs rfl); (case c2 => exact rfl); (case c3 => exact rfl); (case c4 => exact rfl)))
  intro g L' hq FG F' N' B' X' T' l1 hK hS hL
  (try k_lt l1)
  (try dsimp only); (try k_fold)
  (repeat' (first | ((with_reducible show wpAny _ _ (call (Value.ref 415) _) _ _ _); k_here; k_dflt (apply opens_spec; (case B => k_asm); (case F => k_asm); (case X => k_asm); (case N => k_asm); (case T => k_asm); (case hA => first | exact Around.frames_deeper (Below.stack (by k_asm)) | assumption); (case hf => first | exact rfl | assumption); (case hke => first | exact rfl | assumption); (case hh => assumption); (case hdp => (first | assumption | exact room_d (by assumption) | exact room_f (by assumption) (by decide) | exact room_a (by assumption) (by decide) | exact room_b (by assumption) (by decide) | exact room_c (by assumption) (by decide) | exact room_e (by assumption) (by decide) | omega | (simp only [depth_deeper] at *; omega))); (case hlen => assumption); (case hs => assumption)); intro h' tk' F' N'; (try dsimp only at N'); (try k_sweep)) | (k_unfold; (try dsimp only)) | (k_end; wrow_close) | walk1 | (dsimp only; walk1) | (leave1; walk_say "STEP leave1"; try dsimp only) | fail "no step"))
  unfold Hold
  rename Fr g L' _ _ => Fq
  refine whl_start 1 ?_
  refine nat_ind (CgInv g L' _ s txt.length) ?_ txt.length _ ⟨_, _, 0, 0, _, _, rfl, Fq, News.nil, by omega, by omega, by omega⟩
  rintro nA s' ⟨hA1, tkA, aA, fA, tA, tfA, rfl, FA, NA, ha0, ha1, han⟩ IH
  clear Fq
  refine whl_turn (k := 0) ?hE ?_
  case hE => first | passes_own | with_unfolding_all passes_own
  by_cases hlt : aA < (txt.length : Int)
  · have hsg : ¬ Txt.slice txt (some aA) (some (aA + 3)) = Str.ofString "(?#" := slice_good_ne hG ha0 (by omega) (by decide +kernel)
    have hso : ¬ Txt.slice (Txt.slice txt (some (aA + 1)) (some (aA + 4))) none (some 1) = Str.ofString "?" := by
      rw [slice0]
      exact slice_good_ne (good_slice hG (by omega) (by omega)) (by omega) (by omega) (by decide +kernel)
    have hsl : (Txt.slice txt (some (aA + 1)) (some (aA + 4))).length ≤ 100 := Nat.le_trans (Txt.slice_le _ _ _) hlen
    rcases good_cases hG ha0 hlt with hx | hx | hx | hx | hx
    · (repeat' (first | ((with_reducible show wpAny _ _ (call (Value.ref 415) _) _ _ _); k_here; k_dflt (apply opens_spec; (case B => k_asm); (case F => k_asm); (case X => k_asm); (case N => k_asm); (case T => k_asm); (case hA => first | exact Around.frames_deeper (Below.stack (by k_asm)) | assumption); (case hf => first | exact rfl | assumption); (case hke => first | exact rfl | assumption); (case hh => assumption); (case hdp => (first | assumption | exact room_d (by assumption) | exact room_f (by assumption) (by decide) | exact room_a (by assumption) (by decide) | exact room_b (by assumption) (by decide) | exact room_c (by assumption) (by decide) | exact room_e (by assumption) (by decide) | omega | (simp only [depth_deeper] at *; omega))); (case hlen => assumption); (case hs => assumption)); intro h' tk' F' N'; (try dsimp only at N'); (try k_sweep)) | (k_unfold; (try dsimp only)) | (k_end; wrow_close) | walk1 | (dsimp only; walk1) | (leave1; walk_say "STEP leave1"; try dsimp only) | fail "no step"))
      unfold Hold
      rename Fr g L' _ _ => FB
      rename News g L' _ [] => NB
      exact IH (txt.length - (aA + 1).toNat) _ (by omega) ⟨_, _, aA + 1, _, _, _, rfl, fr_congr FB (by
        intro y
        by_cases e1 : y = Str.ofString "at"
        · simp only [e1, if_true] <;> rfl
        · simp only [e1, if_false] <;> (by_cases e2 : y = Str.ofString "found"; (simp only [e2, if_true] <;> rfl); (simp only [e2, if_false] <;> rfl))), News.nil, by omega, by omega, by omega⟩
    · (repeat' (first | ((with_reducible show wpAny _ _ (call (Value.ref 415) _) _ _ _); k_here; k_dflt (apply opens_spec; (case B => k_asm); (case F => k_asm); (case X => k_asm); (case N => k_asm); (case T => k_asm); (case hA => first | exact Around.frames_deeper (Below.stack (by k_asm)) | assumption); (case hf => first | exact rfl | assumption); (case hke => first | exact rfl | assumption); (case hh => assumption); (case hdp => (first | assumption | exact room_d (by assumption) | exact room_f (by assumption) (by decide) | exact room_a (by assumption) (by decide) | exact room_b (by assumption) (by decide) | exact room_c (by assumption) (by decide) | exact room_e (by assumption) (by decide) | omega | (simp only [depth_deeper] at *; omega))); (case hlen => assumption); (case hs => assumption)); intro h' tk' F' N'; (try dsimp only at N'); (try k_sweep)) | (k_unfold; (try dsimp only)) | (k_end; wrow_close) | walk1 | (dsimp only; walk1) | (leave1; walk_say "STEP leave1"; try dsimp only) | fail "no step"))
      unfold Hold
      rename Fr g L' _ _ => FB
      rename News g L' _ [] => NB
      exact IH (txt.length - (aA + 1).toNat) _ (by omega) ⟨_, _, aA + 1, _, _, _, rfl, fr_congr FB (by
        intro y
        by_cases e1 : y = Str.ofString "at"
        · simp only [e1, if_true] <;> rfl
        · simp only [e1, if_false] <;> (by_cases e2 : y = Str.ofString "found"; (simp only [e2, if_true] <;> rfl); (simp only [e2, if_false] <;> rfl))), News.nil, by omega, by omega, by omega⟩
    · (repeat' (first | ((with_reducible show wpAny _ _ (call (Value.ref 415) _) _ _ _); k_here; k_dflt (apply opens_spec; (case B => k_asm); (case F => k_asm); (case X => k_asm); (case N => k_asm); (case T => k_asm); (case hA => first | exact Around.frames_deeper (Below.stack (by k_asm)) | assumption); (case hf => first | exact rfl | assumption); (case hke => first | exact rfl | assumption); (case hh => assumption); (case hdp => (first | assumption | exact room_d (by assumption) | exact room_f (by assumption) (by decide) | exact room_a (by assumption) (by decide) | exact room_b (by assumption) (by decide) | exact room_c (by assumption) (by decide) | exact room_e (by assumption) (by decide) | omega | (simp only [depth_deeper] at *; omega))); (case hlen => assumption); (case hs => assumption)); intro h' tk' F' N'; (try dsimp only at N'); (try k_sweep)) | (k_unfold; (try dsimp only)) | (k_end; wrow_close) | walk1 | (dsimp only; walk1) | (leave1; walk_say "STEP leave1"; try dsimp only) | fail "no step"))
      unfold Hold
      rename Fr g L' _ _ => FB
      rename News g L' _ [] => NB
      exact IH (txt.length - (aA + 1).toNat) _ (by omega) ⟨_, _, aA + 1, _, _, _, rfl, fr_congr FB (by
        intro y
        by_cases e1 : y = Str.ofString "at"
        · simp only [e1, if_true] <;> rfl
        · simp only [e1, if_false] <;> (by_cases e2 : y = Str.ofString "found"; (simp only [e2, if_true] <;> rfl); (simp only [e2, if_false] <;> rfl))), News.nil, by omega, by omega, by omega⟩
    · (repeat' (first | ((with_reducible show wpAny _ _ (call (Value.ref 415) _) _ _ _); k_here; k_dflt (apply opens_spec; (case B => k_asm); (case F => k_asm); (case X => k_asm); (case N => k_asm); (case T => k_asm); (case hA => first | exact Around.frames_deeper (Below.stack (by k_asm)) | assumption); (case hf => first | exact rfl | assumption); (case hke => first | exact rfl | assumption); (case hh => assumption); (case hdp => (first | assumption | exact room_d (by assumption) | exact room_f (by assumption) (by decide) | exact room_a (by assumption) (by decide) | exact room_b (by assumption) (by decide) | exact room_c (by assumption) (by decide) | exact room_e (by assumption) (by decide) | omega | (simp only [depth_deeper] at *; omega))); (case hlen => assumption); (case hs => assumption)); intro h' tk' F' N'; (try dsimp only at N'); (try k_sweep)) | (k_unfold; (try dsimp only)) | (k_end; wrow_close) | walk1 | (dsimp only; walk1) | (leave1; walk_say "STEP leave1"; try dsimp only) | fail "no step"))
      unfold Hold
      rename Fr g L' _ _ => FB
      rename News g L' _ [] => NB
      exact IH (txt.length - (aA + 1).toNat) _ (by omega) ⟨_, _, aA + 1, _, _, _, rfl, fr_congr FB (by
        intro y
        by_cases e1 : y = Str.ofString "at"
        · simp only [e1, if_true] <;> rfl
        · simp only [e1, if_false] <;> (by_cases e2 : y = Str.ofString "found"; (simp only [e2, if_true] <;> rfl); (simp only [e2, if_false] <;> rfl))), News.nil, by omega, by omega, by omega⟩
    · (repeat' (first | ((with_reducible show wpAny _ _ (call (Value.ref 415) _) _ _ _); k_here; k_dflt (apply opens_spec; (case B => k_asm); (case F => k_asm); (case X => k_asm); (case N => k_asm); (case T => k_asm); (case hA => first | exact Around.frames_deeper (Below.stack (by k_asm)) | assumption); (case hf => first | exact rfl | assumption); (case hke => first | exact rfl | assumption); (case hh => assumption); (case hdp => (first | assumption | exact room_d (by assumption) | exact room_f (by assumption) (by decide) | exact room_a (by assumption) (by decide) | exact room_b (by assumption) (by decide) | exact room_c (by assumption) (by decide) | exact room_e (by assumption) (by decide) | omega | (simp only [depth_deeper] at *; omega))); (case hlen => assumption); (case hs => assumption)); intro h' tk' F' N'; (try dsimp only at N'); (try k_sweep)) | (k_unfold; (try dsimp only)) | (k_end; wrow_close) | walk1 | (dsimp only; walk1) | (leave1; walk_say "STEP leave1"; try dsimp only) | fail "no step"))
      unfold Hold
      rename Fr g L' _ _ => FB
      rename News g L' _ [] => NB
      exact IH (txt.length - (aA + 1).toNat) _ (by omega) ⟨_, _, aA + 1, _, _, _, rfl, fr_congr FB (by
        intro y
        by_cases e1 : y = Str.ofString "at"
        · simp only [e1, if_true] <;> rfl
        · simp only [e1, if_false] <;> (by_cases e2 : y = Str.ofString "found"; (simp only [e2, if_true] <;> rfl); (simp only [e2, if_false] <;> rfl))), News.nil, by omega, by omega, by omega⟩
  · (repeat' (first | ((with_reducible show wpAny _ _ (call (Value.ref 415) _) _ _ _); k_here; k_dflt (apply opens_spec; (case B => k_asm); (case F => k_asm); (case X => k_asm); (case N => k_asm); (case T => k_asm); (case hA => first | exact Around.frames_deeper (Below.stack (by k_asm)) | assumption); (case hf => first | exact rfl | assumption); (case hke => first | exact rfl | assumption); (case hh => assumption); (case hdp => (first | assumption | exact room_d (by assumption) | exact room_f (by assumption) (by decide) | exact room_a (by assumption) (by decide) | exact room_b (by assumption) (by decide) | exact room_c (by assumption) (by decide) | exact room_e (by assumption) (by decide) | omega | (simp only [depth_deeper] at *; omega))); (case hlen => assumption); (case hs => assumption)); intro h' tk' F' N'; (try dsimp only at N'); (try k_sweep)) | (k_unfold; (try dsimp only)) | (k_end; wrow_close) | walk1 | (dsimp only; walk1) | (leave1; walk_say "STEP leave1"; try dsimp only) | fail "no step"))
    rename Fr g L' _ _ => Fe
    rename Fr h₀ L _ m => kF
    rename News h₀ L _ [] => kN
    exact hret _ _ _ _ kF (after0 (mods := []) N hin (hK.trans Fe.keep) kN)
end

end Mine
end
-- SCell
section
open PySem PySem.W PyProof.Rows PySem.Calls PySem.Spec
namespace Mine
section
variable {prog : Program} {w : World} {A₀ A : Around} {s : Shared} {base h₀ : Heap} {outer : List Env} {L : Addr} {m : Str → Option Value} {env : Env} {news : List (Addr × Obj)} {K : Frag}
  {p : Program} {loose : List Str} {mean : ExcName → Option Value} {mg mb : Str → Option Value}
  {R : Result → Shared → Prop} {name qual : Str} {params : Arguments} {body : List Stmt} {scope : Scope} {dV kV doc pm cdv ct oc : Value} {an od : Option Addr} {osl : Array (Option Value)} {f : Addr} {args : Args} {binds : List (Str × Value)}
/-- as enterS, for a def some of whose names are captured -/
theorem enterSC (B : Below A₀ base outer h₀) (F : Fr h₀ L s.heap m) (X₀ : K.In h₀) (N : News h₀ L s.heap news) (T : Top p loose mean mg mb h₀) (hA : A.frames = some (env :: outer)) (hf : env.frame = some L) (hke : env.scope.kind = .function)
    (ho : K.lookup f = some ⟨oc, od, .func (fnOf name qual params body scope dV kV doc pm an cdv ct), osl⟩) (hcd : codeIn K cdv qual = true) (hroom : A.depth < recursionLimit)
    (hbind : BindsTo s (fnOf name qual params body scope dV kV doc pm an cdv ct) args binds) (hkind : (binds.all fun y => scope.names.lookup y.1 == some .local || scope.names.lookup y.1 == some .cell) = true)
    (hnd : ((cellsFrom 0 scope.names []).map (·.1)).Nodup)
    (h : ∀ g L' h₁ tk cells, Fr h₀ L g m → Fr g L' h₁ (bindL (envOfC qual scope L' f cdv).kindOf binds fun _ => none) → News g L' h₁ (cells ++ news) →
      CellsAre (bindC (envOfC qual scope L' f cdv).kindOf binds fun _ => none) (cellsFrom (L' + 1) scope.names []) cells → Below A base (env :: outer) g → K.In g → Top p loose mean mg mb g → (∀ p ∈ news, p.1 < L') →
      Kept s.heap (news.map (·.1)) g → (∀ b o, g.get? b = some o → s.heap.get? b = some o) → L' = s.heap.objs.size →
      wpAny (model prog w) (A.deeper (envOfC qual scope L' f cdv)) (execs body (envOfC qual scope L' f cdv))
        (fun fl s' => LeaveK h₀ L m g R (match fl with | .ret v => v | _ => .none) s')
        (fun e s' => wpAny (model prog w) (A.deeper (envOfC qual scope L' f cdv)) (leaving (envOfC qual scope L' f cdv) e) (fun _ s'' => R (.error e) s'') (fun e' s'' => R (.error e') s'') s')
        { s with heap := h₁, toks := tk })
    (hco : scope.isCoroutine = false) (hgen : scope.isGenerator = false) (hk : scope.kind = .function) : codeAny (model prog w) A (.call (.ref f) args) R s := by
  obtain ⟨FG, BG, st, lv⟩ := groundX (R := R) B F N hA hf hke
  have XS := X₀.keeps F.keep
  refine codeAny_call_function hroom (XS _ _ ho) rfl hco hgen rfl (codeRec_of XS hcd) (hbind _ _ _ _ ?_)
  refine wpAny_newFunctionEnv_cells hk (kindsX hkind _) fun env' he s' x => ?_
  subst he
  refine ⟨(T.nolimit.keeps F.keep).keeps x.toInCall.keep, codeAny_func ?_⟩
  obtain ⟨h₁, tk, rfl, _⟩ := x.done
  have hk₁ := x.toInCall.keep
  obtain ⟨cells, NC, Y⟩ := Cl.news (h₀ := s.heap) (Nat.le_refl _) fun n c hm => ⟨x.cell n c (lookup_of_mem_nodup (cellsFrom_names scope.names 0 (s.heap.objs.size + 1) [] [] rfl ▸ hnd) hm), x.above n c hm⟩
  refine wpAny_mono (h _ s.heap.objs.size h₁ tk cells FG ⟨x.toInCall.ns, fun b o e => hk₁ b o (of_hideAll _ e), Nat.le_of_eq (hideAll_size _ _)⟩ (fun p hp => ?_) Y BG (X₀.keeps st) (T.keeps st) (fun p hp => Heap.lt_size (N p hp).1)
    (fun b o e hn => hideAll_get _ e hn) (fun b o e => of_hideAll _ e) rfl) (fun fl s' hl => lv _ _ hl) fun _ _ y => y
  rcases List.mem_append.mp hp with hp | hp
  · refine ⟨(NC p hp).1, (NC p hp).2.1, ?_⟩
    cases q : (hideAll s.heap (news.map (·.1))).get? p.1 with
    | none => rfl
    | some o => have := of_hideAll _ q; rw [(NC p hp).2.2] at this; cases this
  · exact ⟨hk₁ _ _ (N p hp).1, Nat.ne_of_lt (Heap.lt_size (N p hp).1), hideAll_none _ (List.mem_map_of_mem hp)⟩
end

end Mine
end
-- SComp
section
open PySem PySem.W PyProof.Rows PySem.Calls PySem.Spec
open LCg LCt
namespace Mine
open LCg LCt
def SrcS (prog : Program) (w : World) (A : Around) (h₀ : Heap) (L : Addr) (m : Str → Option Value) (env : Env) (ct elt : Expr) (x : Str) (scope : Scope) (cl : List (Str × Addr)) (Fin : Shared → List Value → List (Addr × Obj) → Prop) (xv : Value) (s₁ : Shared) : Prop :=
  ∃ y t news, xv = .str y t ∧ A.handled = none ∧ Fr h₀ L s₁.heap m ∧ News h₀ L s₁.heap news ∧ y.cps.size ≤ sizeLine ∧
    ∀ s₂ : Shared, (∃ h, s₂ = { s₁ with heap := h }) → CompRestT prog w A h₀ L m env ct elt x scope cl s₂ (fun _ => True) (SignAt y) (Fin s₂) y.cps.size 0 [] news

section
variable {prog : Program} {w : World} {A : Around} {E : Value → Shared → Prop} {s : Shared} {h₀ : Heap} {L : Addr} {m : Str → Option Value} {env : Env}
theorem SrcS.mk {ct elt : Expr} {x : Str} {scope : Scope} {cl : List (Str × Addr)} {Fin : Shared → List Value → List (Addr × Obj) → Prop} {y : Str} {t : Tok} {news : List (Addr × Obj)} {s₁ : Shared}
    (hh : A.handled = none) (F : Fr h₀ L s₁.heap m) (N : News h₀ L s₁.heap news) (hsz : y.cps.size ≤ sizeLine)
    (h : ∀ g, CompRestT prog w A h₀ L m env ct elt x scope cl { s₁ with heap := g } (fun _ => True) (SignAt y) (Fin { s₁ with heap := g }) y.cps.size 0 [] news) :
    SrcS prog w A h₀ L m env ct elt x scope cl Fin (.str y t) s₁ := ⟨y, t, news, rfl, hh, F, N, hsz, fun _ ⟨g, e⟩ => e ▸ h g⟩

theorem iter_st {T : String} {y : Str} {t : Tok} {S : List (Addr × Obj) → Prop} {I : Addr} :
    ∀ (i : Nat) (h h' : Heap) (o : Obj) (nw : List (Addr × Obj)), h.IsStrIter I T y t i → h.get? I = some o → h'.get? I = some o → (∀ b o, h₀.get? b = some o → h'.get? b = some o) → News h₀ L h' nw → S nw → h'.IsStrIter I T y t i := by
  intro i h h' o nw hs e e' _ _ _
  obtain ⟨o', ho, r⟩ := hs
  rw [e] at ho
  cases ho
  exact ⟨o, e', r⟩

theorem ListComp_S {ct elt iter : Expr} {x : Str} {px : Pos} {scope : Scope} {cl : List (Str × Addr)} {pos : Pos} {Q : Value → Shared → Prop} (F₀ : Fr h₀ L s.heap m)
    (hclos : closureFor scope env = pure cl) (hcell : ∀ y ∈ scope.names, y.2 ≠ .cell) (hkind : scope.kind = .function)
    (hnames : ∀ y ∈ scope.names, y.2 = .local → scope.names.lookup y.1 = some .local) (hx : scope.names.lookup x = some .local)
    (h : wpAny (model prog w) A (eval iter env) (SrcS prog w A h₀ L m env ct elt x scope cl (fun s₂ => FinE h₀ L m s₂ Q)) E s)
    (hs : ∀ x, foldedSetIterable iter env x = pure x := by intro _; rfl) :
    wpAny (model prog w) A (eval (.ListComp elt [⟨.Name x px, iter, [ct], 0⟩] scope pos) env) Q E s := by
  rw [eval_ListComp]
  refine wpAny_comprehension_free (use := none) rfl hs hclos hkind hnames (wpAny_mono h (fun xv s₁ h₁ => ?_) fun _ _ e => e)
  obtain ⟨y, t, news, rfl, hh, F, N, hsz, R⟩ := h₁
  have key : ∀ (T : String) (o : Obj) (s₂ : Shared) (hs₂ : s₂ = { s₁ with heap := s₁.heap.push o }), Walks prog w A s₁.heap.objs.size [s₁.heap.objs.size] [s₁.heap.objs.size] y.cps.size (SignAt y) (fun i h => h.IsStrIter s₁.heap.objs.size T y t i) →
      s₂.heap.IsStrIter s₁.heap.objs.size T y t 0 →
      wpAny (model prog w) A (newList []) (fun acc s₃ => wpAny (model prog w) A (newFunctionEnv scope env.globals cl [] env.qual none .none (some env)) (fun cenv s₄ =>
      codeAny (model prog w) A (.compStart (.ListComp elt [⟨.Name x px, iter, [ct], 0⟩] scope pos) 0 (.ref s₁.heap.objs.size) acc { cenv with scope := relabel scope env }) (compPost (model prog w) A E none Q acc cenv.locals) s₄) E s₃) E s₂ := by
    rintro T o s₂ rfl W hst
    refine block_T (RR := fun acc C => compPost (model prog w) A E none Q acc C) (S := fun _ => True) W hsz (fun i h st => by obtain ⟨o, e, _⟩ := st; exact ⟨o, e⟩) iter_st hcell hkind hx hst (fun b hb => ?_)
      (F.keeps fun _ _ e => Heap.get?_push_of_some _ e) (N.grown fun _ _ e => Heap.get?_push_of_some _ e) (Nat.ne_of_lt F.ns.lt) (next_is_new F) (fun p hp => Nat.ne_of_lt (Heap.lt_size (N p hp).1)) trivial (R _ ⟨_, rfl⟩) ?_
    · rw [List.mem_singleton.mp hb]
      show s₁.heap.objs.size < (s₁.heap.push _).objs.size
      rw [Heap.size_push]; exact Nat.lt_succ_self _
    · intro D C h tk m' ys news' F' N' o1 hn hC₀ hD₀ hCL hDL hCD offC fin
      refine ⟨m', hn, fun h'' hs'' => fin D h'' tk (F'.change hs'' hCL hC₀) (fun p hp => ?_) o1⟩
      refine ⟨hs''.extBut _ _ ?_ (N' p hp).1, (N' p hp).2⟩
      rcases List.mem_cons.mp hp with rfl | hp
      · exact Ne.symm hCD
      · exact offC p hp
  cases ha : y.cps.all (· < 128)
  · exact wpAny_pyIter_wide ha (key _ _ _ rfl (Walks.strWide hh _ y t) ⟨_, Heap.get?_push_size _ rfl, rfl, rfl⟩)
  · exact wpAny_pyIter_ascii ha (key _ _ _ rfl (Walks.strAscii hh _ y t) ⟨_, Heap.get?_push_size _ rfl, rfl, rfl⟩)
end
theorem sign_at {y : Str} {i : Nat} {v : Value} {c : Nat} (h : SignAt y i v) (hc : y.cps[i]? = some c) : ∃ u, v = .str ⟨#[c]⟩ u := by
  obtain ⟨c', u, h1, h2⟩ := h
  rw [hc] at h1; cases h1
  exact ⟨u, h2⟩
theorem comp_sign {prog : Program} {w : World} {A : Around} {s : Shared} {h₀ : Heap} {L : Addr} {m : Str → Option Value} {env : Env} {ct elt : Expr} {x : Str} {scope : Scope} {cl : List (Str × Addr)} {S : List (Addr × Obj) → Prop} {Fin : List Value → List (Addr × Obj) → Prop} {y : Str} {c k i : Nat} {ys : List Value} {news : List (Addr × Obj)} (hc : y.cps[i]? = some c)
    (h : ∀ u I oI C oC D m₂ h tk (E' : Value → Shared → Prop), NsObj oC m₂ → m₂ x = some (.str ⟨#[c]⟩ u) → Fr h₀ L h m → News h₀ L h ((I, oI) :: (C, oC) :: (D, lst ys) :: news) → Off3 I C D news → ((@Ne Nat I C) ∧ (@Ne Nat I D) ∧ (@Ne Nat C D)) →
      wpAny (model prog w) A (isTrue ct (compEnvC scope cl C env) (eval ct (compEnvC scope cl C env))) (fun ok s' => if ok = true then
        wpAny (model prog w) A (eval elt (compEnvC scope cl C env)) (CompEnd h₀ L m { s with heap := h, toks := tk } I oI C oC D (lst ys) S (fun y' news' => CompRestT prog w A h₀ L m env ct elt x scope cl s S (SignAt y) Fin k (i + 1) (ys ++ [y']) news')) E' s'
        else CompEnd h₀ L m { s with heap := h, toks := tk } I oI C oC D (lst ys) S (fun _ news' => CompRestT prog w A h₀ L m env ct elt x scope cl s S (SignAt y) Fin k (i + 1) ys news') Value.none s') E' { s with heap := h, toks := tk }) :
    CompRestT prog w A h₀ L m env ct elt x scope cl s S (SignAt y) Fin (k + 1) i ys news := by
  refine CompRestT.succ fun v I oI C oC D m₂ h' tk E' hv hC hx F N o ne => ?_
  obtain ⟨u, rfl⟩ := sign_at hv hc
  exact h u I oI C oC D m₂ h' tk E' hC hx F N o ne

end Mine
end
-- SBack
section
open PySem PySem.W PyProof.Rows PySem.Calls PySem.Spec
namespace Mine
/-- behind a call that turns nothing -/
theorem back0 {h₀ h g h' : Heap} {L L' : Addr} {m' : Str → Option Value} {news l tl : List (Addr × Obj)}
    (N : News h₀ L h news) (hK : Kept h [] g) (Fe : Fr g L' h' m') (Ne : News g L' h' l) (kN : News h₀ L h' l)
    (hs : ∀ p ∈ tl, p ∈ l) : News h₀ L h' (news ++ tl) ∧ Off tl news := by
  refine ⟨fun p hp => ?_, off_of_fresh N fun p hp => ?_⟩
  · rcases List.mem_append.mp hp with q | q
    · exact ⟨Fe.keep _ _ (hK _ _ (N p q).1 (by simp)), (N p q).2⟩
    · exact kN p (hs p q)
  · cases q : h.get? p.1 with
    | none => rfl
    | some ob =>
      have z := hK _ _ q (by simp)
      have := (Ne p (hs p hp)).2.2
      rw [z] at this; cases this

end Mine
end
local macro_rules | `(tactic| k_enter) => `(tactic| (refine' code_def ?k1 ?k2 ?k3 ?k4 ?k5 ?kA ?kF ?kK ?k6 ?k7 ?k8 ?k9 ?kB ?_ ?c2 ?c3 ?c4 ?c5; (case k2 => k_asm); (case k1 => k_asm); (case kA => first | exact rfl | exact Around.frames_deeper (Below.stack (by k_asm)) | assumption); (case kF => first | exact rfl | assumption); (case kK => first | exact rfl | assumption); (case k3 => k_asm); (case k4 => k_asm); (case k5 => k_asm); (case k6 => k_is); (case k7 => k_is); (case k8 => first | omega | ((try simp only [depth_under_make, depth_under_kw, depth_in1, depth_deeper]); omega)); (case k9 => first | exact BindsTo.of_eq rfl | exact binds_K (by k_in) rfl (by k_is) rfl rfl rfl); (case c5 => decide); (case kB => exact locs rfl); (case c2 => exact rfl); (case c3 => exact rfl); (case c4 => exact rfl); k_whole; intro g' L' h' FG' F' N' B' X' T'; (try dsimp only); (try k_lift B'); (try k_fold)))
local macro_rules | `(tactic| walk_at "eval ListComp") => `(tactic| (k_here; lct_look; lcg_calm; k_dflt (refine ListComp_S (F₀ := by k_asm) (by with_unfolding_all rfl) (by decide) (by rfl) (by decide) (by rfl) ?_)))
local macro_rules | `(tactic| walk_at "SrcS") => `(tactic| ((refine SrcS.mk (by assumption) (by k_asm) (by k_asm) (by decide +kernel) ?_); intro g'; change LCt.CompRestT _ _ _ _ _ _ _ _ _ _ _ _ _ _ _ _ 4 _ _ _))
local macro_rules | `(tactic| walk_at "CompRestT") => `(tactic| with_unfolding_all first | (refine LCt.CompRestT.zero ?_) | ((first | refine comp_sign (c := 105) (by decide +kernel) ?_ | refine comp_sign (c := 109) (by decide +kernel) ?_ | refine comp_sign (c := 115) (by decide +kernel) ?_ | refine comp_sign (c := 120) (by decide +kernel) ?_); intro t9 I' oI' C' oC' D' m' h' tk' E' hC' hx' F' N' off' ne'; skip))
local macro_rules | `(tactic| walk_at "ite") => `(tactic| first | refine PySem.W.ite_neg (by rw [decide_eq_true_eq]; omega) ?_ | refine PySem.W.ite_pos (by rw [decide_eq_true_eq]; omega) ?_)
-- S10
section
open PySem PySem.W PyProof.Rows PySem.Calls PySem.Spec
namespace Mine
local macro_rules | `(tactic| walk_at "pyIter ref") => `(tactic| (k_here; (with_reducible show wpAny _ _ (pyIter (Value.ref _)) (fun it s₂ => TurnsAt _ _ _ _ _ _ _ _ _ it s₂) _ _); (with_unfolding_all refine' iter_listTurns ?h ?F ?N ?m ?c ?d ?_; (case h => assumption); (case F => k_asm); (case N => k_asm); (case m => k_mem); (case c => exact rfl); (case d => exact rfl); k_whole); intro i' l1; (try k_lt l1)))
local macro_rules | `(tactic| walk_at "exec For Tuple Attribute cons nil") => `(tactic| (k_here; (rename Fr _ _ _ _ => lF'); (with_unfolding_all refine' For_turns lF' ?_; k_whole)))
section
variable {w : World} {vw : Program} {lo : List Str} {mean : ExcName → Option Value} {mg mb : Str → Option Value} {A₀ A : Around} {base h₀ : Heap} {env : Env} {outer : List Env} {L : Addr} {m : Str → Option Value} {s : Shared} {Q E : Value → Shared → Prop} {news : List (Addr × Obj)}
  {x dx : Addr} {txt : Str} {t1 t3 t4 t5 : Tok} {i gn dn : Int} {h1 h2 h3 h4 h5 h6 h7 : Int} {k1 k2 k3 k4 k5 k6 k7 : Tok} {v2 v4 v5 v6 v7 : Value}
theorem parse_spec {p : P} {tg tf : Tok}
  (B : Below A₀ base outer h₀) (F : Fr h₀ L s.heap m) (X : (pre.heap_1 w.params).In h₀) (N : News h₀ L s.heap news) (T : Top vw lo mean mg mb h₀) (hA : A.frames = some (env :: outer)) (hf : env.frame = some L) (hke : env.scope.kind = .function) (hh : A.handled = none)
  (hdp : A.depth + (6 * p.ht + 10) < recursionLimit) (hlen : txt.length ≤ 100) (hG : Good txt)
  (hpr : txt.cps.toList = p.print) (hok : p.ok) (hht : p.ht ≤ 40)
  (hret : ∀ a v n k tl tg h' tk', k = (p.ng : Int) → Fr h₀ L h' m → News h₀ L h' (news ++ (a, tupO [v, .int k tg, .ref n]) :: tl) → Off ((a, tupO [v, .int k tg, .ref n]) :: tl) news → SeqIn tl v p → Q (.ref a) { s with heap := h', toks := tk' }) :
  wpAny (model PySem.Challenge.rw_qz0116_01.row.toRowW.1 w) A (call (.ref 570) [.str txt tg, .str (Str.ofString "") tf]) Q E s := by
  refine wpAny_call ?_
  have hin : ∀ p ∈ ([] : List (Addr × Obj)), p ∈ news := fun _ h => nomatch h
  have N2 := News.sub N hin
  have hd : txt.cps.toList.drop (0 : Int).toNat = p.print ++ [] := by rw [List.append_nil, ← hpr]; rfl
  have hpl : txt.length = p.print.length := by rw [← hpr]; rfl
  (k_dflt (refine' enterSC B F X N2 T ?kA hf hke ?k6 ?k7 ?k8 ?k9 ?kB ?kD ?_ ?c2 ?c3 ?c4; (case kA => exact hA); (case k6 => k_is); (case k7 => k_is); (case k8 => (first | assumption | exact room_d (by assumption) | exact room_f (by assumption) (by decide) | exact room_a (by assumption) (by decide) | exact room_b (by assumption) (by decide) | exact room_c (by assumption) (by decide) | exact room_e (by assumption) (by decide) | omega | (simp only [depth_deeper] at *; omega))); (case k9 => exact BindsTo.of_eq rfl); (case kB => exact rfl); (case kD => decide +kernel); (case c2 => exact rfl); (case c3 => exact rfl); (case c4 => exact rfl)))
  intro g L' hq tkq cellsq FG F' N' Y' B' X' T' l1 hK hS hL
  (try k_lt l1)
  k_cells Y'
  (try simp only [List.cons_append, List.nil_append] at N')
  (try dsimp only); (try k_fold)
  (repeat' (first | ((with_reducible show wpAny _ _ (call (Value.ref 502) _) _ _ _); k_here; k_dflt (apply alt_use; (case F => k_asm); (case B => k_asm); (case X => k_asm); (case N => k_asm); (case T => k_asm); (case hA => first | exact Around.frames_deeper (Below.stack (by k_asm)) | assumption); (case hf => first | exact rfl | assumption); (case hke => first | exact rfl | assumption); (case hh => assumption); (case hd => assumption); (case hdp => (first | assumption | exact room_d (by assumption) | exact room_f (by assumption) (by decide) | exact room_a (by assumption) (by decide) | exact room_b (by assumption) (by decide) | exact room_c (by assumption) (by decide) | exact room_e (by assumption) (by decide) | omega | (simp only [depth_deeper] at *; omega))); (case H => exact alt_all _ _); (case m1 => k_mem); (case U => k_updF); (case hi => (first | assumption | omega)); (case hi2 => (first | assumption | omega)); (case hlen => assumption); (case hG => assumption); (case hr => first | exact .inr ⟨_, rfl⟩ | exact .inl rfl | assumption); (case hok => assumption); (case hdn => (first | assumption | omega)); (case hdn2 => (first | assumption | omega))); intro v' tl' t3' t4' t5' h' tk' F' N' O' S'; (try simp only [List.cons_append, List.nil_append, List.append_assoc] at N'); (try k_sweep)) | ((with_reducible show wpAny _ _ (call (Value.ref 394) _) _ _ _); k_here; k_dflt (apply count_spec; (case B => k_asm); (case F => k_asm); (case X => k_asm); (case N => k_asm); (case T => k_asm); (case hA => first | exact Around.frames_deeper (Below.stack (by k_asm)) | assumption); (case hf => first | exact rfl | assumption); (case hke => first | exact rfl | assumption); (case hh => assumption); (case hdp => (first | assumption | exact room_d (by assumption) | exact room_f (by assumption) (by decide) | exact room_a (by assumption) (by decide) | exact room_b (by assumption) (by decide) | exact room_c (by assumption) (by decide) | exact room_e (by assumption) (by decide) | omega | (simp only [depth_deeper] at *; omega))); (case hlen => assumption); (case hG => assumption)); intro k' t' h' tk' F' N'; (try dsimp only at N'); (try k_sweep)) | (k_unfold; (try dsimp only)) | (k_end; wrow_close) | walk1 | (dsimp only; walk1) | (leave1; walk_say "STEP leave1"; try dsimp only) | fail "no step"))
  rename List (Addr × Obj) => tlA
  rename SeqIn _ _ _ => Sq
  rename Fr g L' _ _ => Fe
  rename News g L' _ _ => Ne
  rename Fr h₀ L _ m => kF
  rename News h₀ L _ (_ :: _) => kN
  obtain ⟨z1, z2⟩ := back0 (tl := (_, tupO [_, _, _]) :: tlA) N hK Fe Ne kN (by kcj_in)
  exact hret _ _ _ _ _ _ _ _ (by omega) kF z1 z2 Sq
end

end Mine
end
-- SAdd
section
open PySem PySem.W PyProof.Rows PySem.Calls PySem.Spec
namespace Mine
/-- a ledger in which two objects are turned -/
inductive Upd2 (d e : Addr) (o u : Obj) : List (Addr × Obj) → (Obj → Obj → List (Addr × Obj)) → Prop
  | all {l} : (∀ p ∈ l, p.1 ≠ d) → (∀ p ∈ l, p.1 ≠ e) → Upd2 d e o u l (fun _ _ => l)
  | fst {r g} : Upd2 d e o u r g → Upd2 d e o u ((d, o) :: r) (fun a b => (d, a) :: g a b)
  | snd {r g} : Upd2 d e o u r g → Upd2 d e o u ((e, u) :: r) (fun a b => (e, b) :: g a b)
  | oth {p r g} : p.1 ≠ d → p.1 ≠ e → Upd2 d e o u r g → Upd2 d e o u (p :: r) (fun a b => p :: g a b)
theorem Upd2.mem {d e : Addr} {o u o' u' : Obj} {l : List (Addr × Obj)} {g : Obj → Obj → List (Addr × Obj)} (U : Upd2 d e o u l g) :
    ∀ p ∈ g o' u', p = (d, o') ∨ p = (e, u') ∨ (p ∈ l ∧ p.1 ≠ d ∧ p.1 ≠ e) := by
  induction U with
  | all h1 h2 => exact fun p hp => .inr (.inr ⟨hp, h1 p hp, h2 p hp⟩)
  | fst _ ih =>
    intro p hp
    rcases List.mem_cons.mp hp with q | hp
    · exact .inl q
    · rcases ih p hp with q | q | ⟨q, r⟩
      · exact .inl q
      · exact .inr (.inl q)
      · exact .inr (.inr ⟨.tail _ q, r⟩)
  | snd _ ih =>
    intro p hp
    rcases List.mem_cons.mp hp with q | hp
    · exact .inr (.inl q)
    · rcases ih p hp with q | q | ⟨q, r⟩
      · exact .inl q
      · exact .inr (.inl q)
      · exact .inr (.inr ⟨.tail _ q, r⟩)
  | oth h1 h2 _ ih =>
    intro p hp
    rcases List.mem_cons.mp hp with q | hp
    · exact .inr (.inr ⟨q ▸ .head _, q ▸ h1, q ▸ h2⟩)
    · rcases ih p hp with q | q | ⟨q, r⟩
      · exact .inl q
      · exact .inr (.inl q)
      · exact .inr (.inr ⟨.tail _ q, r⟩)
/-- the caller's ledger behind a call that turns two objects -/
theorem back2 {h₀ h g h' : Heap} {L L' d e : Addr} {o u o' u' : Obj} {m' : Str → Option Value} {news sub l : List (Addr × Obj)} {gg : Obj → Obj → List (Addr × Obj)}
    (N : News h₀ L h news) (U : Upd2 d e o u news gg) (hin : ∀ p ∈ (d, o) :: (e, u) :: sub, p ∈ news) (hK : Kept h (((d, o) :: (e, u) :: sub).map (·.1)) g) (Fe : Fr g L' h' m') (kN : News h₀ L h' l)
    (hs : ∀ p ∈ (d, o') :: (e, u') :: sub, p ∈ l) : News h₀ L h' (gg o' u') := by
  intro p hp
  rcases U.mem p hp with rfl | rfl | ⟨q, n1, n2⟩
  · exact kN _ (hs _ (.head _))
  · exact kN _ (hs _ (.tail _ (.head _)))
  · by_cases z : p.1 ∈ ((d, o) :: (e, u) :: sub).map (·.1)
    · obtain ⟨r, hr, er⟩ := List.mem_map.mp z
      have z1 := (N p q).1
      have z2 := (N r (hin r hr)).1
      rw [← er, z2] at z1
      have : p = r := Prod.ext er.symm (Option.some.inj z1).symm
      subst this
      rcases List.mem_cons.mp hr with k | hr
      · exact absurd (congrArg Prod.fst k) n1
      · rcases List.mem_cons.mp hr with k | hr
        · exact absurd (congrArg Prod.fst k) n2
        · exact kN _ (hs _ (.tail _ (.tail _ hr)))
    · exact ⟨Fe.keep _ _ (hK _ _ (N p q).1 z), (N p q).2⟩
theorem obj_ne {h₀ h : Heap} {L a b : Addr} {o u : Obj} {news : List (Addr × Obj)} (N : News h₀ L h news) (m1 : (a, o) ∈ news) (m2 : (b, u) ∈ news) (hn : o ≠ u) : a ≠ b := fun e => by
  have z1 := (N _ m1).1
  have z2 := (N _ m2).1
  rw [e, z2] at z1
  exact hn (Option.some.inj z1).symm
abbrev rmO (h1 h2 : Int) (k1 k2 : Tok) (v1 v2 : Value) : Obj := dictOf [⟨h1, .str (Str.ofString "rows") k1, v1⟩, ⟨h2, .str (Str.ofString "registers") k2, v2⟩] 2
namespace P
/-- how many rows a pattern makes -/
noncomputable def rw : P → Nat
  | .nil => 0
  | .sign _ r => r.rw + 1
  | .group q r => q.rw + 2 + r.rw
theorem rw_le : ∀ p : P, p.rw ≤ p.print.length
  | .nil => Nat.le_refl _
  | .sign _ r => Nat.succ_le_succ (rw_le r)
  | .group q r => by
    have := rw_le q; have := rw_le r
    show q.rw + 2 + r.rw ≤ (40 :: (q.print ++ 41 :: r.print)).length
    simp only [List.length_cons, List.length_append]; omega
end P

end Mine
end
local macro_rules | `(tactic| walk_at "call builtin:len") => `(tactic| (k_here; (with_reducible show wpAny _ _ (call (Value.builtin _) [Value.ref _]) _ _ _); k_dflt (refine' len_list ?l ?z ?_; (case l => exact News.isList (by k_asm) (by k_mem)); (case z => (simp only [Array.size_push, List.size_toArray]; omega)))))
-- S11
section
open PySem PySem.W PyProof.Rows PySem.Calls PySem.Spec
namespace Mine
section
variable {w : World} {vw : Program} {lo : List Str} {mean : ExcName → Option Value} {mg mb : Str → Option Value} {A₀ A : Around} {base h₀ : Heap} {env : Env} {outer : List Env} {L : Addr} {m : Str → Option Value} {s : Shared} {Q E : Value → Shared → Prop} {news : List (Addr × Obj)}
  {x dx : Addr} {txt : Str} {t1 t3 t4 t5 : Tok} {i gn dn : Int} {h1 h2 h3 h4 h5 h6 h7 : Int} {k1 k2 k3 k4 k5 k6 k7 : Tok} {v2 v4 v5 v6 v7 : Value}
variable {rl : Addr} {ys : List Value} {n : Nat} {k : Int} {tk : Tok} {v1 : Value} {gg : Obj → Obj → List (Addr × Obj)}
theorem add_spec {row : Value}
  (B : Below A₀ base outer h₀) (F : Fr h₀ L s.heap m) (X : (pre.heap_1 w.params).In h₀) (N : News h₀ L s.heap news) (T : Top vw lo mean mg mb h₀) (hA : A.frames = some (env :: outer)) (hf : env.frame = some L) (hke : env.scope.kind = .function) (hh : A.handled = none)
  (hdp : A.depth + 1 < recursionLimit)
  (m1 : (x, instObj 133 dx) ∈ news) (m2 : (dx, rmO h1 h2 k1 k2 (.ref rl) (.int k tk)) ∈ news) (m3 : (rl, listOf ys.toArray n) ∈ news) (U : Upd2 dx rl (rmO h1 h2 k1 k2 (.ref rl) (.int k tk)) (listOf ys.toArray n) news gg)
  (hys : ys.length ≤ 1000)
  (hret : ∀ q t n' h' tk', Fr h₀ L h' m → News h₀ L h' (gg (rmO h1 h2 k1 k2 (.ref rl) (.int k tk)) (listOf (ys ++ [row]).toArray n')) → Q (.int q t) { s with heap := h', toks := tk' }) :
  wpAny (model PySem.Challenge.rw_qz0116_01.row.toRowW.1 w) A (call (.ref 123) [.ref x, row]) Q E s := by
  refine wpAny_call ?_
  have hin : ∀ p ∈ [(dx, rmO h1 h2 k1 k2 (.ref rl) (.int k tk)), (rl, listOf ys.toArray n), (x, instObj 133 dx)], p ∈ news := by repeat' (first | exact fn_ | refine fc_ ?_ ?_ | assumption)
  have N2 := News.sub N hin
  have ne1 := neN (obj_ne N m1 m2 (by intro e; have q := congrArg Obj.cls e; simp at q))
  have ne2 := neN (obj_ne N m1 m3 (by intro e; have q := congrArg Obj.cls e; simp at q))
  have ne3 := neN (obj_ne N m2 m3 (by intro e; have q := congrArg Obj.cls e; simp at q))
  (k_dflt (refine' enterS B F X N2 T ?kA hf hke ?k6 ?k7 ?k8 ?k9 ?kB ?_ ?c2 ?c3 ?c4 ?c5; (case kA => exact hA); (case k6 => k_is); (case k7 => k_is); (case k8 => (first | assumption | exact room_d (by assumption) | exact room_f (by assumption) (by decide) | exact room_a (by assumption) (by decide) | exact room_b (by assumption) (by decide) | exact room_c (by assumption) (by decide) | exact room_e (by assumption) (by decide) | omega | (simp only [depth_deeper] at *; omega))); (case k9 => exact BindsTo.of_eq rfl); (case c5 => decide); (case kB => exact locs rfl); (case c2 => exact rfl); (case c3 => exact rfl); (case c4 => exact rfl)))
  intro g L' hq FG F' N' B' X' T' l1 hK hS hL
  (try k_lt l1)
  (try dsimp only); (try k_fold)
  k_steps
  rename Fr g L' _ _ => Fe
  rename Fr h₀ L _ m => kF
  rename News h₀ L _ [_, _, _] => kN
  (try simp only [List.push_toArray] at kN)
  exact hret _ _ _ _ _ kF (back2 (sub := [(x, instObj 133 dx)]) N U hin hK Fe kN (by kcj_in))

theorem fresh_spec
  (B : Below A₀ base outer h₀) (F : Fr h₀ L s.heap m) (X : (pre.heap_1 w.params).In h₀) (N : News h₀ L s.heap news) (T : Top vw lo mean mg mb h₀) (hA : A.frames = some (env :: outer)) (hf : env.frame = some L) (hke : env.scope.kind = .function) (hh : A.handled = none)
  (hdp : A.depth + 1 < recursionLimit)
  (m1 : (x, instObj 133 dx) ∈ news) (m2 : (dx, rmO h1 h2 k1 k2 (.ref rl) (.int k tk)) ∈ news) (m3 : (rl, listOf ys.toArray n) ∈ news) (U : Upd2 dx rl (rmO h1 h2 k1 k2 (.ref rl) (.int k tk)) (listOf ys.toArray n) news gg)
  (hk : 0 ≤ k) (hk2 : k ≤ 1000)
  (hret : ∀ q t t' h' tk', Fr h₀ L h' m → News h₀ L h' (gg (rmO h1 h2 k1 k2 (.ref rl) (.int (k + 1) t')) (listOf ys.toArray n)) → Q (.int q t) { s with heap := h', toks := tk' }) :
  wpAny (model PySem.Challenge.rw_qz0116_01.row.toRowW.1 w) A (call (.ref 130) [.ref x]) Q E s := by
  refine wpAny_call ?_
  have hin : ∀ p ∈ [(dx, rmO h1 h2 k1 k2 (.ref rl) (.int k tk)), (rl, listOf ys.toArray n), (x, instObj 133 dx)], p ∈ news := by repeat' (first | exact fn_ | refine fc_ ?_ ?_ | assumption)
  have N2 := News.sub N hin
  have ne1 := neN (obj_ne N m1 m2 (by intro e; have q := congrArg Obj.cls e; simp at q))
  have ne2 := neN (obj_ne N m1 m3 (by intro e; have q := congrArg Obj.cls e; simp at q))
  have ne3 := neN (obj_ne N m2 m3 (by intro e; have q := congrArg Obj.cls e; simp at q))
  (k_dflt (refine' enterS B F X N2 T ?kA hf hke ?k6 ?k7 ?k8 ?k9 ?kB ?_ ?c2 ?c3 ?c4 ?c5; (case kA => exact hA); (case k6 => k_is); (case k7 => k_is); (case k8 => (first | assumption | exact room_d (by assumption) | exact room_f (by assumption) (by decide) | exact room_a (by assumption) (by decide) | exact room_b (by assumption) (by decide) | exact room_c (by assumption) (by decide) | exact room_e (by assumption) (by decide) | omega | (simp only [depth_deeper] at *; omega))); (case k9 => exact BindsTo.of_eq rfl); (case c5 => decide); (case kB => exact locs rfl); (case c2 => exact rfl); (case c3 => exact rfl); (case c4 => exact rfl)))
  intro g L' hq FG F' N' B' X' T' l1 hK hS hL
  (try k_lt l1)
  (try dsimp only); (try k_fold)
  k_steps
  rename Fr g L' _ _ => Fe
  rename Fr h₀ L _ m => kF
  rename News h₀ L _ [_, _, _] => kN
  (try simp only [List.push_toArray] at kN)
  exact hret _ _ _ _ _ kF (back2 (sub := [(x, instObj 133 dx)]) N U hin hK Fe kN (by kcj_in))
end

end Mine
end
-- SItems
section
open PySem PySem.W PyProof.Rows PySem.Calls PySem.Spec PyProof.V
namespace Mine
section
variable {prog : Program} {w : World} {A : Around} {E : Value → Shared → Prop} {s : Shared} {env : Env} {h₀ : Heap} {target : Expr} {body : List Stmt} {Q : Flow → Shared → Prop}
/-- a for over a list that stood there before -/
theorem iter_listB {ax : Addr} {lo : Obj} {vs : List Value} {n : Nat} {m₀ : Str → Option Value} {news : List (Addr × Obj)}
    (hh : A.handled = none) (F : Fr h₀ env.locals s.heap m₀) (N : News h₀ env.locals s.heap news) (hg : h₀.get? ax = some lo) (hc : lo.cls = .type "list") (hd : lo.data = .seq vs.toArray n)
    (rest₀ : ∀ I : Addr, (∀ p ∈ news, p.1 < I) → ItemsRest prog w A E h₀ env target body Q s [(I, "list_iterator")] [] (vs.map .val) m₀ news) :
    wpAny (model prog w) A (pyIter (.ref ax)) (fun it s₂ => TurnsAt prog w A h₀ env target body Q E it s₂) E s := by
  have hax : s.heap.get? ax = some lo := F.keep _ _ hg
  have hl : s.heap.IsList ax vs.toArray := ⟨lo, hax, hc, n, hd⟩
  have hne : ax ≠ s.heap.objs.size := Nat.ne_of_lt (Heap.lt_size hax)
  refine wpAny_pyIter_list hl ?_
  refine ktg_core (tk0 := s.toks) (keep := []) (KTurns.ofWalks (Walks.list hh s.heap.objs.size ax hne vs.toArray) fun i v s Q E st q => letGo_listiter st.1 q) (by simp) (fun i v h hp => ⟨.val v, ?_, rfl⟩) (fun i h st => ?_) (fun b hb => ?_) (fun b hb => by simpa using hb) (fun b hb => ?_) ?_ (fun p hp hI => ?_) ?_ (F.push _) (fun p hp => ⟨Heap.get?_push_of_some _ (N p hp).1, (N p hp).2⟩) trivial (rest₀ _ fun p hp => Heap.lt_size (N p hp).1)
  · have q : vs.toArray[i]? = some v := hp
    simpa using q
  · obtain ⟨it, h1, h2, _⟩ := st.1
    refine ⟨[(s.heap.objs.size, it)], ⟨⟨rfl, h2⟩, trivial⟩, fun p hp => ?_⟩
    rw [List.mem_singleton.mp hp]; exact h1
  · obtain rfl : b = s.heap.objs.size := by simpa using hb
    exact ⟨List.mem_cons_self .., next_is_new F⟩
  · have q : b = s.heap.objs.size ∨ b = ax := by simpa using hb
    rcases q with rfl | rfl
    · exact .inl (by simp)
    · exact .inr (.inr ⟨lo, hg⟩)
  · intro hI
    rcases List.mem_cons.mp hI with e | hI
    · exact absurd F.ns.lt (e ▸ Nat.lt_irrefl _)
    · have e : env.locals = ax := List.mem_singleton.mp hI
      exact absurd (Heap.lt_size hg) (Nat.not_lt.mpr (e ▸ F.above))
  · exact absurd (Heap.lt_size (N p hp).1) ((List.mem_singleton.mp hI) ▸ Nat.lt_irrefl _)
  · exact ⟨⟨_, Heap.get?_push_size _ rfl, rfl, rfl⟩, hl.at fun o e => Heap.get?_push_of_some _ e⟩

theorem items_ind {ws : List (Addr × String)} {keep : List (Addr × Obj)} (Inv : List Value → (Str → Option Value) → List (Addr × Obj) → Prop)
    (h0 : ∀ m n, Inv [] m n → ItemsRest prog w A E h₀ env target body Q s ws keep [] m n)
    (h1 : ∀ v vs m n, Inv (v :: vs) m n → (∀ m' n', Inv vs m' n' → ItemsRest prog w A E h₀ env target body Q s ws keep (vs.map .val) m' n') → ItemsRest prog w A E h₀ env target body Q s ws keep (.val v :: vs.map .val) m n) :
    ∀ vs m n, Inv vs m n → ItemsRest prog w A E h₀ env target body Q s ws keep (vs.map .val) m n := by
  intro vs
  induction vs with
  | nil => exact h0
  | cons v vs ih => exact fun m n h => h1 v vs m n h ih
theorem isTup_base {L a : Addr} {h : Heap} {m : Str → Option Value} {vs : List Value} (F : Fr h₀ L h m) (hg : h₀.get? a = some (tupO vs)) : IsTup h a vs.toArray := ⟨_, F.keep _ _ hg, rfl, _, rfl⟩
end

end Mine
end
local macro_rules | `(tactic| k_updF) => `(tactic| first | (refine' Upd2.all ?p ?q; (case p => k_all); (case q => k_all)) | (refine' Upd2.fst ?b; (case b => k_updF)) | (refine' Upd2.snd ?b; (case b => k_updF)) | (refine' Upd2.oth ?a ?c ?b; (case a => k_ne); (case c => k_ne); (case b => k_updF)))
local macro_rules | `(tactic| walk_at "subscriptTail Name") => `(tactic| (k_here; (with_reducible show wpAny _ _ (subscriptTail _ _ (Value.ref _) (Value.int _ _)) _ _ _); k_dflt (refine' item_tupleL (isTup_base ?F ?g) ?a ?b ?c ?d ?_; (case F => k_asm); (case g => assumption); (case a => decide); (case b => decide); (case c => exact rfl); (case d => exact rfl))))
-- S12
section
open PySem PySem.W PyProof.Rows PySem.Calls PySem.Spec
namespace Mine
section
variable {w : World} {vw : Program} {lo : List Str} {mean : ExcName → Option Value} {mg mb : Str → Option Value} {A₀ A : Around} {base h₀ : Heap} {env : Env} {outer : List Env} {L : Addr} {m : Str → Option Value} {s : Shared} {Q E : Value → Shared → Prop} {news : List (Addr × Obj)}
  {x dx : Addr} {txt : Str} {t1 t3 t4 t5 : Tok} {i gn dn : Int} {h1 h2 h3 h4 h5 h6 h7 : Int} {k1 k2 k3 k4 k5 k6 k7 : Tok} {v2 v4 v5 v6 v7 : Value}
variable {rl : Addr} {ys : List Value} {n : Nat} {k : Int} {tk : Tok} {v1 : Value} {gg : Obj → Obj → List (Addr × Obj)}
theorem node_sign {a : Addr} {ts : Tok} {y z : Value}
  (B : Below A₀ base outer h₀) (F : Fr h₀ L s.heap m) (X : (pre.heap_1 w.params).In h₀) (N : News h₀ L s.heap news) (T : Top vw lo mean mg mb h₀) (hA : A.frames = some (env :: outer)) (hf : env.frame = some L) (hke : env.scope.kind = .function) (hh : A.handled = none)
  (hdp : A.depth + 2 < recursionLimit)
  (m1 : (x, instObj 133 dx) ∈ news) (m2 : (dx, rmO h1 h2 k1 k2 (.ref rl) (.int k tk)) ∈ news) (m3 : (rl, listOf ys.toArray n) ∈ news) (U : Upd2 dx rl (rmO h1 h2 k1 k2 (.ref rl) (.int k tk)) (listOf ys.toArray n) news gg)
  (ha : s.heap.get? a = some (tupO [.str (Str.ofString "sign") ts, y, z])) (hO1 : a ≠ dx) (hO2 : a ≠ rl) (hO3 : a ≠ x)
  (hys : ys.length ≤ 1000)
  (hret : ∀ n' h' tk', Fr h₀ L h' m → News h₀ L h' (gg (rmO h1 h2 k1 k2 (.ref rl) (.int k tk)) (listOf (ys ++ [Value.ref a]).toArray n')) → Q .none { s with heap := h', toks := tk' }) :
  wpAny (model PySem.Challenge.rw_qz0116_01.row.toRowW.1 w) A (call (.ref 144) [.ref x, .ref a]) Q E s := by
  refine wpAny_call ?_
  have hin : ∀ p ∈ [(dx, rmO h1 h2 k1 k2 (.ref rl) (.int k tk)), (rl, listOf ys.toArray n), (x, instObj 133 dx)], p ∈ news := by repeat' (first | exact fn_ | refine fc_ ?_ ?_ | assumption)
  have N2 := News.sub N hin
  have ne1 := neN (obj_ne N m1 m2 (by intro e; have q := congrArg Obj.cls e; simp at q))
  have ne2 := neN (obj_ne N m1 m3 (by intro e; have q := congrArg Obj.cls e; simp at q))
  have ne3 := neN (obj_ne N m2 m3 (by intro e; have q := congrArg Obj.cls e; simp at q))
  (k_dflt (refine' enterS B F X N2 T ?kA hf hke ?k6 ?k7 ?k8 ?k9 ?kB ?_ ?c2 ?c3 ?c4 ?c5; (case kA => exact hA); (case k6 => k_is); (case k7 => k_is); (case k8 => (first | assumption | exact room_d (by assumption) | exact room_f (by assumption) (by decide) | exact room_a (by assumption) (by decide) | exact room_b (by assumption) (by decide) | exact room_c (by assumption) (by decide) | exact room_e (by assumption) (by decide) | omega | (simp only [depth_deeper] at *; omega))); (case k9 => exact BindsTo.of_eq rfl); (case c5 => decide); (case kB => exact locs rfl); (case c2 => exact rfl); (case c3 => exact rfl); (case c4 => exact rfl)))
  intro g L' hq FG F' N' B' X' T' l1 hK hS hL
  (try k_lt l1)
  (try dsimp only); (try k_fold)
  have hga := hK _ _ ha (by simp [hO1, hO2, hO3])
  (repeat' (first | ((with_reducible show wpAny _ _ (call (Value.ref 130) _) _ _ _); k_here; k_dflt (apply fresh_spec; (case F => k_asm); (case B => k_asm); (case X => k_asm); (case N => k_asm); (case T => k_asm); (case hA => first | exact Around.frames_deeper (Below.stack (by k_asm)) | assumption); (case hf => first | exact rfl | assumption); (case hke => first | exact rfl | assumption); (case hh => assumption); (case hdp => (first | assumption | exact room_d (by assumption) | exact room_f (by assumption) (by decide) | exact room_a (by assumption) (by decide) | exact room_b (by assumption) (by decide) | exact room_c (by assumption) (by decide) | exact room_e (by assumption) (by decide) | omega | (simp only [depth_deeper] at *; omega))); (case m1 => k_mem); (case m2 => k_mem); (case m3 => k_mem); (case U => k_updF); (case hk => (first | assumption | omega)); (case hk2 => (first | assumption | omega))); intro q' t' t2' h' tk' F' N'; (try dsimp only at N'); (try k_sweep)) | ((with_reducible show wpAny _ _ (call (Value.ref 123) _) _ _ _); k_here; k_dflt (apply add_spec; (case F => k_asm); (case B => k_asm); (case X => k_asm); (case N => k_asm); (case T => k_asm); (case hA => first | exact Around.frames_deeper (Below.stack (by k_asm)) | assumption); (case hf => first | exact rfl | assumption); (case hke => first | exact rfl | assumption); (case hh => assumption); (case hdp => (first | assumption | exact room_d (by assumption) | exact room_f (by assumption) (by decide) | exact room_a (by assumption) (by decide) | exact room_b (by assumption) (by decide) | exact room_c (by assumption) (by decide) | exact room_e (by assumption) (by decide) | omega | (simp only [depth_deeper] at *; omega))); (case m1 => k_mem); (case m2 => k_mem); (case m3 => k_mem); (case U => k_updF); (case hys => ((try simp only [List.length_append, List.length_cons, List.length_nil]); omega))); intro q' t' n' h' tk' F' N'; (try dsimp only at N'); (try k_sweep)) | (k_unfold; (try dsimp only)) | (k_end; wrow_close) | walk1 | (dsimp only; walk1) | (leave1; walk_say "STEP leave1"; try dsimp only) | fail "no step"))
  rename Fr g L' _ _ => Fe
  rename Fr h₀ L _ m => kF
  rename News h₀ L _ (_ :: _) => kN
  exact hret _ _ _ kF (back2 (sub := [(x, instObj 133 dx)]) N U hin hK Fe kN (by kcj_in))

def AddS (w : World) (p : P) : Prop := ∀ {vw : Program} {lo : List Str} {mean : ExcName → Option Value} {mg mb : Str → Option Value} {A₀ A : Around} {base h₀ : Heap} {env : Env} {outer : List Env} {L : Addr} {m : Str → Option Value} {s : Shared} {Q E : Value → Shared → Prop} {news : List (Addr × Obj)} {x dx : Addr} {h1 h2 : Int} {k1 k2 : Tok} {rl : Addr} {ys : List Value} {n : Nat} {k : Int} {tk : Tok} {gg : Obj → Obj → List (Addr × Obj)} {v : Value} {nodes : List (Addr × Obj)}
  (B : Below A₀ base outer h₀) (F : Fr h₀ L s.heap m) (X : (pre.heap_1 w.params).In h₀) (N : News h₀ L s.heap news) (T : Top vw lo mean mg mb h₀) (hA : A.frames = some (env :: outer)) (hf : env.frame = some L) (hke : env.scope.kind = .function) (hh : A.handled = none)
  (hdp : A.depth + (2 * p.ht + 3) < recursionLimit)
  (m1 : (x, instObj 133 dx) ∈ news) (m2 : (dx, rmO h1 h2 k1 k2 (.ref rl) (.int k tk)) ∈ news) (m3 : (rl, listOf ys.toArray n) ∈ news) (U : Upd2 dx rl (rmO h1 h2 k1 k2 (.ref rl) (.int k tk)) (listOf ys.toArray n) news gg)
  (hS : SeqIn nodes v p) (hB : ∀ p ∈ nodes, s.heap.get? p.1 = some p.2) (hO : ∀ p ∈ nodes, p.1 ≠ dx ∧ p.1 ≠ rl ∧ p.1 ≠ x)
  (hys : ys.length + p.rw ≤ 1000) (hk : 0 ≤ k) (hk2 : k + (p.ng : Int) ≤ 1000)
  (hret : ∀ k' t' (ys' : List Value) n' h' tk', Fr h₀ L h' m → News h₀ L h' (gg (rmO h1 h2 k1 k2 (.ref rl) (.int k' t')) (listOf ys'.toArray n')) → k' = k + (p.ng : Int) → ys'.length = ys.length + p.rw → Q .none { s with heap := h', toks := tk' }),
  wpAny (model PySem.Challenge.rw_qz0116_01.row.toRowW.1 w) A (call (.ref 144) [.ref x, v]) Q E s

theorem addS_use {p : P} (H : AddS w p) {v : Value} {nodes : List (Addr × Obj)}
  (B : Below A₀ base outer h₀) (F : Fr h₀ L s.heap m) (X : (pre.heap_1 w.params).In h₀) (N : News h₀ L s.heap news) (T : Top vw lo mean mg mb h₀) (hA : A.frames = some (env :: outer)) (hf : env.frame = some L) (hke : env.scope.kind = .function) (hh : A.handled = none)
  (hdp : A.depth + (2 * p.ht + 3) < recursionLimit)
  (m1 : (x, instObj 133 dx) ∈ news) (m2 : (dx, rmO h1 h2 k1 k2 (.ref rl) (.int k tk)) ∈ news) (m3 : (rl, listOf ys.toArray n) ∈ news) (U : Upd2 dx rl (rmO h1 h2 k1 k2 (.ref rl) (.int k tk)) (listOf ys.toArray n) news gg)
  (hS : SeqIn nodes v p) (hB : ∀ p ∈ nodes, s.heap.get? p.1 = some p.2) (hO : ∀ p ∈ nodes, p.1 ≠ dx ∧ p.1 ≠ rl ∧ p.1 ≠ x)
  (hys : ys.length + p.rw ≤ 1000) (hk : 0 ≤ k) (hk2 : k + (p.ng : Int) ≤ 1000)
  (hret : ∀ k' t' (ys' : List Value) n' h' tk', Fr h₀ L h' m → News h₀ L h' (gg (rmO h1 h2 k1 k2 (.ref rl) (.int k' t')) (listOf ys'.toArray n')) → k' = k + (p.ng : Int) → ys'.length = ys.length + p.rw → Q .none { s with heap := h', toks := tk' }) :
  wpAny (model PySem.Challenge.rw_qz0116_01.row.toRowW.1 w) A (call (.ref 144) [.ref x, v]) Q E s := H B F X N T hA hf hke hh hdp m1 m2 m3 U hS hB hO hys hk hk2 hret

theorem node_group {q : P} (H : AddS w q) {a b : Addr} {ts tn : Tok} {z : Int} {nodes : List (Addr × Obj)}
  (B : Below A₀ base outer h₀) (F : Fr h₀ L s.heap m) (X : (pre.heap_1 w.params).In h₀) (N : News h₀ L s.heap news) (T : Top vw lo mean mg mb h₀) (hA : A.frames = some (env :: outer)) (hf : env.frame = some L) (hke : env.scope.kind = .function) (hh : A.handled = none)
  (hdp : A.depth + (2 * q.ht + 4) < recursionLimit)
  (m1 : (x, instObj 133 dx) ∈ news) (m2 : (dx, rmO h1 h2 k1 k2 (.ref rl) (.int k tk)) ∈ news) (m3 : (rl, listOf ys.toArray n) ∈ news) (U : Upd2 dx rl (rmO h1 h2 k1 k2 (.ref rl) (.int k tk)) (listOf ys.toArray n) news gg)
  (ha : (a, tupO [.str (Str.ofString "group") ts, .int z tn, .ref b]) ∈ nodes) (hS : SeqIn nodes (.ref b) q) (hB : ∀ p ∈ nodes, s.heap.get? p.1 = some p.2) (hO : ∀ p ∈ nodes, p.1 ≠ dx ∧ p.1 ≠ rl ∧ p.1 ≠ x)
  (hys : ys.length + q.rw + 2 ≤ 1000) (hk : 0 ≤ k) (hk2 : k + (q.ng : Int) + 1 ≤ 1000)
  (hret : ∀ k' t' (ys' : List Value) n' h' tk', Fr h₀ L h' m → News h₀ L h' (gg (rmO h1 h2 k1 k2 (.ref rl) (.int k' t')) (listOf ys'.toArray n')) → k' = k + (q.ng : Int) + 1 → ys'.length = ys.length + q.rw + 2 → Q .none { s with heap := h', toks := tk' }) :
  wpAny (model PySem.Challenge.rw_qz0116_01.row.toRowW.1 w) A (call (.ref 144) [.ref x, .ref a]) Q E s := by
  refine wpAny_call ?_
  have hin : ∀ p ∈ [(dx, rmO h1 h2 k1 k2 (.ref rl) (.int k tk)), (rl, listOf ys.toArray n), (x, instObj 133 dx)], p ∈ news := by repeat' (first | exact fn_ | refine fc_ ?_ ?_ | assumption)
  have N2 := News.sub N hin
  have ne1 := neN (obj_ne N m1 m2 (by intro e; have q := congrArg Obj.cls e; simp at q))
  have ne2 := neN (obj_ne N m1 m3 (by intro e; have q := congrArg Obj.cls e; simp at q))
  have ne3 := neN (obj_ne N m2 m3 (by intro e; have q := congrArg Obj.cls e; simp at q))
  (k_dflt (refine' enterS B F X N2 T ?kA hf hke ?k6 ?k7 ?k8 ?k9 ?kB ?_ ?c2 ?c3 ?c4 ?c5; (case kA => exact hA); (case k6 => k_is); (case k7 => k_is); (case k8 => (first | assumption | exact room_d (by assumption) | exact room_f (by assumption) (by decide) | exact room_a (by assumption) (by decide) | exact room_b (by assumption) (by decide) | exact room_c (by assumption) (by decide) | exact room_e (by assumption) (by decide) | omega | (simp only [depth_deeper] at *; omega))); (case k9 => exact BindsTo.of_eq rfl); (case c5 => decide); (case kB => exact locs rfl); (case c2 => exact rfl); (case c3 => exact rfl); (case c4 => exact rfl)))
  intro g L' hq FG F' N' B' X' T' l1 hK hS hL
  (try k_lt l1)
  (try dsimp only); (try k_fold)
  have hB' : ∀ p ∈ nodes, g.get? p.1 = some p.2 := fun p hp => hK _ _ (hB p hp) (by simp [hO p hp])
  have hga := hB' _ ha
  (repeat' (first | ((with_reducible show wpAny _ _ (call (Value.ref 144) _) _ _ _); k_here; k_dflt (apply addS_use; (case H => assumption); (case F => k_asm); (case B => k_asm); (case X => k_asm); (case N => k_asm); (case T => k_asm); (case hA => first | exact Around.frames_deeper (Below.stack (by k_asm)) | assumption); (case hf => first | exact rfl | assumption); (case hke => first | exact rfl | assumption); (case hh => assumption); (case hdp => (first | assumption | exact room_d (by assumption) | exact room_f (by assumption) (by decide) | exact room_a (by assumption) (by decide) | exact room_b (by assumption) (by decide) | exact room_c (by assumption) (by decide) | exact room_e (by assumption) (by decide) | omega | (simp only [depth_deeper] at *; omega))); (case hS => assumption); (case m1 => k_mem); (case m2 => k_mem); (case m3 => k_mem); (case U => k_updF); (case hB => exact fun p hp => Fr.keep (by k_asm) _ _ ((by assumption : ∀ p ∈ _, Heap.get? _ p.1 = some p.2) p hp)); (case hO => assumption); (case hys => ((try simp only [List.length_append, List.length_cons, List.length_nil]); omega)); (case hk => (first | assumption | omega)); (case hk2 => (first | assumption | omega))); intro k' t' ys' n' h' tk' F' N' e1' e2'; (try simp only [List.length_append, List.length_cons, List.length_nil] at e2'); (try dsimp only at N'); (try k_sweep)) | ((with_reducible show wpAny _ _ (call (Value.ref 130) _) _ _ _); k_here; k_dflt (apply fresh_spec; (case F => k_asm); (case B => k_asm); (case X => k_asm); (case N => k_asm); (case T => k_asm); (case hA => first | exact Around.frames_deeper (Below.stack (by k_asm)) | assumption); (case hf => first | exact rfl | assumption); (case hke => first | exact rfl | assumption); (case hh => assumption); (case hdp => (first | assumption | exact room_d (by assumption) | exact room_f (by assumption) (by decide) | exact room_a (by assumption) (by decide) | exact room_b (by assumption) (by decide) | exact room_c (by assumption) (by decide) | exact room_e (by assumption) (by decide) | omega | (simp only [depth_deeper] at *; omega))); (case m1 => k_mem); (case m2 => k_mem); (case m3 => k_mem); (case U => k_updF); (case hk => (first | assumption | omega)); (case hk2 => (first | assumption | omega))); intro q' t' t2' h' tk' F' N'; (try dsimp only at N'); (try k_sweep)) | ((with_reducible show wpAny _ _ (call (Value.ref 123) _) _ _ _); k_here; k_dflt (apply add_spec; (case F => k_asm); (case B => k_asm); (case X => k_asm); (case N => k_asm); (case T => k_asm); (case hA => first | exact Around.frames_deeper (Below.stack (by k_asm)) | assumption); (case hf => first | exact rfl | assumption); (case hke => first | exact rfl | assumption); (case hh => assumption); (case hdp => (first | assumption | exact room_d (by assumption) | exact room_f (by assumption) (by decide) | exact room_a (by assumption) (by decide) | exact room_b (by assumption) (by decide) | exact room_c (by assumption) (by decide) | exact room_e (by assumption) (by decide) | omega | (simp only [depth_deeper] at *; omega))); (case m1 => k_mem); (case m2 => k_mem); (case m3 => k_mem); (case U => k_updF); (case hys => ((try simp only [List.length_append, List.length_cons, List.length_nil]); omega))); intro q' t' n' h' tk' F' N'; (try dsimp only at N'); (try k_sweep)) | (k_unfold; (try dsimp only)) | (k_end; wrow_close) | walk1 | (dsimp only; walk1) | (leave1; walk_say "STEP leave1"; try dsimp only) | fail "no step"))
  rename Fr g L' _ _ => Fe
  rename Fr h₀ L _ m => kF
  rename News h₀ L _ (_ :: _) => kN
  exact hret _ _ _ _ _ _ kF (back2 (sub := [(x, instObj 133 dx)]) N U hin hK Fe kN (by kcj_in)) (by omega) (by simp only [List.length_append, List.length_cons, List.length_nil]; omega)
end

end Mine
end
-- SItem1
section
open PySem PySem.W PyProof.Rows PySem.Calls PySem.Spec PyProof.V
namespace Mine
section
variable {prog : Program} {w : World} {A : Around} {E : Value → Shared → Prop} {s : Shared} {env : Env} {h₀ : Heap} {target : Expr} {body : List Stmt} {Q : Flow → Shared → Prop}
theorem items_ind1 {ws : List (Addr × String)} {keep : List (Addr × Obj)} {m0 : Str → Option Value} (one : Str) (Inv : List Value → List (Addr × Obj) → Prop)
    (h0 : ∀ o n, Inv [] n → ItemsRest prog w A E h₀ env target body Q s ws keep [] (fun y => if y = one then o else m0 y) n)
    (h1 : ∀ v vs o n, Inv (v :: vs) n → (∀ v' n', Inv vs n' → ItemsRest prog w A E h₀ env target body Q s ws keep (vs.map .val) (fun y => if y = one then v' else m0 y) n') → ItemsRest prog w A E h₀ env target body Q s ws keep (.val v :: vs.map .val) (fun y => if y = one then o else m0 y) n) :
    ∀ vs n, Inv vs n → ItemsRest prog w A E h₀ env target body Q s ws keep (vs.map .val) m0 n := by
  have key : ∀ vs o n, Inv vs n → ItemsRest prog w A E h₀ env target body Q s ws keep (vs.map .val) (fun y => if y = one then o else m0 y) n := by
    intro vs
    induction vs with
    | nil => exact fun o n h => h0 o n h
    | cons v vs ih => exact fun o n h => h1 v vs o n h fun v' n' h' => ih v' n' h'
  intro vs n h
  have e : m0 = fun y => if y = one then m0 one else m0 y := funext fun y => by
    by_cases q : y = one
    · rw [if_pos q, q]
    · rw [if_neg q]
  exact cast (congrArg (fun mm => ItemsRest prog w A E h₀ env target body Q s ws keep (vs.map .val) mm n) e.symm) (key vs (m0 one) n h)
end

end Mine
end
-- S13
section
open PySem PySem.W PyProof.Rows PySem.Calls PySem.Spec
namespace Mine
local macro_rules | `(tactic| walk_at "exec For Name Subscript cons nil") => `(tactic| (k_here; (rename Fr _ _ _ _ => lF'); (with_unfolding_all refine' For_turns lF' ?_; k_whole)))
local macro_rules | `(tactic| walk_at "pyIter ref") => `(tactic| (k_here; (with_reducible show wpAny _ _ (pyIter (Value.ref _)) (fun it s₂ => TurnsAt _ _ _ _ _ _ _ _ _ it s₂) _ _); refine hold ?_))
local macro_rules | `(tactic| walk_at "ItemsRest") => `(tactic| (refine hold ?_))
local macro_rules | `(tactic| walk_at "UnrEndW") => `(tactic| (refine hold ?_))
inductive AddInv (nodes : List (Addr × Obj)) (p : P) (ys : List Value) (k h1 h2 : Int) (k1 k2 : Tok) (rl x dx : Addr) (vs : List Value) (n' : List (Addr × Obj)) : Prop
  | mk (r : P) (k' : Int) (t' : Tok) (ys' : List Value) (n1 : Nat) (f0 : NodesIn nodes vs r) (f1 : r.ht ≤ p.ht) (f2 : r.size ≤ p.size) (f3 : ys'.length + r.rw = ys.length + p.rw) (f4 : k' + (r.ng : Int) = k + (p.ng : Int)) (f5 : 0 ≤ k') (f6 : n' = [(dx, rmO h1 h2 k1 k2 (.ref rl) (.int k' t')), (rl, listOf ys'.toArray n1), (x, instObj 133 dx)]) : AddInv nodes p ys k h1 h2 k1 k2 rl x dx vs n'
theorem add_step {w : World} {p : P} (ih : ∀ q : P, q.size < p.size → AddS w q) : AddS w p := by
  intro vw lo mean mg mb A₀ A base h₀ env outer L m s Q E news x dx h1 h2 k1 k2 rl ys n k tk gg v nodes B F X N T hA hf hke hh hdp m1 m2 m3 U hS hB hO hys hk hk2 hret
  obtain ⟨b, t, l, kk, ws, rfl, hb, hl, hn⟩ := hS
  refine wpAny_call ?_
  have hin : ∀ p ∈ [(dx, rmO h1 h2 k1 k2 (.ref rl) (.int k tk)), (rl, listOf ys.toArray n), (x, instObj 133 dx)], p ∈ news := by repeat' (first | exact fn_ | refine fc_ ?_ ?_ | assumption)
  have N2 := News.sub N hin
  have ne1 := neN (obj_ne N m1 m2 (by intro e; have q := congrArg Obj.cls e; simp at q))
  have ne2 := neN (obj_ne N m1 m3 (by intro e; have q := congrArg Obj.cls e; simp at q))
  have ne3 := neN (obj_ne N m2 m3 (by intro e; have q := congrArg Obj.cls e; simp at q))
  (k_dflt (refine' enterS B F X N2 T ?kA hf hke ?k6 ?k7 ?k8 ?k9 ?kB ?_ ?c2 ?c3 ?c4 ?c5; (case kA => exact hA); (case k6 => k_is); (case k7 => k_is); (case k8 => (first | assumption | exact room_d (by assumption) | exact room_f (by assumption) (by decide) | exact room_a (by assumption) (by decide) | exact room_b (by assumption) (by decide) | exact room_c (by assumption) (by decide) | exact room_e (by assumption) (by decide) | omega | (simp only [depth_deeper] at *; omega))); (case k9 => exact BindsTo.of_eq rfl); (case c5 => decide); (case kB => exact locs rfl); (case c2 => exact rfl); (case c3 => exact rfl); (case c4 => exact rfl)))
  intro g L' hq FG F' N' B' X' T' l1 hK hS hL
  (try k_lt l1)
  (try dsimp only); (try k_fold)
  have hB' : ∀ p ∈ nodes, g.get? p.1 = some p.2 := fun p hp => hK _ _ (hB p hp) (by simp [hO p hp])
  have hga := hB' _ hb
  have hgl := hB' _ hl
  (repeat' (first | ((with_reducible show wpAny _ _ (call (Value.ref 144) _) _ _ _); k_here; k_dflt (apply node_sign; (case F => k_asm); (case B => k_asm); (case X => k_asm); (case N => k_asm); (case T => k_asm); (case hA => first | exact Around.frames_deeper (Below.stack (by k_asm)) | assumption); (case hf => first | exact rfl | assumption); (case hke => first | exact rfl | assumption); (case hh => assumption); (case hdp => (first | assumption | exact room_d (by assumption) | exact room_f (by assumption) (by decide) | exact room_a (by assumption) (by decide) | exact room_b (by assumption) (by decide) | exact room_c (by assumption) (by decide) | exact room_e (by assumption) (by decide) | omega | (simp only [depth_deeper] at *; omega))); (case ha => exact Fr.keep (by k_asm) _ _ (by assumption)); (case m1 => k_mem); (case m2 => k_mem); (case m3 => k_mem); (case U => k_updF); (case hO1 => assumption); (case hO2 => assumption); (case hO3 => assumption); (case hys => (first | assumption | omega))); intro n' h' tk' F' N'; (try dsimp only at N'); (try k_sweep)) | ((with_reducible show wpAny _ _ (call (Value.ref 144) _) _ _ _); k_here; k_dflt (apply node_group; (case H => assumption); (case F => k_asm); (case B => k_asm); (case X => k_asm); (case N => k_asm); (case T => k_asm); (case hA => first | exact Around.frames_deeper (Below.stack (by k_asm)) | assumption); (case hf => first | exact rfl | assumption); (case hke => first | exact rfl | assumption); (case hh => assumption); (case hdp => (first | assumption | exact room_d (by assumption) | exact room_f (by assumption) (by decide) | exact room_a (by assumption) (by decide) | exact room_b (by assumption) (by decide) | exact room_c (by assumption) (by decide) | exact room_e (by assumption) (by decide) | omega | (simp only [depth_deeper] at *; omega))); (case ha => assumption); (case hS => assumption); (case m1 => k_mem); (case m2 => k_mem); (case m3 => k_mem); (case U => k_updF); (case hB => exact fun p hp => Fr.keep (by k_asm) _ _ ((by assumption : ∀ p ∈ _, Heap.get? _ p.1 = some p.2) p hp)); (case hO => assumption); (case hys => (first | assumption | omega)); (case hk => (first | assumption | omega)); (case hk2 => (first | assumption | omega))); intro k' t' ys' n' h' tk' F' N' e1' e2'; (try dsimp only at N'); (try k_sweep)) | (k_unfold; (try dsimp only)) | (k_end; wrow_close) | walk1 | (dsimp only; walk1) | (leave1; walk_say "STEP leave1"; try dsimp only) | fail "no step"))
  unfold Hold
  rename Fr g L' _ _ => Fx
  rename News g L' _ (_ :: _) => Nx
  with_unfolding_all refine iter_listB hh Fx (News.sub Nx (l' := [(dx, rmO h1 h2 k1 k2 (.ref rl) (.int k _)), (rl, listOf ys.toArray n), (x, instObj 133 dx)]) (by kcj_in)) hgl rfl rfl ?_
  intro i' l1
  k_lt l1
  refine items_ind1 (Str.ofString "one") (AddInv nodes p ys k h1 h2 k1 k2 rl x dx) ?_ ?_ _ _ ⟨p, _, _, _, _, hn, Nat.le_refl _, Nat.le_refl _, rfl, rfl, hk, rfl⟩
  · rintro o n' ⟨r, k', t', ys', n1, hn, hht, hsz, hyl, hkl, hk0, e⟩
    subst e
    cases hn
    refine ItemsRest.zero fun h' tk' F' N' => ?_
    (repeat' (first | ((with_reducible show wpAny _ _ (call (Value.ref 144) _) _ _ _); k_here; k_dflt (apply node_sign; (case F => k_asm); (case B => k_asm); (case X => k_asm); (case N => k_asm); (case T => k_asm); (case hA => first | exact Around.frames_deeper (Below.stack (by k_asm)) | assumption); (case hf => first | exact rfl | assumption); (case hke => first | exact rfl | assumption); (case hh => assumption); (case hdp => (first | assumption | exact room_d (by assumption) | exact room_f (by assumption) (by decide) | exact room_a (by assumption) (by decide) | exact room_b (by assumption) (by decide) | exact room_c (by assumption) (by decide) | exact room_e (by assumption) (by decide) | omega | (simp only [depth_deeper] at *; omega))); (case ha => exact Fr.keep (by k_asm) _ _ (by assumption)); (case m1 => k_mem); (case m2 => k_mem); (case m3 => k_mem); (case U => k_updF); (case hO1 => assumption); (case hO2 => assumption); (case hO3 => assumption); (case hys => (first | assumption | omega))); intro n' h' tk' F' N'; (try dsimp only at N'); (try k_sweep)) | ((with_reducible show wpAny _ _ (call (Value.ref 144) _) _ _ _); k_here; k_dflt (apply node_group; (case H => assumption); (case F => k_asm); (case B => k_asm); (case X => k_asm); (case N => k_asm); (case T => k_asm); (case hA => first | exact Around.frames_deeper (Below.stack (by k_asm)) | assumption); (case hf => first | exact rfl | assumption); (case hke => first | exact rfl | assumption); (case hh => assumption); (case hdp => (first | assumption | exact room_d (by assumption) | exact room_f (by assumption) (by decide) | exact room_a (by assumption) (by decide) | exact room_b (by assumption) (by decide) | exact room_c (by assumption) (by decide) | exact room_e (by assumption) (by decide) | omega | (simp only [depth_deeper] at *; omega))); (case ha => assumption); (case hS => assumption); (case m1 => k_mem); (case m2 => k_mem); (case m3 => k_mem); (case U => k_updF); (case hB => exact fun p hp => Fr.keep (by k_asm) _ _ ((by assumption : ∀ p ∈ _, Heap.get? _ p.1 = some p.2) p hp)); (case hO => assumption); (case hys => (first | assumption | omega)); (case hk => (first | assumption | omega)); (case hk2 => (first | assumption | omega))); intro k' t' ys' n' h' tk' F' N' e1' e2'; (try dsimp only at N'); (try k_sweep)) | (k_unfold; (try dsimp only)) | (k_end; wrow_close) | walk1 | (dsimp only; walk1) | (leave1; walk_say "STEP leave1"; try dsimp only) | fail "no step"))
    rename Fr g L' _ _ => Fe
    rename Fr h₀ L _ m => kF
    rename News h₀ L _ (_ :: _) => kN
    exact hret _ _ _ _ _ _ kF (back2 (sub := [(x, instObj 133 dx)]) N U hin hK Fe kN (by kcj_in)) (by simp only [P.ng] at hkl; omega) (by simp only [P.rw] at hyl; omega)
  · rintro v vs o n' ⟨r, k', t', ys', n1, hn, hht, hsz, hyl, hkl, hk0, e⟩ IH
    subst e
    cases hn with
    | @sign a ts y z c _ r hm hr =>
      simp only [P.ht, P.size, P.rw, P.ng] at hht hsz hyl hkl
      have hga := hB' _ hm
      have hO1 := (hO _ hm).1
      have hO2 := (hO _ hm).2.1
      have hO3 := (hO _ hm).2.2
      refine ItemsRest.val fun h tk FA => ?_
      refine AllObj.cons fun oI hoI => AllObj.nil fun NA => ?_
      (repeat' (first | ((with_reducible show wpAny _ _ (call (Value.ref 144) _) _ _ _); k_here; k_dflt (apply node_sign; (case F => k_asm); (case B => k_asm); (case X => k_asm); (case N => k_asm); (case T => k_asm); (case hA => first | exact Around.frames_deeper (Below.stack (by k_asm)) | assumption); (case hf => first | exact rfl | assumption); (case hke => first | exact rfl | assumption); (case hh => assumption); (case hdp => (first | assumption | exact room_d (by assumption) | exact room_f (by assumption) (by decide) | exact room_a (by assumption) (by decide) | exact room_b (by assumption) (by decide) | exact room_c (by assumption) (by decide) | exact room_e (by assumption) (by decide) | omega | (simp only [depth_deeper] at *; omega))); (case ha => exact Fr.keep (by k_asm) _ _ (by assumption)); (case m1 => k_mem); (case m2 => k_mem); (case m3 => k_mem); (case U => k_updF); (case hO1 => assumption); (case hO2 => assumption); (case hO3 => assumption); (case hys => (first | assumption | omega))); intro n' h' tk' F' N'; (try dsimp only at N'); (try k_sweep)) | ((with_reducible show wpAny _ _ (call (Value.ref 144) _) _ _ _); k_here; k_dflt (apply node_group; (case H => assumption); (case F => k_asm); (case B => k_asm); (case X => k_asm); (case N => k_asm); (case T => k_asm); (case hA => first | exact Around.frames_deeper (Below.stack (by k_asm)) | assumption); (case hf => first | exact rfl | assumption); (case hke => first | exact rfl | assumption); (case hh => assumption); (case hdp => (first | assumption | exact room_d (by assumption) | exact room_f (by assumption) (by decide) | exact room_a (by assumption) (by decide) | exact room_b (by assumption) (by decide) | exact room_c (by assumption) (by decide) | exact room_e (by assumption) (by decide) | omega | (simp only [depth_deeper] at *; omega))); (case ha => assumption); (case hS => assumption); (case m1 => k_mem); (case m2 => k_mem); (case m3 => k_mem); (case U => k_updF); (case hB => exact fun p hp => Fr.keep (by k_asm) _ _ ((by assumption : ∀ p ∈ _, Heap.get? _ p.1 = some p.2) p hp)); (case hO => assumption); (case hys => (first | assumption | omega)); (case hk => (first | assumption | omega)); (case hk2 => (first | assumption | omega))); intro k' t' ys' n' h' tk' F' N' e1' e2'; (try dsimp only at N'); (try k_sweep)) | (k_unfold; (try dsimp only)) | (k_end; wrow_close) | walk1 | (dsimp only; walk1) | (leave1; walk_say "STEP leave1"; try dsimp only) | fail "no step"))
      unfold Hold
      rename Fr g L' _ _ => Fe
      rename News g L' _ (_ :: _) => Ne
      refine UnrEndW.intro ?FF Ne [(dx, rmO h1 h2 k1 k2 (.ref rl) (.int _ _)), (rl, listOf _ _), (x, instObj 133 dx)] (by k_subL) (by k_subL) (by ktu_offL) ⟨by k_subL, IH (some (.ref a)) _ ⟨r, _, _, _, _, hr, ?_, ?_, ?_, ?_, ?_, rfl⟩⟩
      case FF => exact fr_congr Fe (by intro y; by_cases e : y = Str.ofString "one" <;> simp only [e, if_true, if_false])
      all_goals (try simp only [List.length_append, List.length_cons, List.length_nil]); omega
    | @group a b l ts t2 tn zn kn _ ws q r hm hm2 hm3 hq hr =>
      simp only [P.ht, P.size, P.rw, P.ng] at hht hsz hyl hkl
      have hga := hB' _ hm
      have hSq : SeqIn nodes (.ref b) q := ⟨_, _, _, _, _, rfl, hm2, hm3, hq⟩
      have Hq : AddS w q := ih q (by omega)
      refine ItemsRest.val fun h tk FA => ?_
      refine AllObj.cons fun oI hoI => AllObj.nil fun NA => ?_
      (repeat' (first | ((with_reducible show wpAny _ _ (call (Value.ref 144) _) _ _ _); k_here; k_dflt (apply node_sign; (case F => k_asm); (case B => k_asm); (case X => k_asm); (case N => k_asm); (case T => k_asm); (case hA => first | exact Around.frames_deeper (Below.stack (by k_asm)) | assumption); (case hf => first | exact rfl | assumption); (case hke => first | exact rfl | assumption); (case hh => assumption); (case hdp => (first | assumption | exact room_d (by assumption) | exact room_f (by assumption) (by decide) | exact room_a (by assumption) (by decide) | exact room_b (by assumption) (by decide) | exact room_c (by assumption) (by decide) | exact room_e (by assumption) (by decide) | omega | (simp only [depth_deeper] at *; omega))); (case ha => exact Fr.keep (by k_asm) _ _ (by assumption)); (case m1 => k_mem); (case m2 => k_mem); (case m3 => k_mem); (case U => k_updF); (case hO1 => assumption); (case hO2 => assumption); (case hO3 => assumption); (case hys => (first | assumption | omega))); intro n' h' tk' F' N'; (try dsimp only at N'); (try k_sweep)) | ((with_reducible show wpAny _ _ (call (Value.ref 144) _) _ _ _); k_here; k_dflt (apply node_group; (case H => assumption); (case F => k_asm); (case B => k_asm); (case X => k_asm); (case N => k_asm); (case T => k_asm); (case hA => first | exact Around.frames_deeper (Below.stack (by k_asm)) | assumption); (case hf => first | exact rfl | assumption); (case hke => first | exact rfl | assumption); (case hh => assumption); (case hdp => (first | assumption | exact room_d (by assumption) | exact room_f (by assumption) (by decide) | exact room_a (by assumption) (by decide) | exact room_b (by assumption) (by decide) | exact room_c (by assumption) (by decide) | exact room_e (by assumption) (by decide) | omega | (simp only [depth_deeper] at *; omega))); (case ha => assumption); (case hS => assumption); (case m1 => k_mem); (case m2 => k_mem); (case m3 => k_mem); (case U => k_updF); (case hB => exact fun p hp => Fr.keep (by k_asm) _ _ ((by assumption : ∀ p ∈ _, Heap.get? _ p.1 = some p.2) p hp)); (case hO => assumption); (case hys => (first | assumption | omega)); (case hk => (first | assumption | omega)); (case hk2 => (first | assumption | omega))); intro k' t' ys' n' h' tk' F' N' e1' e2'; (try dsimp only at N'); (try k_sweep)) | (k_unfold; (try dsimp only)) | (k_end; wrow_close) | walk1 | (dsimp only; walk1) | (leave1; walk_say "STEP leave1"; try dsimp only) | fail "no step"))
      unfold Hold
      rename Fr g L' _ _ => Fe
      rename News g L' _ (_ :: _) => Ne
      refine UnrEndW.intro ?FF Ne [(dx, rmO h1 h2 k1 k2 (.ref rl) (.int _ _)), (rl, listOf _ _), (x, instObj 133 dx)] (by k_subL) (by k_subL) (by ktu_offL) ⟨by k_subL, IH (some (.ref a)) _ ⟨r, _, _, _, _, hr, ?_, ?_, ?_, ?_, ?_, rfl⟩⟩
      case FF => exact fr_congr Fe (by intro y; by_cases e : y = Str.ofString "one" <;> simp only [e, if_true, if_false])
      all_goals (try simp only [List.length_append, List.length_cons, List.length_nil]); omega

theorem add_all (w : World) : ∀ p : P, AddS w p := by
  have all : ∀ n, ∀ p : P, p.size < n → AddS w p := by
    intro n
    induction n with
    | zero => intro p h; exact absurd h (Nat.not_lt_zero _)
    | succ n ih => exact fun p h => add_step fun q hq => ih q (Nat.lt_of_lt_of_le hq (Nat.le_of_lt_succ h))
  exact fun p => all _ p (Nat.lt_succ_self _)

end Mine
end
-- S14
section
open PySem PySem.W PyProof.Rows PySem.Calls PySem.Spec
namespace Mine
theorem base_ne {h₀ h : Heap} {L a b : Addr} {o u : Obj} {news : List (Addr × Obj)} (N : News h₀ L h news) (m : (a, o) ∈ news) (e : h₀.get? b = some u) : b ≠ a := fun q => by
  have z := (N _ m).2.2
  rw [q] at e
  have z' : h₀.get? a = none := z
  rw [z'] at e; cases e
abbrev progO (h1 h2 h3 h4 : Int) (k1 k2 k3 k4 : Tok) (v1 v2 v3 v4 : Value) : Obj := dictOf [⟨h1, .str (Str.ofString "rows") k1, v1⟩, ⟨h2, .str (Str.ofString "groups") k2, v2⟩, ⟨h3, .str (Str.ofString "registers") k3, v3⟩, ⟨h4, .str (Str.ofString "names") k4, v4⟩] 4
section
variable {w : World} {vw : Program} {lo : List Str} {mean : ExcName → Option Value} {mg mb : Str → Option Value} {A₀ A : Around} {base h₀ : Heap} {env : Env} {outer : List Env} {L : Addr} {m : Str → Option Value} {s : Shared} {Q E : Value → Shared → Prop} {news : List (Addr × Obj)}
  {x dx : Addr} {txt : Str} {t1 t3 t4 t5 : Tok} {i gn dn : Int} {h1 h2 h3 h4 h5 h6 h7 : Int} {k1 k2 k3 k4 k5 k6 k7 : Tok} {v2 v4 v5 v6 v7 : Value}
theorem tree_spec {p : P} {v : Value} {k : Int} {tg : Tok} {nm : Addr} {nodes : List (Addr × Obj)}
  (B : Below A₀ base outer h₀) (F : Fr h₀ L s.heap m) (X : (pre.heap_1 w.params).In h₀) (N : News h₀ L s.heap news) (T : Top vw lo mean mg mb h₀) (hA : A.frames = some (env :: outer)) (hf : env.frame = some L) (hke : env.scope.kind = .function) (hh : A.handled = none)
  (hdp : A.depth + (2 * p.ht + 8) < recursionLimit)
  (hS : SeqIn nodes v p) (hB : ∀ p ∈ nodes, s.heap.get? p.1 = some p.2) (hrw : p.rw ≤ 100) (hng : p.ng ≤ 100)
  (hret : ∀ a d g1 g2 g3 g4 q1 q2 q3 q4 v1 t v3 v4 h' tk', Fr h₀ L h' m → News h₀ L h' (news ++ [(a, instObj 98 d), (d, progO g1 g2 g3 g4 q1 q2 q3 q4 v1 (.int k t) v3 v4)]) → Off [(a, instObj 98 d), (d, progO g1 g2 g3 g4 q1 q2 q3 q4 v1 (.int k t) v3 v4)] news → Q (.ref a) { s with heap := h', toks := tk' }) :
  wpAny (model PySem.Challenge.rw_qz0116_01.row.toRowW.1 w) A (call (.ref 186) [v, .int k tg, .ref nm]) Q E s := by
  refine wpAny_call ?_
  have hin : ∀ p ∈ ([] : List (Addr × Obj)), p ∈ news := fun _ h => nomatch h
  have N2 := News.sub N hin
  (k_dflt (refine' enterS B F X N2 T ?kA hf hke ?k6 ?k7 ?k8 ?k9 ?kB ?_ ?c2 ?c3 ?c4 ?c5; (case kA => exact hA); (case k6 => k_is); (case k7 => k_is); (case k8 => (first | assumption | exact room_d (by assumption) | exact room_f (by assumption) (by decide) | exact room_a (by assumption) (by decide) | exact room_b (by assumption) (by decide) | exact room_c (by assumption) (by decide) | exact room_e (by assumption) (by decide) | omega | (simp only [depth_deeper] at *; omega))); (case k9 => exact BindsTo.of_eq rfl); (case c5 => decide); (case kB => exact locs rfl); (case c2 => exact rfl); (case c3 => exact rfl); (case c4 => exact rfl)))
  intro g L' hq FG F' N' B' X' T' l1 hK hS hL
  (try k_lt l1)
  (try dsimp only); (try k_fold)
  have hB' : ∀ p ∈ nodes, g.get? p.1 = some p.2 := fun p hp => hK _ _ (hB p hp) (by simp)
  (repeat' (first | ((with_reducible show wpAny _ _ (call (Value.ref 123) _) _ _ _); k_here; k_dflt (apply add_spec; (case F => k_asm); (case B => k_asm); (case X => k_asm); (case N => k_asm); (case T => k_asm); (case hA => first | exact Around.frames_deeper (Below.stack (by k_asm)) | assumption); (case hf => first | exact rfl | assumption); (case hke => first | exact rfl | assumption); (case hh => assumption); (case hdp => (first | assumption | exact room_d (by assumption) | exact room_f (by assumption) (by decide) | exact room_a (by assumption) (by decide) | exact room_b (by assumption) (by decide) | exact room_c (by assumption) (by decide) | exact room_e (by assumption) (by decide) | omega | (simp only [depth_deeper] at *; omega))); (case m1 => k_mem); (case m2 => k_mem); (case m3 => k_mem); (case U => k_updF); (case hys => ((try simp only [List.length_append, List.length_cons, List.length_nil]); omega))); intro q' t' n' h' tk' F' N'; (try dsimp only at N'); (try k_sweep)) | ((with_reducible show wpAny _ _ (call (Value.ref 144) _) _ _ _); k_here; k_dflt (apply addS_use; (case F => k_asm); (case B => k_asm); (case X => k_asm); (case N => k_asm); (case T => k_asm); (case hA => first | exact Around.frames_deeper (Below.stack (by k_asm)) | assumption); (case hf => first | exact rfl | assumption); (case hke => first | exact rfl | assumption); (case hh => assumption); (case hS => assumption); (case hdp => (first | assumption | exact room_d (by assumption) | exact room_f (by assumption) (by decide) | exact room_a (by assumption) (by decide) | exact room_b (by assumption) (by decide) | exact room_c (by assumption) (by decide) | exact room_e (by assumption) (by decide) | omega | (simp only [depth_deeper] at *; omega))); (case H => exact add_all _ _); (case m1 => k_mem); (case m2 => k_mem); (case m3 => k_mem); (case U => k_updF); (case hB => exact fun p hp => Fr.keep (by k_asm) _ _ ((by assumption : ∀ p ∈ _, Heap.get? _ p.1 = some p.2) p hp)); (case hO => exact fun p hp => ⟨base_ne (by k_asm) (by k_mem) ((by assumption : ∀ p ∈ _, Heap.get? _ p.1 = some p.2) p hp), base_ne (by k_asm) (by k_mem) ((by assumption : ∀ p ∈ _, Heap.get? _ p.1 = some p.2) p hp), base_ne (by k_asm) (by k_mem) ((by assumption : ∀ p ∈ _, Heap.get? _ p.1 = some p.2) p hp)⟩); (case hys => ((try simp only [List.length_nil]); omega)); (case hk => (first | assumption | omega)); (case hk2 => (first | assumption | omega))); intro k' t' ys' n' h' tk' F' N' e1' e2'; (try simp only [List.length_nil] at e2'); (try dsimp only at N'); (try k_sweep)) | (k_unfold; (try dsimp only)) | (k_end; wrow_close) | walk1 | (dsimp only; walk1) | (leave1; walk_say "STEP leave1"; try dsimp only) | fail "no step"))
  rename Fr g L' _ _ => Fe
  rename News g L' _ _ => Ne
  rename Fr h₀ L _ m => kF
  rename News h₀ L _ (_ :: _) => kN
  obtain ⟨z1, z2⟩ := back0 (tl := [(_, instObj 98 _), (_, progO _ _ _ _ _ _ _ _ _ _ _ _)]) N hK Fe Ne kN (by kcj_in)
  exact hret _ _ _ _ _ _ _ _ _ _ _ _ _ _ _ _ kF z1 z2
end

end Mine
end
-- S15
section
open PySem PySem.W PyProof.Rows PySem.Calls PySem.Spec
namespace Mine
section
variable {w : World} {vw : Program} {lo : List Str} {mean : ExcName → Option Value} {mg mb : Str → Option Value} {A₀ A : Around} {base h₀ : Heap} {env : Env} {outer : List Env} {L : Addr} {m : Str → Option Value} {s : Shared} {Q E : Value → Shared → Prop} {news : List (Addr × Obj)}
  {x dx : Addr} {txt : Str} {t1 t3 t4 t5 : Tok} {i gn dn : Int} {h1 h2 h3 h4 h5 h6 h7 : Int} {k1 k2 k3 k4 k5 k6 k7 : Tok} {v2 v4 v5 v6 v7 : Value}
theorem comp_spec {p : P} {tg tf : Tok}
  (B : Below A₀ base outer h₀) (F : Fr h₀ L s.heap m) (X : (pre.heap_1 w.params).In h₀) (N : News h₀ L s.heap news) (T : Top vw lo mean mg mb h₀) (hA : A.frames = some (env :: outer)) (hf : env.frame = some L) (hke : env.scope.kind = .function) (hh : A.handled = none)
  (hdp : A.depth + (6 * p.ht + 20) < recursionLimit) (hlen : txt.length ≤ 100) (hG : Good txt)
  (hpr : txt.cps.toList = p.print) (hok : p.ok) (hht : p.ht ≤ 40) (hrw : p.rw ≤ 100) (hng : p.ng ≤ 100)
  (hret : ∀ a d g1 g2 g3 g4 q1 q2 q3 q4 v1 k t v3 v4 h' tk', k = (p.ng : Int) → Fr h₀ L h' m → News h₀ L h' (news ++ [(a, instObj 98 d), (d, progO g1 g2 g3 g4 q1 q2 q3 q4 v1 (.int k t) v3 v4)]) → Off [(a, instObj 98 d), (d, progO g1 g2 g3 g4 q1 q2 q3 q4 v1 (.int k t) v3 v4)] news → Q (.ref a) { s with heap := h', toks := tk' }) :
  wpAny (model PySem.Challenge.rw_qz0116_01.row.toRowW.1 w) A (call (.ref 577) [.str txt tg, .str (Str.ofString "") tf]) Q E s := by
  refine wpAny_call ?_
  have hin : ∀ p ∈ ([] : List (Addr × Obj)), p ∈ news := fun _ h => nomatch h
  have N2 := News.sub N hin
  (k_dflt (refine' enterS B F X N2 T ?kA hf hke ?k6 ?k7 ?k8 ?k9 ?kB ?_ ?c2 ?c3 ?c4 ?c5; (case kA => exact hA); (case k6 => k_is); (case k7 => k_is); (case k8 => (first | assumption | exact room_d (by assumption) | exact room_f (by assumption) (by decide) | exact room_a (by assumption) (by decide) | exact room_b (by assumption) (by decide) | exact room_c (by assumption) (by decide) | exact room_e (by assumption) (by decide) | omega | (simp only [depth_deeper] at *; omega))); (case k9 => exact BindsTo.of_eq rfl); (case c5 => decide); (case kB => exact locs rfl); (case c2 => exact rfl); (case c3 => exact rfl); (case c4 => exact rfl)))
  intro g L' hq FG F' N' B' X' T' l1 hK hS hL
  (try k_lt l1)
  (try dsimp only); (try k_fold)
  (repeat' (first | ((with_reducible show wpAny _ _ (call (Value.ref 186) _) _ _ _); k_here; k_dflt (apply tree_spec; (case F => k_asm); (case B => k_asm); (case X => k_asm); (case N => k_asm); (case T => k_asm); (case hA => first | exact Around.frames_deeper (Below.stack (by k_asm)) | assumption); (case hf => first | exact rfl | assumption); (case hke => first | exact rfl | assumption); (case hh => assumption); (case hS => assumption); (case hdp => (first | assumption | exact room_d (by assumption) | exact room_f (by assumption) (by decide) | exact room_a (by assumption) (by decide) | exact room_b (by assumption) (by decide) | exact room_c (by assumption) (by decide) | exact room_e (by assumption) (by decide) | omega | (simp only [depth_deeper] at *; omega))); (case hB => exact fun p hp => (News.sub (by k_asm) (by kcj_in) p hp).1); (case hrw => assumption); (case hng => assumption)); intro a' d' g1' g2' g3' g4' q1' q2' q3' q4' v1' t' v3' v4' h' tk' F' N' O'; (try simp only [List.cons_append, List.nil_append, List.append_assoc] at N'); (try k_sweep)) | ((with_reducible show wpAny _ _ (call (Value.ref 570) _) _ _ _); k_here; k_dflt (apply parse_spec; (case F => k_asm); (case B => k_asm); (case X => k_asm); (case N => k_asm); (case T => k_asm); (case hA => first | exact Around.frames_deeper (Below.stack (by k_asm)) | assumption); (case hf => first | exact rfl | assumption); (case hke => first | exact rfl | assumption); (case hh => assumption); (case hpr => assumption); (case hdp => (first | assumption | exact room_d (by assumption) | exact room_f (by assumption) (by decide) | exact room_a (by assumption) (by decide) | exact room_b (by assumption) (by decide) | exact room_c (by assumption) (by decide) | exact room_e (by assumption) (by decide) | omega | (simp only [depth_deeper] at *; omega))); (case hlen => assumption); (case hG => assumption); (case hok => assumption); (case hht => assumption)); intro a' v' n' k' tl' tg' h' tk' e1' F' N' O' S'; (try simp only [List.cons_append, List.nil_append] at N'); (try k_sweep)) | (k_unfold; (try dsimp only)) | (k_end; wrow_close) | walk1 | (dsimp only; walk1) | (leave1; walk_say "STEP leave1"; try dsimp only) | fail "no step"))
  rename Fr g L' _ _ => Fe
  rename News g L' _ _ => Ne
  rename Fr h₀ L _ m => kF
  rename News h₀ L _ (_ :: _) => kN
  obtain ⟨z1, z2⟩ := back0 (tl := [(_, instObj 98 _), (_, progO _ _ _ _ _ _ _ _ _ _ _ _)]) N hK Fe Ne kN (by kcj_in)
  exact hret _ _ _ _ _ _ _ _ _ _ _ _ _ _ _ _ _ (by assumption) kF z1 z2
end

end Mine
end
-- S16
section
open PySem PySem.W PyProof.Rows PySem.Calls PySem.Spec
namespace Mine
section
variable {w : World} {vw : Program} {lo : List Str} {mean : ExcName → Option Value} {mg mb : Str → Option Value} {A₀ A : Around} {base h₀ : Heap} {env : Env} {outer : List Env} {L : Addr} {m : Str → Option Value} {s : Shared} {Q E : Value → Shared → Prop} {news : List (Addr × Obj)}
  {x dx : Addr} {txt : Str} {t1 t3 t4 t5 : Tok} {i gn dn : Int} {h1 h2 h3 h4 h5 h6 h7 : Int} {k1 k2 k3 k4 k5 k6 k7 : Tok} {v2 v4 v5 v6 v7 : Value}
theorem own_spec {tf : Tok}
  (B : Below A₀ base outer h₀) (F : Fr h₀ L s.heap m) (X : (pre.heap_1 w.params).In h₀) (N : News h₀ L s.heap news) (T : Top vw lo mean mg mb h₀) (hA : A.frames = some (env :: outer)) (hf : env.frame = some L) (hke : env.scope.kind = .function) (hh : A.handled = none)
  (hdp : A.depth + 1 < recursionLimit)
  (hret : ∀ t h' tk', Fr h₀ L h' m → News h₀ L h' news → Q (.str (Str.ofString "") t) { s with heap := h', toks := tk' }) :
  wpAny (model PySem.Challenge.rw_qz0116_01.row.toRowW.1 w) A (call (.ref 652) [.str (Str.ofString "g") tf]) Q E s := by
  refine wpAny_call ?_
  have hin : ∀ p ∈ ([] : List (Addr × Obj)), p ∈ news := fun _ h => nomatch h
  have N2 := News.sub N hin
  (k_dflt (refine' enterSC B F X N2 T ?kA hf hke ?k6 ?k7 ?k8 ?k9 ?kB ?kD ?_ ?c2 ?c3 ?c4; (case kA => exact hA); (case k6 => k_is); (case k7 => k_is); (case k8 => (first | assumption | exact room_d (by assumption) | exact room_f (by assumption) (by decide) | exact room_a (by assumption) (by decide) | exact room_b (by assumption) (by decide) | exact room_c (by assumption) (by decide) | exact room_e (by assumption) (by decide) | omega | (simp only [depth_deeper] at *; omega))); (case k9 => exact BindsTo.of_eq rfl); (case kB => exact rfl); (case kD => decide +kernel); (case c2 => exact rfl); (case c3 => exact rfl); (case c4 => exact rfl)))
  intro g L' hq tkq cellsq FG F' N' Y' B' X' T' l1 hK hS hL
  (try k_lt l1)
  k_cells Y'
  (try simp only [List.cons_append, List.nil_append] at N')
  (try dsimp only); (try k_fold)
  k_steps
  rename Fr g L' _ _ => Fe
  rename Fr h₀ L _ m => kF
  exact hret _ _ _ kF (after0 (mods := []) N hin (hK.trans Fe.keep) News.nil)
end

end Mine
end
-- X1
section
open PySem PySem.W PyProof.Rows PySem.Calls PySem.Spec Builtin Builtin.ObjectAttr
namespace Mine
theorem any_is {α : Type} {p : α → Bool} {x : Option α} (e : x.any p = true) : ∃ a, x = some a ∧ p a = true := by cases x with | none => cases e | some a => exact ⟨a, rfl, e⟩
section
variable {prog : Program} {w : World} {A : Around} {E : Value → Shared → Prop} {s : Shared} {K : Frag} {x C L : Addr} {h₀ : Heap} {m : Str → Option Value} {news : List (Addr × Obj)} {R : Result → Shared → Prop} {name : Str} {v : Value} {cd : ClassData}
/-- an attribute is stored on an exception of an own class -/
theorem osa_exc {ox : Obj} {od : Option Obj} {tk : Tok} (X : K.In s.heap) (I : InstAt s.heap x ox C od) (hc : clsIn K C = some cd) (hr : refuseLoop (.ref x) "__setattr__" cd.mro = pure ()) (hm : mroIn K C (.type "object") = some true) (ht : takerIn K C name = some none)
    (h : ∀ b, wpAny (model prog w) A.in1 (storeInOwnDict (.ref x) (.ref C) (.str name tk) name v b)
      (fun fin s' => match fin with | .done f => R (.ok f) s' | .again c' => c'.quiet = true ∧ codeAny (model prog w) A c' R s') (fun e s' => R (.error e) s') s) :
    codeAny (model prog w) A (.call (.builtin "object.__setattr__") ⟨[.ref x, .str name tk, v], []⟩) R s := by
  have SF := PySem.F.store_object
  have sub : Looks (model prog w) s.heap (isInstance (.ref x) (.type "object")) true := I.type.andThen (looks_mroIn X hm)
  refine codeAny_call_builtin SF.slot.plain SF.entry (@check_slot (model prog w) _ _ s "object.__setattr__" "object" "__setattr__" (.ref x) [.str name tk, v] [] _ SF.kind SF.split sub (SF.args (.ref x) (.str name tk) v) ?_)
  obtain ⟨attr, ha, hr2⟩ := Option.bind_eq_some_iff.mp ht
  have hm : Looks (model prog w) s.heap (mroOf (.ref C)) cd.mro := (looks_clsIn X hc).andThen .now
  have L3 : Looks (model prog w) s.heap (storeTaker? attr) none := by
    cases attr with
    | none => exact .now
    | some a =>
      obtain ⟨b, hb, he⟩ := Option.map_eq_some_iff.mp hr2
      refine (looks_takesIn X hb).andThen ?_
      cases b <;> first | exact .now | cases he
  rw [osa_eq, refuse_eq]
  refine wpAny_bind (wpAny_bind (I.type.here (wpAny_bind (hm.here ?_))))
  rw [hr]
  exact wpAny_pure (wpAny_bind (I.type.here (wpAny_bind ((looks_findIn X ha).here (wpAny_bind (L3.here (h _)))))))

theorem exc_dict_put {D : Addr} {es es' : List DictEntry} {n n' : Nat} {pre post : List (Addr × Obj)} {tk : Tok} {b : Fin → Shared → Prop} {E' : Value → Shared → Prop} (F : Fr h₀ L s.heap m) (N : News h₀ L s.heap (pre ++ (D, dictOf es n) :: post))
    (h1 : ∀ p ∈ pre, p.1 ≠ D) (h2 : ∀ p ∈ post, p.1 ≠ D) (hl : (getL name es).isSome = true)
    (e : (putL name (PyData.keyHash w.params name) (.str name s.toks) v es, putN name es n) = (es', n')) (hz : es'.length ≤ 1000)
    (h : ∀ h', Fr h₀ L h' m → News h₀ L h' (pre ++ (D, dictOf es' n') :: post) → b (.done (.ret .none)) { s with heap := h', toks := s.toks + 1 }) :
    wpAny (model prog w) A (storeInDict D (.str name tk) name v) b E' s := by
  obtain ⟨e1, e2⟩ := Prod.mk.inj e
  obtain ⟨U1, U2⟩ := news_upd (f := Obj.putName name (PyData.keyHash w.params name) (.str name s.toks) v) (o' := dictOf es' n') F N h1 h2 (by rw [putName_dict, e1, e2]) rfl
  have Dx := (N (D, dictOf es n) (by simp)).1
  have D' := (U2 (D, dictOf es' n') (by simp)).1
  unfold storeInDict newKeyGuard
  refine wpAny_bind (wpAny_pure (wpAny_bind ?_))
  unfold nsSet
  refine wpAny_bind (wpAny_bind (wpAny_askSetting (wpAny_pure (wpAny_bind (wpAny_mkText (wpAny_bind (wpAny_loadPart Dx ?_)))))))
  have c : (!es.toArray.any (·.key.isStr name) && es.toArray.any (·.refKey)) = false := by
    rw [← Array.any_toList, ← Array.any_toList]
    unfold getL at hl
    split at hl
    · rename_i en he
      rw [List.any_eq_true.mpr ⟨en, List.mem_of_find?_eq_some he, List.find?_some he⟩]; rfl
    · split at hl
      · cases hl
      · rename_i z; rw [Bool.not_eq_true] at z; simp only [z, Bool.and_false]
  dsimp only
  rw [aRefKeyMayBeTheName_at, c]
  refine wpAny_updatePart Dx ?_
  refine wpAny_bind (wpAny_lookBehind D' (by exact pastItsLine_dict (by rw [List.size_toArray, sizeLine_eq]; omega)) ?_)
  exact wpAny_pure (h _ U1 U2)

theorem exc_set1 {Q : Unit → Shared → Prop} {D : Addr} {vs : Array Value} {sl : Array (Option Value)} {es es' : List DictEntry} {n n' : Nat} (F : Fr h₀ L s.heap m) (X₀ : K.In h₀) (N : News h₀ L s.heap ((x, (⟨.ref C, some D, .fields vs, sl⟩ : Obj)) :: (D, dictOf es n) :: news))
    (hs : findIn K (.ref C) "__setattr__" = some (some (.builtin "object.__setattr__"))) (hc : clsIn K C = some cd) (hr : refuseLoop (.ref x) "__setattr__" cd.mro = pure ()) (hm : mroIn K C (.type "object") = some true) (ht : takerIn K C name = some none) (hh : cd.hasDict = true)
    (h1 : x ≠ D) (h2 : ∀ p ∈ news, p.1 ≠ D) (hl : (getL name es).isSome = true)
    (e : (putL name (PyData.keyHash w.params name) (.str name (s.toks + 1)) v es, putN name es n) = (es', n')) (hz : es'.length ≤ 1000)
    (h : ∀ h', Fr h₀ L h' m → News h₀ L h' ((x, (⟨.ref C, some D, .fields vs, sl⟩ : Obj)) :: (D, dictOf es' n') :: news) → Q () { s with heap := h', toks := s.toks + 2 }) :
    wpAny (model prog w) A (setAttr (.ref x) name v) Q E s := by
  have X := X₀.keeps F.keep
  have hx := (N _ (.head _)).1
  have I : InstAt s.heap x ⟨.ref C, some D, .fields vs, sl⟩ C (some (dictOf es n)) := ⟨hx, rfl, rfl, (N _ (.tail _ (.head _))).1⟩
  refine set_plain X I hs (osa_exc (s := { s with toks := s.toks + 1 }) X I hc hr hm ht fun b => ?_)
  refine wpAny_bind (wpAny_pure (wpAny_bind (wpAny_bind (wpAny_loadPart hx (wpAny_bind (Looks.here (s := { s with toks := s.toks + 1 }) (looks_clsIn X hc) ?_))))))
  rw [hh]
  refine wpAny_pure (a := some D) ?_
  exact exc_dict_put (pre := [(x, _)]) (s := { s with toks := s.toks + 1 }) F N (fun p hp => by rw [List.mem_singleton.mp hp]; exact h1) h2 hl e hz fun h' F' N' => h h' F' N'

theorem exc_set0 {Q : Unit → Shared → Prop} {vs : Array Value} {sl : Array (Option Value)} (F : Fr h₀ L s.heap m) (X₀ : K.In h₀) (N : News h₀ L s.heap ((x, (⟨.ref C, none, .fields vs, sl⟩ : Obj)) :: news))
    (hs : findIn K (.ref C) "__setattr__" = some (some (.builtin "object.__setattr__"))) (hc : clsIn K C = some cd) (hr : refuseLoop (.ref x) "__setattr__" cd.mro = pure ()) (hm : mroIn K C (.type "object") = some true) (ht : takerIn K C name = some none) (hh : cd.hasDict = true)
    (h1 : ∀ p ∈ news, p.1 ≠ x)
    (h : ∀ D h', Fr h₀ L h' m → News h₀ L h' ((x, (⟨.ref C, some D, .fields vs, sl⟩ : Obj)) :: (D, dictOf [⟨PyData.keyHash w.params name, .str name (s.toks + 1), v⟩] 1) :: news) → x < D → (∀ p ∈ news, p.1 < D) → Q () { s with heap := h', toks := s.toks + 2 }) :
    wpAny (model prog w) A (setAttr (.ref x) name v) Q E s := by
  have X := X₀.keeps F.keep
  have hx := (N _ (.head _)).1
  have I : InstAt s.heap x ⟨.ref C, none, .fields vs, sl⟩ C none := ⟨hx, rfl, rfl, trivial⟩
  have F1 := F.push emptyDict
  have N1 := N.push F emptyDict
  have lx : x < s.heap.objs.size := Heap.lt_size hx
  have ln : ∀ p ∈ news, p.1 < s.heap.objs.size := fun p hp => Heap.lt_size (N p (.tail _ hp)).1
  obtain ⟨F2, N2⟩ := news_upd (pre := [(s.heap.objs.size, emptyDict)]) (o' := ⟨.ref C, some s.heap.objs.size, .fields vs, sl⟩) (f := fun o => { o with dict := some s.heap.objs.size }) F1 N1
    (fun p hp => by rw [List.mem_singleton.mp hp]; exact Nat.ne_of_gt lx) h1 rfl rfl
  have N3 : News h₀ L ((s.heap.push emptyDict).update x fun o => { o with dict := some s.heap.objs.size }) ([(x, (⟨.ref C, some s.heap.objs.size, .fields vs, sl⟩ : Obj))] ++ (s.heap.objs.size, dictOf [] 0) :: news) := by
    intro p hp
    refine N2 p ?_
    simp only [List.cons_append, List.nil_append, List.mem_cons] at hp ⊢
    rcases hp with hp | hp | hp
    · exact .inr (.inl hp)
    · exact .inl hp
    · exact .inr (.inr hp)
  refine set_plain X I hs (osa_exc (s := { s with toks := s.toks + 1 }) X I hc hr hm ht fun b => ?_)
  refine wpAny_bind (wpAny_pure (wpAny_bind (wpAny_bind (wpAny_loadPart hx (wpAny_bind (Looks.here (s := { s with toks := s.toks + 1 }) (looks_clsIn X hc) ?_))))))
  rw [hh]
  refine wpAny_bind (wpAny_alloc (wpAny_bind (wpAny_update (N1 _ (.tail _ (.head _))).1 ?_)))
  refine wpAny_pure (a := some s.heap.objs.size) ?_
  exact exc_dict_put (pre := [(x, _)]) (es := []) (n := 0) (s := { s with heap := _, toks := s.toks + 1 }) F2 N3 (fun p hp => by rw [List.mem_singleton.mp hp]; exact Nat.ne_of_lt lx) (fun p hp => Nat.ne_of_lt (ln p hp)) rfl rfl (Nat.le_of_ble_eq_true rfl) fun h' F' N' => h _ h' F' N' lx ln
end

end Mine
end
-- X2
section
open PySem PySem.W PyProof.Rows PySem.Calls PySem.Spec Builtin Builtin.ObjectAttr
namespace Mine
section
variable {prog : Program} {w : World} {A : Around} {E : Value → Shared → Prop} {s : Shared} {K : Frag} {x C L : Addr} {h₀ : Heap} {m : Str → Option Value} {news : List (Addr × Obj)} {R : Result → Shared → Prop} {name : Str} {v : Value} {cd : ClassData}
/-- an own attribute is read on an exception of an own class -/
theorem exc_get {expr : Bool} {Q : Value → Shared → Prop} {ox : Obj} {od : Option Obj} (X : K.In s.heap) (I : InstAt s.heap x ox C od)
    (hga : findIn K (.ref C) "__getattribute__" = some (some (.builtin "BaseException.__getattribute__"))) (hk : findIn K (.ref C) "__getattr__" = some none) (hm : mroIn K C (.type "BaseException") = some true)
    (hf : findObj K C od name = some (.value v)) (hh : handedIn v = true) (h : Q v { s with toks := s.toks + 1 }) :
    wpAny (model prog w) A (getAttr (.ref x) name expr) Q E s := by
  obtain ⟨hp, g, d, t, os⟩ := s
  have FX := PySem.F.attr_Exception
  have L0 := I.type (M := model prog w)
  have L1 := looks_findIn (M := model prog w) X hga
  have L2 := looks_findIn (M := model prog w) X hk
  have L3 := looks_find (M := model prog w) X I hf
  have sub : Looks (model prog w) hp (isInstance (.ref x) (.type "BaseException")) true := L0.andThen (looks_mroIn X hm)
  have hx0 : (expr && onTheHeap (Value.builtin "BaseException.__getattribute__")) = false := by cases expr <;> rfl
  have hx2 : (onTheHeap (Value.ref C) && Value.builtin "BaseException.__getattribute__" == Value.builtin "object.__getattribute__") = false := by
    rw [show (Value.builtin "BaseException.__getattribute__" == Value.builtin "object.__getattribute__") = false from by decide +kernel, Bool.and_false]
  unfold getAttr getAttrBy
  refine wpAny_bind (wpAny_mkText (wpAny_holding (wpAny_bind (L0.at (wpAny_bind (L1.at ?_))))))
  dsimp only
  rw [hx2]
  refine wpAny_bind (L2.at ?_)
  refine wpAny_bind (wpAny_attempt (wpAny_holding ?_))
  unfold callGetattribute
  rw [hx0]
  unfold boundAndCalled
  rw [if_neg Bool.false_ne_true, FX.ga.bind]
  refine wpAny_bind (wpAny_pure (wpAny_call ?_))
  refine codeAny_call_builtin FX.ga.plain PySem.F.entry_bexc_ga (@check_slot (model prog w) _ _ _ "BaseException.__getattribute__" "BaseException" "__getattribute__" (.ref x) [.str name t] [] _ (by decide +kernel) (by decide +kernel) sub (PySem.F.args_bexc_ga _ _) ?_)
  refine wpAny_bind (wpAny_pure (wpAny_bind (wpAny_pure (wpAny_bind (L0.at (wpAny_bind (L3.at ?_)))))))
  refine wpAny_pure ?_
  show wpAny _ _ (handedOut v) _ _ _
  rw [handedOut_of hh]; exact wpAny_pure h
end

end Mine
end
-- X3
section
open PySem PySem.W PyProof.Rows PySem.Calls PySem.Spec Builtin Builtin.ObjectAttr
namespace Mine
abbrev excO (C : Addr) (d : Option Addr) (t : Addr) : Obj := ⟨.ref C, d, .fields #[.ref t, .none, .none, .none, .bool false, .none], #[]⟩
section
variable {prog : Program} {w : World} {A : Around} {E : Value → Shared → Prop} {hp : Heap} {g : Array GenState} {d : Drawn} {tk : Nat} {os : OsState} {K : Frag} {x C L t : Addr} {h₀ : Heap} {m : Str → Option Value} {news : List (Addr × Obj)} {R : Result → Shared → Prop} {name : Str} {v : Value} {cd : ClassData}
theorem exc_init {c0 : Value} {d0 : Option Addr} {sl0 : Array (Option Value)} {Q : Value → Shared → Prop} (F : Fr h₀ L hp m) (X₀ : K.In h₀) (N : News h₀ L hp ((x, excO C none t) :: news)) (hC : K.lookup C = some ⟨c0, d0, .cls cd, sl0⟩) (hm : mroIn K C (.type "Exception") = some true) (h1 : ∀ p ∈ news, p.1 ≠ x)
    (h : ∀ t' h', Fr h₀ L h' m → News h₀ L h' ((x, excO C none t') :: news) → Q .none ⟨h', g, d, tk, os⟩) :
    wpAny (model prog w) A (call (.builtin "Exception.__init__") [.ref x, v]) Q E ⟨hp, g, d, tk, os⟩ := by
  have FB := PySem.F.excBase_Exception
  have X : K.In hp := X₀.keeps F.keep
  have hx : hp.get? x = some (excO C none t) := (N _ (.head _)).1
  have hcls : (excO C none t).cls = .ref C := rfl
  have F1 : Fr h₀ L (hp.push { cls := .type "tuple", data := .seq #[v] }) m := F.push _
  have N1 : News h₀ L (hp.push { cls := .type "tuple", data := .seq #[v] }) ((hp.objs.size, { cls := .type "tuple", data := .seq #[v] }) :: (x, excO C none t) :: news) := N.push F _
  obtain ⟨F2, N2⟩ := news_upd (pre := [(hp.objs.size, { cls := .type "tuple", data := .seq #[v] })]) (o' := excO C none hp.objs.size) (f := Obj.mapFields (·.setIfInBounds 0 (.ref hp.objs.size))) F1 N1
    (fun p hp' => by rw [List.mem_singleton.mp hp']; exact Nat.ne_of_gt (Heap.lt_size hx)) h1 rfl rfl
  have sub : Looks (model prog w) hp (isSubtype (.ref C) (.type "Exception")) true := looks_mroIn X hm
  refine wpAny_call (codeAny_call_builtin FB.init.plain FB.initEntry ?_)
  have hshort := FB.noStar
  have hC' : hp.get? C = some ⟨c0, d0, .cls cd, sl0⟩ := X _ _ hC
  simp only [checkBuiltinCall, FB.initKind, FB.initSplit, FB.initRow]
  repeat (first | (with_reducible refine wpAny_loadPart_at hx ?_; rw [hcls]) | (with_reducible refine sub.at ?_) | (with_reducible refine wpAny_load (s := ⟨hp, g, d, tk, os⟩) hC' ?_) | wp_step)
  exact h hp.objs.size _ F2 (News.sub N2 fun p hp => .tail _ hp)
end

end Mine
end
-- X4
section
open PySem PySem.W PyProof.Rows PySem.Calls PySem.Spec Builtin Builtin.ObjectAttr
namespace Mine
section
variable {prog : Program} {w : World} {A : Around} {E : Value → Shared → Prop} {hp : Heap} {g : Array GenState} {d : Drawn} {tk : Nat} {os : OsState} {K : Frag} {x C L t : Addr} {h₀ : Heap} {m : Str → Option Value} {news : List (Addr × Obj)} {R : Result → Shared → Prop} {name : Str} {v : Value} {cd : ClassData}
variable {nm q : Str} {Nn : Addr} {bs bm : List Value} {hdct : Bool} {sn : List Str} {sub : List Value} {ab : Bool} {col : Option Bool} {dd : Option Addr} {k0 k1 k2 k3 k5 : Option Value}
theorem exc_new (hC : hp.get? C = some (excClassObj nm q C Nn bs bm hdct sn sub ab col dd k0 k1 k2 k3 k5 "Exception.__new__"))
    (hB : bm.contains (.type "Exception") = true) (hA : bm.contains (.type "AttributeError") = false) (hN : bm.contains (.type "NameError") = false)
    (hq : R (.ok (.ret (.ref (hp.objs.size + 1)))) ⟨(hp.push { cls := .type "tuple", data := .seq #[v] }).push (excO C none hp.objs.size), g, d, tk, os⟩) :
    codeAny (model prog w) A (.builtin "Exception.__new__" ⟨[.ref C, v], []⟩) R ⟨hp, g, d, tk, os⟩ := by
  have FB := PySem.F.excBase_Exception
  have hends := FB.ends
  have hcB : (Value.ref C :: bm).contains (.type "Exception") = true := by rw [List.contains_cons, hB, Bool.or_true]
  have hcA : (Value.ref C :: bm).contains (.type "AttributeError") = false := by rw [List.contains_cons, hA]; rfl
  have hcN : (Value.ref C :: bm).contains (.type "NameError") = false := by rw [List.contains_cons, hN]; rfl
  refine codeAny_builtinAt FB.entry ?_
  unfold Builtin.«BaseException.__new__»
  refine PySem.wpAt_bind ?_
  show PySem.wpAt _ _ _ (stack >>= _) _ _ _
  refine PySem.wpAt_bind (PySem.wpAt_stack fun p below => PySem.wpAt_of_wpAny ?_)
  wp_walk
  refine PySem.wpAt_of_wpAny ?_
  rw [FB.owner]
  repeat (first | with_reducible refine wpAny_madeHere_exc FB.canon hC ?_ | with_reducible refine wpAny_loadPart_at hC ?_ | (with_reducible refine wpAny_isSubtype_exc hC ?_; first | rw [hcB] | rw [hcA] | rw [hcN]) | wp_step)
  show R _ _
  rw [Heap.size_push]
  exact hq
theorem exc_new_check {Q : Unit → Shared → Prop} (hC : hp.get? C = some (excClassObj nm q C Nn bs bm hdct sn sub ab col dd k0 k1 k2 k3 k5 "Exception.__new__"))
    (hB : bm.contains (.type "Exception") = true) (hq : Q () ⟨hp, g, d, tk, os⟩) : wpAny (model prog w) A (checkBuiltinCall "Exception.__new__" ⟨[.ref C, v], []⟩) Q E ⟨hp, g, d, tk, os⟩ := by
  have FB := PySem.F.excBase_Exception
  have hcont : (Value.ref C :: bm).contains (.type "Exception") = true := by rw [List.contains_cons, hB, Bool.or_true]
  have hstar := FB.noStar
  simp only [checkBuiltinCall, FB.newKind, FB.newSplit, FB.newRow]
  repeat (first | refine wpAny_loadPart_at hC ?_ | (refine wpAny_isSubtype_exc hC ?_; rw [hcont]) | refine wpAny_staticBase_exc hC ?_ | refine wpAny_madeBy_exc hC ?_ | simp only [bne_self_eq_false, Bool.false_eq_true, if_false] | wp_step)
  exact hq
theorem exc_make {fI : Addr} {Q : Value → Shared → Prop} (F : Fr h₀ L hp m) (X₀ : K.In h₀) (N : News h₀ L hp news)
    (hCK : K.lookup C = some (excClassObj nm q C Nn bs bm hdct sn sub ab col dd k0 k1 k2 k3 k5 "Exception.__new__"))
    (hB : bm.contains (.type "Exception") = true) (hA : bm.contains (.type "AttributeError") = false) (hN : bm.contains (.type "NameError") = false)
    (hi : findIn K (.ref C) "__init__" = some (some (.ref fI))) (hf : typeIn K (.ref fI) = some (.type "function"))
    (h : ∀ e t h', Fr h₀ L h' m → News h₀ L h' ((e, excO C none t) :: news) → (∀ p ∈ news, p.1 < e) → hp.get? e = none → (∀ b o, hp.get? b = some o → h'.get? b = some o) →
      wpAny (model prog w) (A.under (.builtin "type.__call__" ⟨[.ref C, v], []⟩)) (call (.ref fI) [.ref e, v]) (fun r s' => r = .none ∧ Q (.ref e) s') E ⟨h', g, d, tk, os⟩) :
    wpAny (model prog w) A (call (.ref C) [v]) Q E ⟨hp, g, d, tk, os⟩ := by
  have FB := PySem.F.excBase_Exception
  have X : K.In hp := X₀.keeps F.keep
  have hC := X _ _ hCK
  have f1 := tc_lookup
  have f2 := tc_bind (.ref C)
  have hT : (⟨hp, g, d, tk, os⟩ : Shared).TypeIs (.ref C) "type" := ⟨_, hC, rfl⟩
  refine wpAny_call (codeAny_of_tree ?_)
  show wpAny _ _ (callAny (.ref C) _) _ _ _
  repeat (any_goals (first | assumption | with_reducible refine wpAny_loadPart_at hC ?_ | wp_step))
  refine ⟨rfl, ?_⟩
  refine codeAny_call_builtin_at (Code.quiet_builtin _ (by decide +kernel)) entry_typeCall (wpAny_check_type_call_sub hC ?_)
  repeat (first | with_reducible refine wpAny_loadPart_at hC ?_ | with_reducible refine wpAny_madeBy_exc hC ?_ | wp_step)
  refine codeAny_call_builtin_code (Code.quiet_builtin _ FB.quiet) (exc_new_check hC hB ?_)
  refine exc_new hC hB hA hN ?_
  show wpAny _ _ _ _ _ _
  have hk : ∀ b o, hp.get? b = some o → ((hp.push { cls := .type "tuple", data := .seq #[v] }).push (excO C none hp.objs.size)).get? b = some o := fun b o e => Heap.get?_push_of_some _ (Heap.get?_push_of_some _ e)
  have hC₁ := hk _ _ hC
  have X₁ : K.In ((hp.push { cls := .type "tuple", data := .seq #[v] }).push (excO C none hp.objs.size)) := X.keeps hk
  have F₁ : Fr h₀ L ((hp.push { cls := .type "tuple", data := .seq #[v] }).push (excO C none hp.objs.size)) m := (F.push _).push _
  have N₁ := (N.push F { cls := .type "tuple", data := .seq #[v] }).push (F.push _) (excO C none hp.objs.size)
  have hget : ((hp.push { cls := .type "tuple", data := .seq #[v] }).push (excO C none hp.objs.size)).get? (hp.objs.size + 1) = some (excO C none hp.objs.size) := by heap_get
  have hcls : (excO C none hp.objs.size).cls = .ref C := rfl
  have hcC : (Value.ref C :: bm).contains (.ref C) = true := by simp
  have Li := looks_findIn (M := model prog w) X₁ hi
  have Lb := bind_fn (M := model prog w) X₁ (.ref (hp.objs.size + 1)) hf
  unfold isInstance
  repeat (first | with_reducible refine wpAny_loadPart_at hget ?_ | (with_reducible refine wpAny_isSubtype_exc hC₁ ?_; rw [hcC]) | wp_step)
  show wpAny _ _ (typeLookup (.ref C) _) _ _ _
  refine Li.at ?_
  refine wpAny_holding (wpAny_bind ?_)
  refine Lb.at ?_
  rw [Heap.size_push] at N₁
  refine wpAny_bind (wpAny_mono (h _ hp.objs.size _ F₁ (News.sub N₁ (l' := (hp.objs.size + 1, excO C none hp.objs.size) :: news) fun p hp => ?_) (fun p hp' => Nat.lt_succ_of_lt (Heap.lt_size (N p hp').1)) (Heap.get?_none_of_le (Nat.le_succ _)) hk) (fun r s' hr => ?_) fun _ _ y => y)
  · rcases List.mem_cons.mp hp with rfl | hp
    · exact .head _
    · exact .tail _ (.tail _ hp)
  · obtain ⟨rfl, hQ⟩ := hr
    wp_walk
    exact hQ
end

end Mine
end
-- X5
section
open PySem PySem.W PyProof.Rows PySem.Calls PySem.Spec
namespace Mine
abbrev frs (l : List Env) : List Addr := l.filterMap (·.frame)
section
variable {M : Model} {A : Around} {E : Value → Shared → Prop} {s : Shared} {base h₁ : Heap} {env : Env} {outer l : List Env} {L e D T : Addr} {c : Value} {dd : Option Addr} {vs : Array Value} {sl : Array (Option Value)} {fs : List Addr} {od : Obj}
theorem frame_data (hl : s.heap.FunFrames base l) {b : Addr} (hb : b ∈ frs l) {o : Obj} (ho : s.heap.get? b = some o) : ∀ vs, o.data ≠ .fields vs := by
  obtain ⟨_, o', ho', hnf⟩ := hl.mem hb
  rw [ho] at ho'; cases ho'; exact hnf
/-- an entry for the frame at hand -/
theorem entry_core {head : Value} {hadNext : Bool} {Q : Unit → Shared → Prop}
    (hfr : A.frames = some (env :: outer)) (hl : s.heap.FunFrames base (env :: outer)) (hf : env.frame = some L)
    (he : s.heap.get? e = some ⟨c, dd, .fields vs, sl⟩) (hsz : 1 < vs.size)
    (h : ∀ h' T oT ts, (∀ b o, s.heap.get? b = some o → b ≠ e → b ∉ frs (env :: outer) → h'.get? b = some o) → (∀ b o, s.heap.get? b = some o → b ∈ frs (env :: outer) → ∃ sl, h'.get? b = some { o with slots := sl }) →
      h'.get? e = some ⟨c, dd, .fields (vs.setIfInBounds 1 (.ref T)), sl⟩ → s.heap.get? T = none → T ≠ e → h'.get? T = some oT → oT.data = .fields ts → ts[3]? = some (rawInt L) → h'.FunFrames base (env :: outer) → Q () { s with heap := h' }) :
    wpAny M A (do let a ← frameOf env; let pl ← entryPlaceOf L hadNext; let b ← EntryCells.newEntry head a .none (rawInt L) .none pl; setField (.ref e) 1 b) Q E s := by
  have nf : ∀ b, b ∈ frs (env :: outer) → b ≠ e := fun b hb q => frame_data hl hb (q ▸ he) vs rfl
  refine wpAny_bind (wpAny_frameOf_fun hfr hl hf fun h₂ hs => ?_)
  refine wpAny_bind (wpAny_entryPlaceOf fun pl hpl => ?_)
  unfold EntryCells.newEntry newFields
  refine wpAny_bind (wpAny_newObj_type ?_ (hpl.sizeOk5 _ _ _ _ _))
  have e2 : h₂.get? e = some ⟨c, dd, .fields vs, sl⟩ := (hs.2.1 e fun q => nf e q rfl).trans he
  have e3 := Heap.get?_push_of_some (h := h₂) { cls := .type "traceback", dict := none, data := .fields ([head, .ref L, .none, rawInt L, .none] ++ (if pl.isEmpty then List.replicate 6 Value.none else pl)).toArray } e2
  refine wpAny_setField e3 rfl hsz ?_
  have ne : h₂.objs.size ≠ e := Nat.ne_of_gt (Heap.lt_size e2)
  have tn : s.heap.get? h₂.objs.size = none := by
    cases q : s.heap.get? h₂.objs.size with
    | none => rfl
    | some o =>
      obtain ⟨sl', z⟩ := hs.2.2 _ o q
      exact absurd (Heap.lt_size z) (Nat.lt_irrefl _)
  have keep : ∀ b o, h₂.get? b = some o → b ≠ e → ((h₂.push { cls := .type "traceback", dict := none, data := .fields ([head, .ref L, .none, rawInt L, .none] ++ (if pl.isEmpty then List.replicate 6 Value.none else pl)).toArray }).update e (Obj.mapFields (·.setIfInBounds 1 (.ref h₂.objs.size)))).get? b = some o := fun b o q n => by
    rw [Heap.get?_update_other _ _ (Ne.symm n)]
    exact Heap.get?_push_of_some _ q
  refine h _ h₂.objs.size { cls := .type "traceback", dict := none, data := .fields ([head, .ref L, .none, rawInt L, .none] ++ (if pl.isEmpty then List.replicate 6 Value.none else pl)).toArray } _ (fun b o q n hb => keep b o ((hs.2.1 b hb).trans q) n) (fun b o q hb => ?_) ?_ tn ne ?_ rfl ?_ (hl.of_keeps fun b o q hnf => ?_)
  · obtain ⟨sl', z⟩ := hs.2.2 b o q
    exact ⟨sl', keep b _ z (nf b hb)⟩
  · exact Heap.get?_update_self _ e3 rfl
  · exact (Heap.get?_update_other _ _ (Ne.symm ne)).trans (Heap.get?_push_size _ rfl)
  · first | (simp; done) | (rcases hpl with rfl | ⟨_, _, _, _, _, _, _, rfl⟩ <;> simp)
  · obtain ⟨sl', z⟩ := hs.2.2 b o q
    exact ⟨_, keep b _ z (fun w => by rw [w, he] at q; cases q; exact hnf vs rfl), rfl⟩

/-- an exception of class 59 on its way -/
structure Flown (base h₁ : Heap) (fs : List Addr) (l : List Env) (e D : Addr) (od : Obj) (fl : Option Value) (h : Heap) : Prop where
  keep : ∀ b o, h₁.get? b = some o → b ∉ fs → h.get? b = some o
  slots : ∀ b o, h₁.get? b = some o → b ∈ fs → ∃ sl, h.get? b = some { o with slots := sl }
  newE : h₁.get? e = none
  newD : h₁.get? D = none
  dict : h.get? D = some od
  noF : ∀ vs, od.data ≠ .fields vs
  sub : ∀ b ∈ frs l, b ∈ fs
  offD : D ∉ fs
  frames : h.FunFrames base l
  exc : ∃ vs, h.get? e = some ⟨.ref 59, some D, .fields vs, #[]⟩ ∧ vs[2]? = some .none ∧ match fl with
    | none => vs[1]? = some .none
    | some f => ∃ T oT ts, vs[1]? = some (.ref T) ∧ h₁.get? T = none ∧ T ≠ e ∧ h.get? T = some oT ∧ oT.data = .fields ts ∧ ts[3]? = some f

theorem update_fields {h : Heap} {T : Addr} {oT : Obj} {ts : Array Value} (hT : h.get? T = some oT) (hd : oT.data = .fields ts) (i : Nat) (v : Value) :
    ∃ oT', (h.update T (Obj.mapFields (·.setIfInBounds i v))).get? T = some oT' ∧ oT'.data = .fields (ts.setIfInBounds i v) ∧ ∀ b, b ≠ T → (h.update T (Obj.mapFields (·.setIfInBounds i v))).get? b = h.get? b :=
  ⟨_, Heap.get?_update_self _ hT (Obj.isFreed_of_fields (Obj.data_mapFields hd _)), Obj.data_mapFields hd _, fun b hb => Heap.get?_update_other _ _ (Ne.symm hb)⟩
/-- the field that says where it is in flight -/
theorem Flown.flag {f f' : Value} {h : Heap} (X : Flown base h₁ fs l e D od (some f) h) {T : Addr} {oT : Obj} {ts vs : Array Value} (he : h.get? e = some ⟨.ref 59, some D, .fields vs, #[]⟩) (hc : vs[2]? = some .none) (hv : vs[1]? = some (.ref T)) (hn : h₁.get? T = none) (hne : T ≠ e) (hT : h.get? T = some oT) (hd : oT.data = .fields ts) (h3 : ts[3]? = some f) :
    Flown base h₁ fs l e D od (some f') (h.update T (Obj.mapFields (·.setIfInBounds 3 f'))) := by
  obtain ⟨oT', a1, a2, a3⟩ := update_fields hT hd 3 f'
  have old : ∀ b o, h₁.get? b = some o → b ≠ T := fun b o q z => by rw [z, hn] at q; cases q
  have nd : D ≠ T := fun z => by have := X.dict; rw [z, hT] at this; cases this; exact X.noF _ hd
  refine ⟨fun b o q hb => (a3 b (old b o q)).trans (X.keep b o q hb), fun b o q hb => ?_, X.newE, X.newD, (a3 D nd).trans X.dict, X.noF, X.sub, X.offD, X.frames.of_keeps fun b o q hnf => ⟨o, (a3 b fun z => by rw [z, hT] at q; cases q; exact hnf _ hd).trans q, rfl⟩, vs, (a3 e (Ne.symm hne)).trans he, hc, T, oT', _, hv, hn, hne, a1, a2, ?_⟩
  · obtain ⟨sl, z⟩ := X.slots b o q hb
    exact ⟨sl, (a3 b (old b o q)).trans z⟩
  · have : 3 < ts.size := (Array.getElem?_eq_some_iff.mp h3).1
    simp [this]
theorem flown_land {f : Value} {Q : Unit → Shared → Prop} (X : Flown base h₁ fs l e D od (some f) s.heap) (h : ∀ h', Flown base h₁ fs l e D od (some .none) h' → Q () { s with heap := h' }) : wpAny M A (setFlight (.ref e) none) Q E s := by
  obtain ⟨vs, he, hc, T, oT, ts, hv, hn, hne, hT, hd, h3⟩ := X.exc
  unfold setFlight
  refine wpAny_bind (wpAny_field he rfl hv ?_)
  rw [if_pos (show (Value.ref T != Value.none) = true from by simp)]
  exact wpAny_setField hT hd (Array.getElem?_eq_some_iff.mp h3).1 (h _ (X.flag he hc hv hn hne hT hd h3))
theorem flown_note {fl : Option Value} {Q : Unit → Shared → Prop} (hfl : fl = none ∨ fl = some .none) (hfr : A.frames = some (env :: outer)) (hf : env.frame = some L) (X : Flown base h₁ fs (env :: outer) e D od fl s.heap)
    (h : ∀ h', Flown base h₁ fs (env :: outer) e D od (some (rawInt L)) h' → Q () { s with heap := h' }) : wpAny M A (noteFrame (.ref e) env) Q E s := by
  have core : ∀ {h₂ : Heap} {vs : Array Value} {head : Value} {hadNext : Bool}, h₂.FunFrames base (env :: outer) → (∀ b o, h₁.get? b = some o → b ∉ fs → h₂.get? b = some o) → (∀ b o, h₁.get? b = some o → b ∈ fs → ∃ sl, h₂.get? b = some { o with slots := sl }) → h₂.get? D = some od →
      h₂.get? e = some ⟨.ref 59, some D, .fields vs, #[]⟩ → vs[2]? = some .none → 1 < vs.size → (∀ b o, h₁.get? b = some o → h₂.get? b ≠ none) →
      wpAny M A (do let a ← frameOf env; let pl ← entryPlaceOf L hadNext; let b ← EntryCells.newEntry head a .none (rawInt L) .none pl; setField (.ref e) 1 b) Q E { s with heap := h₂ } := by
    intro h₂ vs head hadNext FF k1 k2 k3 he hc hsz k4
    refine entry_core hfr FF hf he hsz fun h' T oT ts b1 b2 b3 b4 b5 b6 b7 b8 b9 => h h' ⟨fun b o q hb => ?_, fun b o q hb => ?_, X.newE, X.newD, ?_, X.noF, X.sub, X.offD, b9, _, b3, by simp [hc], T, oT, ts, by simp [hsz], ?_, b5, b6, b7, b8⟩
    · exact b1 b o (k1 b o q hb) (fun z => by rw [z, X.newE] at q; cases q) fun z => hb (X.sub b z)
    · obtain ⟨sl, z⟩ := k2 b o q hb
      by_cases m : b ∈ frs (env :: outer)
      · exact b2 b { o with slots := sl } z m
      · exact ⟨sl, b1 b { o with slots := sl } z (fun w => by rw [w, X.newE] at q; cases q) m⟩
    · exact b1 D od k3 (fun z => by rw [z, he] at k3; cases k3; exact X.noF _ rfl) fun z => X.offD (X.sub D z)
    · cases q : h₁.get? T with
      | none => rfl
      | some o => exact absurd b4 (k4 T o q)
  have here : ∀ b o, h₁.get? b = some o → s.heap.get? b ≠ none := fun b o q => by
    by_cases m : b ∈ fs
    · obtain ⟨sl, z⟩ := X.slots b o q m; rw [z]; exact fun w => nomatch w
    · rw [X.keep b o q m]; exact fun w => nomatch w
  unfold noteFrame
  simp only [hf]
  obtain ⟨vs, he, hc, hx⟩ := X.exc
  rcases hfl with rfl | rfl
  · refine wpAny_bind (wpAny_field he rfl hx ?_)
    rw [if_neg (by decide)]
    exact core X.frames X.keep X.slots X.dict he hc (Array.getElem?_eq_some_iff.mp hx).1 here
  · obtain ⟨T, oT, ts, hv, hn, hne, hT, hd, h3⟩ := hx
    refine wpAny_bind (wpAny_field he rfl hv ?_)
    rw [if_pos (show (Value.ref T != Value.none) = true from by simp)]
    refine wpAny_bind (wpAny_field hT hd h3 ?_)
    rw [if_neg (show ¬ ((Value.none == rawInt L) = true) from by simp [rawInt])]
    refine wpAny_bind (wpAny_setField hT hd (Array.getElem?_eq_some_iff.mp h3).1 ?_)
    have Y := X.flag (f' := .none) he hc hv hn hne hT hd h3
    obtain ⟨_, _, _, a3⟩ := update_fields hT hd 3 Value.none
    exact core Y.frames Y.keep Y.slots Y.dict ((a3 e (Ne.symm hne)).trans he) hc (Array.getElem?_eq_some_iff.mp hv).1 fun b o q => by rw [a3 b fun z => by rw [z, hn] at q; cases q]; exact here b o q
theorem Flown.pop {h : Heap} {fl : Option Value} (X : Flown base h₁ fs (env :: outer) e D od fl h) : Flown base h₁ fs outer e D od fl h :=
  ⟨X.keep, X.slots, X.newE, X.newD, X.dict, X.noF, fun b hb => X.sub b (by
    unfold frs at hb ⊢
    obtain ⟨x, hx, hf⟩ := List.mem_filterMap.mp hb
    exact List.mem_filterMap.mpr ⟨x, .tail _ hx, hf⟩), X.offD, X.frames.2.2, X.exc⟩
theorem flown_leave {fl : Option Value} {Q : Unit → Shared → Prop} (hfl : fl = none ∨ fl = some .none) (hfr : A.frames = some (env :: outer)) (hf : env.frame = some L) (X : Flown base h₁ fs (env :: outer) e D od fl s.heap)
    (h : ∀ h', Flown base h₁ fs outer e D od (some .none) h' → Q () { s with heap := h' }) : wpAny M A (leaving env (.ref e)) Q E s := by
  unfold leaving
  exact wpAny_bind (flown_note hfl hfr hf X fun h' Y => flown_land (s := { s with heap := h' }) Y fun h'' Z => h h'' Z.pop)
end

end Mine
end
-- XBack
section
open PySem PySem.W PyProof.Rows PySem.Calls PySem.Spec
namespace Mine
theorem backE {h₀ h g h' : Heap} {L L' e : Addr} {o o' : Obj} {m' : Str → Option Value} {news l tl : List (Addr × Obj)} {gg : Obj → List (Addr × Obj)}
    (N : News h₀ L h news) (U : UpdF e o news gg) (hK : Kept h [e] g) (Fe : Fr g L' h' m') (Ne : News g L' h' l) (kN : News h₀ L h' l)
    (hs : ∀ p ∈ (e, o') :: tl, p ∈ l) (hx : ∀ p ∈ tl, p.1 ≠ e) : News h₀ L h' (gg o' ++ tl) ∧ Fresh h tl := by
  obtain ⟨pre, post, rfl, hg, h1, h2⟩ := U.split
  refine ⟨?_, fun p hp => ?_⟩
  · rw [hg]
    refine after (mods := [(e, o)]) N (hK.trans Fe.keep) kN fun p hp => ?_
    simp only [List.mem_append, List.mem_cons] at hp
    rcases hp with (hp | hp | hp) | hp
    · exact .inr ⟨by simp [hp], by simpa using h1 p hp⟩
    · exact .inl (hs p (hp ▸ .head _))
    · exact .inr ⟨by simp [hp], by simpa using h2 p hp⟩
    · exact .inl (hs p (.tail _ hp))
  · cases q : h.get? p.1 with
    | none => rfl
    | some ob =>
      have z := hK _ _ q (by simpa using hx p hp)
      have := (Ne p (hs p (.tail _ hp))).2.2
      rw [z] at this; cases this

end Mine
end
-- S17
section
open PySem PySem.W PyProof.Rows PySem.Calls PySem.Spec
namespace Mine
local macro_rules | `(tactic| walk_at "call builtin:Exception.__init__") => `(tactic| (k_here; k_dflt (refine' exc_init ?k1 ?k2 ?k3 ?k4 ?k5 ?k6 ?_; (case k1 => k_asm); (case k2 => k_asm); (case k3 => k_asm); (case k4 => k_is); (case k5 => k_is); (case k6 => k_all)); intro t' h' F' N'; (try k_sweep)))
theorem meta_exc : typeOf (.type "Exception") = pure (.type "type") := by kernel_rfl
local macro_rules | `(tactic| walk_at "getMethod type:Exception") => `(tactic| (k_here; refine' method_type ?F ?X ?m (by decide +kernel) ?e ?h ?_; (case F => k_asm); (case X => k_asm); (case m => exact meta_exc); (case e => k_dflt k_is); (case h => k_handed)))
theorem refuse59 (x : Value) : refuseLoop x "__setattr__" [.ref 59, .ref 39, .type "Exception", .type "BaseException", .type "object"] = pure () := by
  rw [refuseLoop_ref, refuseLoop_ref]; exact PySem.F.store_Exception.passes x
local macro_rules | `(tactic| walk_at "setAttr ref") => `(tactic| (k_here; k_dflt (refine' exc_set0 ?k1 ?k2 ?k3 ?k4 ?k5 ?k6 ?k7 ?k8 ?k9 ?k10 ?_; (case k1 => k_asm); (case k2 => k_asm); (case k3 => k_asm); (case k4 => k_is); (case k5 => k_is); (case k6 => exact refuse59 _); (case k7 => k_is); (case k8 => k_is); (case k9 => exact rfl); (case k10 => k_all)); intro D' h' F' N' l1' l2'; (try k_lt2 l1'); (try k_lt l2'); (try k_sweep)))
section
variable {w : World} {vw : Program} {lo : List Str} {mean : ExcName → Option Value} {mg mb : Str → Option Value} {A₀ A : Around} {base h₀ : Heap} {env : Env} {outer : List Env} {L : Addr} {m : Str → Option Value} {s : Shared} {Q E : Value → Shared → Prop} {news : List (Addr × Obj)}
  {x dx : Addr} {txt : Str} {t1 t3 t4 t5 : Tok} {i gn dn : Int} {h1 h2 h3 h4 h5 h6 h7 : Int} {k1 k2 k3 k4 k5 k6 k7 : Tok} {v2 v4 v5 v6 v7 : Value}
theorem init36 {e t : Addr} {v : Value} {gg : Obj → List (Addr × Obj)}
  (B : Below A₀ base outer h₀) (F : Fr h₀ L s.heap m) (X : (pre.heap_1 w.params).In h₀) (N : News h₀ L s.heap news) (T : Top vw lo mean mg mb h₀) (hA : A.frames = some (env :: outer)) (hf : env.frame = some L) (hke : env.scope.kind = .function) (hh : A.handled = none)
  (hdp : A.depth + 1 < recursionLimit)
  (m1 : (e, excO 59 none t) ∈ news) (U : UpdF e (excO 59 none t) news gg)
  (hret : ∀ D t' k u h' tk', Fr h₀ L h' m → News h₀ L h' (gg (excO 59 (some D) t') ++ [(D, dictOf [⟨k, .str (Str.ofString "text") u, v⟩] 1)]) → Off [(D, dictOf [⟨k, .str (Str.ofString "text") u, v⟩] 1)] news → s.heap.get? D = none → Q .none { s with heap := h', toks := tk' }) :
  wpAny (model PySem.Challenge.rw_qz0116_01.row.toRowW.1 w) A (call (.ref 36) [.ref e, v]) Q E s := by
  refine wpAny_call ?_
  have hin : ∀ p ∈ [(e, excO 59 none t)], p ∈ news := by
    intro p hp
    rw [List.mem_singleton.mp hp]; exact m1
  have N2 := News.sub N hin
  (k_dflt (refine' enterS B F X N2 T ?kA hf hke ?k6 ?k7 ?k8 ?k9 ?kB ?_ ?c2 ?c3 ?c4 ?c5; (case kA => exact hA); (case k6 => k_is); (case k7 => k_is); (case k8 => (first | assumption | exact room_d (by assumption) | exact room_f (by assumption) (by decide) | exact room_a (by assumption) (by decide) | exact room_b (by assumption) (by decide) | exact room_c (by assumption) (by decide) | exact room_e (by assumption) (by decide) | omega | (simp only [depth_deeper] at *; omega))); (case k9 => exact BindsTo.of_eq rfl); (case c5 => decide); (case kB => exact locs rfl); (case c2 => exact rfl); (case c3 => exact rfl); (case c4 => exact rfl)))
  intro g L' hq FG F' N' B' X' T' l1 hK hS hL
  (try k_lt l1)
  (try dsimp only); (try k_fold)
  k_steps
  rename Fr g L' _ _ => Fe
  rename News g L' _ _ => Ne
  rename Fr h₀ L _ m => kF
  rename News h₀ L _ (_ :: _) => kN
  obtain ⟨z1, z2⟩ := backE (tl := [(_, dictOf [_] 1)]) N U hK Fe Ne kN (by kcj_in) (by k_all)
  exact hret _ _ _ _ _ _ kF z1 (off_of_fresh N z2) (z2 _ (.head _))
end
local macro_rules | `(tactic| walk_at "setAttr ref") => `(tactic| (k_here; k_dflt (refine' exc_set1 ?k1 ?k2 ?k3 ?k4 ?k5 ?k6 ?k7 ?k8 ?k9 ?k10 ?k11 ?k12 ?k13 ?k14 ?_; (case k1 => k_asm); (case k2 => k_asm); (case k3 => k_asm); (case k4 => k_is); (case k5 => k_is); (case k6 => exact refuse59 _); (case k7 => k_is); (case k8 => k_is); (case k9 => exact rfl); (case k10 => exact Ne.symm (off_ne (by assumption) (by k_mem) _ (.head _))); (case k11 => (intro p hp; cases hp)); (case k12 => exact rfl); (case k13 => k_put); (case k14 => exact Nat.le_of_ble_eq_true rfl)); intro h' F' N'; (try k_sweep)))
section
variable {w : World} {vw : Program} {lo : List Str} {mean : ExcName → Option Value} {mg mb : Str → Option Value} {A₀ A : Around} {base h₀ : Heap} {env : Env} {outer : List Env} {L : Addr} {m : Str → Option Value} {s : Shared} {Q E : Value → Shared → Prop} {news : List (Addr × Obj)}
  {x dx : Addr} {txt : Str} {t1 t3 t4 t5 : Tok} {i gn dn : Int} {h1 h2 h3 h4 h5 h6 h7 : Int} {k1 k2 k3 k4 k5 k6 k7 : Tok} {v2 v4 v5 v6 v7 : Value}
theorem init59 {e t : Addr} {v : Value} {gg : Obj → List (Addr × Obj)}
  (B : Below A₀ base outer h₀) (F : Fr h₀ L s.heap m) (X : (pre.heap_1 w.params).In h₀) (N : News h₀ L s.heap news) (T : Top vw lo mean mg mb h₀) (hA : A.frames = some (env :: outer)) (hf : env.frame = some L) (hke : env.scope.kind = .function) (hh : A.handled = none)
  (hdp : A.depth + 2 < recursionLimit)
  (m1 : (e, excO 59 none t) ∈ news) (U : UpdF e (excO 59 none t) news gg)
  (hret : ∀ D t' k u v1 k2 u2 h' tk', Fr h₀ L h' m → News h₀ L h' (gg (excO 59 (some D) t') ++ [(D, dictOf [⟨k, .str (Str.ofString "text") u, v1⟩, ⟨k2, .str (Str.ofString "value") u2, v⟩] 2)]) → s.heap.get? D = none → Q .none { s with heap := h', toks := tk' }) :
  wpAny (model PySem.Challenge.rw_qz0116_01.row.toRowW.1 w) A (call (.ref 56) [.ref e, v]) Q E s := by
  refine wpAny_call ?_
  have hin : ∀ p ∈ [(e, excO 59 none t)], p ∈ news := by
    intro p hp
    rw [List.mem_singleton.mp hp]; exact m1
  have N2 := News.sub N hin
  (k_dflt (refine' enterS B F X N2 T ?kA hf hke ?k6 ?k7 ?k8 ?k9 ?kB ?_ ?c2 ?c3 ?c4 ?c5; (case kA => exact hA); (case k6 => k_is); (case k7 => k_is); (case k8 => (first | assumption | exact room_d (by assumption) | exact room_f (by assumption) (by decide) | exact room_a (by assumption) (by decide) | exact room_b (by assumption) (by decide) | exact room_c (by assumption) (by decide) | exact room_e (by assumption) (by decide) | omega | (simp only [depth_deeper] at *; omega))); (case k9 => exact BindsTo.of_eq rfl); (case c5 => decide); (case kB => exact locs rfl); (case c2 => exact rfl); (case c3 => exact rfl); (case c4 => exact rfl)))
  intro g L' hq FG F' N' B' X' T' l1 hK hS hL
  (try k_lt l1)
  (try dsimp only); (try k_fold)
  (repeat' (first | ((with_reducible show wpAny _ _ (call (Value.ref 36) _) _ _ _); k_here; k_dflt (apply init36; (case F => k_asm); (case B => k_asm); (case X => k_asm); (case N => k_asm); (case T => k_asm); (case hA => first | exact Around.frames_deeper (Below.stack (by k_asm)) | assumption); (case hf => first | exact rfl | assumption); (case hke => first | exact rfl | assumption); (case hh => assumption); (case hdp => (first | assumption | exact room_d (by assumption) | exact room_f (by assumption) (by decide) | exact room_a (by assumption) (by decide) | exact room_b (by assumption) (by decide) | exact room_c (by assumption) (by decide) | exact room_e (by assumption) (by decide) | omega | (simp only [depth_deeper] at *; omega))); (case m1 => k_mem); (case U => k_updF)); intro D' t' k' u' h' tk' F' N' O' Z'; (try simp only [List.cons_append, List.nil_append] at N'); (try k_sweep)) | (k_unfold; (try dsimp only)) | (k_end; wrow_close) | walk1 | (dsimp only; walk1) | (leave1; walk_say "STEP leave1"; try dsimp only) | fail "no step"))
  rename Fr g L' _ _ => Fe
  rename News g L' _ _ => Ne
  rename Fr h₀ L _ m => kF
  rename News h₀ L _ (_ :: _) => kN
  rename Off _ _ => O1
  obtain ⟨z1, z2⟩ := backE (tl := [(_, dictOf [_, _] 2)]) N U hK Fe Ne kN (by kcj_in) (fun p hp => by rw [List.mem_singleton.mp hp]; exact O1 _ (.head _) _ (.head _))
  exact hret _ _ _ _ _ _ _ _ _ kF z1 (z2 _ (.head _))
end

end Mine
end
-- S18
section
open PySem PySem.W PyProof.Rows PySem.Calls PySem.Spec
namespace Mine
theorem frames_tc (A : Around) (args : Args) : (A.under (.builtin "type.__call__" args)).frames = A.frames := by
  cases A; rfl
section
variable {w : World} {vw : Program} {lo : List Str} {mean : ExcName → Option Value} {mg mb : Str → Option Value} {A₀ A : Around} {base h₀ : Heap} {env : Env} {outer : List Env} {L : Addr} {m : Str → Option Value} {s : Shared} {Q E : Value → Shared → Prop} {news : List (Addr × Obj)}
  {x dx : Addr} {txt : Str} {t1 t3 t4 t5 : Tok} {i gn dn : Int} {h1 h2 h3 h4 h5 h6 h7 : Int} {k1 k2 k3 k4 k5 k6 k7 : Tok} {v2 v4 v5 v6 v7 : Value}
theorem die_spec {v : Value}
  (B : Below A₀ base outer h₀) (F : Fr h₀ L s.heap m) (X : (pre.heap_1 w.params).In h₀) (N : News h₀ L s.heap news) (T : Top vw lo mean mg mb h₀) (hA : A.frames = some (env :: outer)) (hf : env.frame = some L) (hke : env.scope.kind = .function) (hh : A.handled = none)
  (hdp : A.depth + 3 < recursionLimit)
  (hret : ∀ e D t' k u v1 k2 u2 h' tk', Fr h₀ L h' m → News h₀ L h' ((e, excO 59 (some D) t') :: (news ++ [(D, dictOf [⟨k, .str (Str.ofString "text") u, v1⟩, ⟨k2, .str (Str.ofString "value") u2, v⟩] 2)])) → (∀ p ∈ news, p.1 ≠ e) → (∀ p ∈ news, p.1 ≠ D) → Q (.ref e) { s with heap := h', toks := tk' }) :
  wpAny (model PySem.Challenge.rw_qz0116_01.row.toRowW.1 w) A (call (.ref 59) [v]) Q E s := by
  obtain ⟨hp, g, d, tk, os⟩ := s
  k_dflt (refine' exc_make (fI := 56) F X N ?c ?d1 ?d2 ?d3 ?c2 ?c3 ?_; (case c => k_is); (case c2 => k_is); (case c3 => k_is); (case d1 => decide +kernel); (case d2 => decide +kernel); (case d3 => decide +kernel))
  intro e t h' F' N' l' fe ke
  have hne : ∀ p ∈ news, p.1 ≠ e := fun p hp => Nat.ne_of_lt (l' p hp)
  refine init59 (A := A.under _) B F' X N' T ((frames_tc _ _).trans hA) hf hke hh (by rw [depth_under_make]; omega) (.head _) (.head hne) fun D t' k u v1 k2 u2 h'' tk' F'' N'' Z'' => ⟨rfl, ?_⟩
  refine hret _ _ _ _ _ _ _ _ _ _ F'' N'' hne fun p hp q => ?_
  have := (N' p (.tail _ hp)).1
  rw [q, show h'.get? D = none from Z''] at this; cases this
end

end Mine
end
-- X6
section
open PySem PySem.W PyProof.Rows PySem.Calls PySem.Spec
namespace Mine
/-- what stands behind the making of an exception that is raised -/
def RaiseRest (E : Value → Shared → Prop) (v : Value) (s₁ : Shared) : Prop := ∃ e t d nm q Nn bs hdct sn sub ab col dd k0 k1 k2 k3 k5, v = .ref e ∧
  s₁.heap.get? 59 = some (excClassObj nm q 59 Nn bs [.ref 39, .type "Exception", .type "BaseException", .type "object"] hdct sn sub ab col dd k0 k1 k2 k3 k5 "Exception.__new__") ∧ s₁.heap.get? e = some (excO 59 (some d) t) ∧ E (.ref e) s₁
section
variable {M : Model} {A : Around} {E : Value → Shared → Prop} {s : Shared} {env : Env} {x : Expr} {pos : Pos} {Q : Flow → Shared → Prop}
theorem Raise_exc (hh : A.handled = none) (h : wpAny M A (eval x env) (RaiseRest E) E s) : wpAny M A (exec (.Raise (some x) none pos) env) Q E s := by
  have hcB : ([Value.ref 59, .ref 39, .type "Exception", .type "BaseException", .type "object"]).contains (.type "BaseException") = true := by decide +kernel
  rw [arm_exec_Raise]
  simp only [evalOpt, Option.map]
  refine wpAny_bind (wpAny_standAt ?_)
  unfold raiseStmt
  refine wpAny_bind (wpAny_bind (wpAny_mono h (fun v s₁ h₁ => ?_) fun _ _ x => x))
  refine wpAny_bind (wpAny_standAt (wpAny_pure ?_))
  obtain ⟨e, t, d, nm, q, Nn, bs, hdct, sn, sub, ab, col, dd, k0, k1, k2, k3, k5, rfl, hC, he, hE⟩ := h₁
  obtain ⟨hp, g, dr, tk, os⟩ := s₁
  repeat (first | with_reducible refine wpAny_loadPart_at he ?_ | with_reducible refine wpAny_loadPart_at hC ?_ | (with_reducible refine wpAny_isSubtype_exc hC ?_; rw [hcB]) | wp_step)
  exact wpAny_raiseNew_none hh hE
end
theorem RaiseRest.intro {K : Frag} {h₀ : Heap} {L e t d : Addr} {m : Str → Option Value} {news : List (Addr × Obj)} {E : Value → Shared → Prop} {s : Shared} {nm q : Str} {Nn : Addr} {bs : List Value} {hdct : Bool} {sn : List Str} {sub : List Value} {ab : Bool} {col : Option Bool} {dd : Option Addr} {k0 k1 k2 k3 k5 : Option Value}
    (F : Fr h₀ L s.heap m) (X : K.In h₀) (N : News h₀ L s.heap news) (hC : K.lookup 59 = some (excClassObj nm q 59 Nn bs [.ref 39, .type "Exception", .type "BaseException", .type "object"] hdct sn sub ab col dd k0 k1 k2 k3 k5 "Exception.__new__"))
    (hm : (e, excO 59 (some d) t) ∈ news) (h : E (.ref e) s) : RaiseRest E (.ref e) s :=
  ⟨e, t, d, _, _, _, _, _, _, _, _, _, _, _, _, _, _, _, rfl, X.keeps F.keep _ _ hC, (N _ hm).1, h⟩

end Mine
end
-- X7
section
open PySem PySem.W PyProof.Rows PySem.Calls PySem.Spec
namespace Mine
section
variable {A A₀ : Around} {base h₀ h g hr : Heap} {env : Env} {outer : List Env} {L L' e D t a : Addr} {m m' : Str → Option Value} {news mods l : List (Addr × Obj)} {od : Obj} {name : Str} {scope : Scope} {cd : Value}
theorem flown_born (N : News h₀ L h news) (hin : ∀ p ∈ mods, p ∈ news) (hK : Kept h (mods.map (·.1)) g) (B' : Below A base (env :: outer) g) (Fe : Fr g L' hr m') (Ne : News g L' hr l)
    (hm : ∀ p ∈ mods, p ∈ l) (he : (e, excO 59 (some D) t) ∈ l) (hD : (D, od) ∈ l) (o1 : ∀ p ∈ mods, p.1 ≠ e) (o2 : ∀ p ∈ mods, p.1 ≠ D) (hnf : ∀ vs, od.data ≠ .fields vs) (hk : scope.kind = .function) :
    Flown base h (frs (envOf name scope L' a cd :: env :: outer)) (envOf name scope L' a cd :: env :: outer) e D od none hr := by
  have FF := (B'.push (name := name) (scope := scope) (a := a) (cd := cd) Fe hk).frames
  have all : ∀ b o, h.get? b = some o → hr.get? b = some o := fun b o q => by
    by_cases c : b ∈ mods.map (·.1)
    · obtain ⟨p, hp, rfl⟩ := List.mem_map.mp c
      have z := (N p (hin p hp)).1
      rw [q] at z; cases z
      exact (Ne p (hm p hp)).1
    · exact Fe.keep _ _ (hK _ _ q c)
  have fresh : ∀ x o, (x, o) ∈ l → (∀ p ∈ mods, p.1 ≠ x) → h.get? x = none := fun x o hx off => by
    cases q : h.get? x with
    | none => rfl
    | some o' =>
      have z := hK _ _ q (fun c => by
        obtain ⟨p, hp, e⟩ := List.mem_map.mp c
        exact off p hp e)
      have := (Ne _ hx).2.2
      rw [show g.get? x = none from this] at z; cases z
  refine ⟨fun b o q _ => all b o q, fun b o q _ => ⟨o.slots, all b o q⟩, fresh e _ he o1, fresh D _ hD o2, (Ne _ hD).1, hnf, fun b hb => hb, fun hb => ?_, FF, _, (Ne _ he).1, rfl, rfl⟩
  have hb' : D = L' ∨ D ∈ frs (env :: outer) := List.mem_cons.mp hb
  rcases hb' with q | q
  · exact (Ne _ hD).2.1 q
  · obtain ⟨_, o, ho, _⟩ := B'.frames.mem q
    have := (Ne _ hD).2.2
    rw [show g.get? D = some o from ho] at this; cases this
theorem Flown.narrow {h' : Heap} {fl : Option Value} (X : Flown base h (frs (envOf name scope L' a cd :: env :: outer)) (env :: outer) e D od fl h') (hL : h.get? L' = none) : Flown base h (frs (env :: outer)) (env :: outer) e D od fl h' := by
  have key : ∀ b, b ∈ frs (envOf name scope L' a cd :: env :: outer) → b = L' ∨ b ∈ frs (env :: outer) := fun b hb => List.mem_cons.mp hb
  refine ⟨fun b o q n => X.keep b o q fun hb => ?_, fun b o q hb => X.slots b o q (List.mem_cons_of_mem _ hb), X.newE, X.newD, X.dict, X.noF, fun b hb => hb, fun hb => X.offD (List.mem_cons_of_mem _ hb), X.frames, X.exc⟩
  rcases key b hb with r | r
  · rw [r, hL] at q; cases q
  · exact n r
/-- seen from the frame below -/
theorem Flown.below {h1 h' : Heap} {fl : Option Value} {fs : List Addr} {l : List Env} (X : Flown base h1 fs l e D od fl h') (hk : ∀ b o, h.get? b = some o → h1.get? b = some o) : Flown base h fs l e D od fl h' := by
  have no : ∀ b, h1.get? b = none → h.get? b = none := fun b hb => by
    cases q : h.get? b with
    | none => rfl
    | some o => have := hk b o q; rw [hb] at this; cases this
  obtain ⟨vs, he, hc, hx⟩ := X.exc
  refine ⟨fun b o q n => X.keep b o (hk b o q) n, fun b o q n => X.slots b o (hk b o q) n, no e X.newE, no D X.newD, X.dict, X.noF, X.sub, X.offD, X.frames, vs, he, hc, ?_⟩
  cases fl with
  | none => exact hx
  | some f =>
    obtain ⟨T, oT, ts, a1, a2, a3⟩ := hx
    exact ⟨T, oT, ts, a1, no T a2, a3⟩
end

end Mine
end
-- S19
section
open PySem PySem.W PyProof.Rows PySem.Calls PySem.Spec
namespace Mine
abbrev runO (r1 r2 r3 r4 r5 r6 r7 r8 r9 r10 r11 r12 r13 r14 r15 r16 r17 r18 r19 : Int) (q1 q2 q3 q4 q5 q6 q7 q8 q9 q10 q11 q12 q13 q14 q15 q16 q17 q18 q19 : Tok) (v1 v2 v3 v4 v5 v6 v7 v8 v9 v10 v11 v12 v13 v14 v15 v16 v17 v18 v19 : Value) : Obj := dictOf [⟨r1, .str (Str.ofString "heap") q1, v1⟩, ⟨r2, .str (Str.ofString "counter") q2, v2⟩, ⟨r3, .str (Str.ofString "stash") q3, v3⟩, ⟨r4, .str (Str.ofString "limits") q4, v4⟩, ⟨r5, .str (Str.ofString "nodes") q5, v5⟩, ⟨r6, .str (Str.ofString "lvs") q6, v6⟩, ⟨r7, .str (Str.ofString "statements") q7, v7⟩, ⟨r8, .str (Str.ofString "funcs") q8, v8⟩, ⟨r9, .str (Str.ofString "operators") q9, v9⟩, ⟨r10, .str (Str.ofString "out") q10, v10⟩, ⟨r11, .str (Str.ofString "err") q11, v11⟩, ⟨r12, .str (Str.ofString "saves") q12, v12⟩, ⟨r13, .str (Str.ofString "frames") q13, v13⟩, ⟨r14, .str (Str.ofString "match") q14, v14⟩, ⟨r15, .str (Str.ofString "patterns") q15, v15⟩, ⟨r16, .str (Str.ofString "steps") q16, v16⟩, ⟨r17, .str (Str.ofString "methods") q17, v17⟩, ⟨r18, .str (Str.ofString "call_code") q18, v18⟩, ⟨r19, .str (Str.ofString "compile_text") q19, v19⟩] 19
abbrev cfO (c1 c2 c3 c4 c5 c6 c7 c8 c9 : Int) (z1 z2 z3 z4 z5 z6 z7 z8 z9 : Tok) (v1 v2 v3 v4 v5 v6 v7 v8 v9 : Value) : Obj := dictOf [⟨c1, .str (Str.ofString "pad") z1, v1⟩, ⟨c2, .str (Str.ofString "args") z2, v2⟩, ⟨c3, .str (Str.ofString "want") z3, v3⟩, ⟨c4, .str (Str.ofString "code") z4, v4⟩, ⟨c5, .str (Str.ofString "package") z5, v5⟩, ⟨c6, .str (Str.ofString "line") z6, v6⟩, ⟨c7, .str (Str.ofString "piled") z7, v7⟩, ⟨c8, .str (Str.ofString "weights") z8, v8⟩, ⟨c9, .str (Str.ofString "known") z9, v9⟩] 9
local macro_rules | `(tactic| walk_at "compareOp Eq ref ref") => `(tactic| (k_here; refine cmp_ofEq ?_; refine' PySem.SeqAt.RcAt.lists_lengths ?l1 ?l2 ?sz ?u _ _ _ _ ?_; (case l1 => exact News.isList (by k_asm) (by k_mem)); (case l2 => exact News.isList (by k_asm) (by k_mem)); (case sz => exact rfl); (case u => (first | exact uni_a (by assumption) (by decide) | exact room_f (by assumption) (by decide) | ((simp only [units_deeper, units_in1]); omega)))))
theorem min_here {prog : Program} {w : World} {A : Around} {E : Value → Shared → Prop} {s : Shared} {h₀ : Heap} {L : Addr} {m : Str → Option Value} {news : List (Addr × Obj)} {a b : Int} {t u : Tok} {Q : Value → Shared → Prop} (hh : A.handled = none) (F : Fr h₀ L s.heap m) (N : News h₀ L s.heap news)
    (h : ∀ h' tk tm, Fr h₀ L h' m → News h₀ L h' news → Q (.int (min a b) tm) { s with heap := h', toks := tk }) :
    wpAny (model prog w) A (call (.builtin "min") [.int a t, .int b u]) Q E s :=
  min_two_N hh F N fun h' tk F' N' => by
    have := h h' tk (if b < a then u else t) F' N'
    have e : (if b < a then b else a) = min a b := by split <;> omega
    rw [e]; exact this
local macro_rules | `(tactic| walk_at "call builtin:min") => `(tactic| (k_here; (with_reducible show wpAny _ _ (call _ [Value.int _ _, Value.int _ _]) _ _ _); refine' min_here ?k1 ?k2 ?k3 ?_; (case k1 => assumption); (case k2 => k_asm); (case k3 => k_asm); intro h' tk' tm' F' N'; (try k_sweep)))
section
variable {w : World} {vw : Program} {lo : List Str} {mean : ExcName → Option Value} {mg mb : Str → Option Value} {A₀ A : Around} {base h₀ : Heap} {env : Env} {outer : List Env} {L : Addr} {m : Str → Option Value} {s : Shared} {Q E : Value → Shared → Prop} {news : List (Addr × Obj)}
  {x dx : Addr} {txt : Str} {t1 t3 t4 t5 : Tok} {i gn dn : Int} {h1 h2 h3 h4 h5 h6 h7 : Int} {k1 k2 k3 k4 k5 k6 k7 : Tok} {v2 v4 v5 v6 v7 : Value}
variable {r1 r2 r3 r4 r5 r6 r7 r8 r9 r10 r11 r12 r13 r14 r15 r16 r17 r18 r19 c1 c2 c3 c4 c5 c6 c7 c8 c9 : Int} {q1 q2 q3 q4 q5 q6 q7 q8 q9 q10 q11 q12 q13 q14 q15 q16 q17 q18 q19 z1 z2 z3 z4 z5 z6 z7 z8 z9 : Tok} {y1 y2 y3 y5 y6 y7 y8 y9 y10 y11 y12 y14 y17 y18 y19 u1 u2 u3 u4 u5 u6 u9 : Value} {fl fr df wt pd lm : Addr} {nfl st pl wh w0 : Int} {nf : Nat} {ta tb tc te : Tok}
theorem check_ok {pat : Str} {tp : Tok} {cn : Int}
  (B : Below A₀ base outer h₀) (F : Fr h₀ L s.heap m) (X : (pre.heap_1 w.params).In h₀) (N : News h₀ L s.heap news) (T : Top vw lo mean mg mb h₀) (hA : A.frames = some (env :: outer)) (hf : env.frame = some L) (hke : env.scope.kind = .function) (hh : A.handled = none)
  (hdp : A.depth + 1 < recursionLimit) (hun : A.units + 20 < cLine)
  (m1 : (x, instObj 615 dx) ∈ news) (m2 : (dx, (runO r1 r2 r3 r4 r5 r6 r7 r8 r9 r10 r11 r12 r13 r14 r15 r16 r17 r18 r19 q1 q2 q3 q4 q5 q6 q7 q8 q9 q10 q11 q12 q13 q14 q15 q16 q17 q18 q19 y1 y2 y3 (.ref lm) y5 y6 y7 y8 y9 y10 y11 y12 (.ref fl) y14 (.ref pd) (.int st ta) y17 y18 y19)) ∈ news) (m3 : (fl, listOf #[.ref fr] nf) ∈ news) (m4 : (fr, instObj 637 df) ∈ news) (m5 : (df, (cfO c1 c2 c3 c4 c5 c6 c7 c8 c9 z1 z2 z3 z4 z5 z6 z7 z8 z9 u1 u2 u3 u4 u5 u6 (.int pl tb) (.ref wt) u9)) ∈ news) (m6 : (wt, tupO [.int w0 tc, .int wh te]) ∈ news)
  (hlen : pat.length ≤ 100) (hcnt : Txt.count pat (Str.ofString "(") = cn) (hcn : 0 ≤ cn ∧ cn ≤ 100) (hpl : 0 ≤ pl ∧ pl ≤ 1000) (hwh : 0 ≤ wh ∧ wh ≤ 1000) (hle : pl + wh + 10 + min (10 * cn) 400 ≤ 880)
  (hret : ∀ h' tk', Fr h₀ L h' m → News h₀ L h' news → Q .none { s with heap := h', toks := tk' }) :
  wpAny (model PySem.Challenge.rw_qz0116_01.row.toRowW.1 w) A (call (.ref 646) [.ref x, .str pat tp]) Q E s := by
  refine wpAny_call ?_
  have hin : ∀ p ∈ [(x, instObj 615 dx), (dx, (runO r1 r2 r3 r4 r5 r6 r7 r8 r9 r10 r11 r12 r13 r14 r15 r16 r17 r18 r19 q1 q2 q3 q4 q5 q6 q7 q8 q9 q10 q11 q12 q13 q14 q15 q16 q17 q18 q19 y1 y2 y3 (.ref lm) y5 y6 y7 y8 y9 y10 y11 y12 (.ref fl) y14 (.ref pd) (.int st ta) y17 y18 y19)), (fl, listOf #[.ref fr] nf), (fr, instObj 637 df), (df, (cfO c1 c2 c3 c4 c5 c6 c7 c8 c9 z1 z2 z3 z4 z5 z6 z7 z8 z9 u1 u2 u3 u4 u5 u6 (.int pl tb) (.ref wt) u9)), (wt, tupO [.int w0 tc, .int wh te])], p ∈ news := by repeat' (first | exact fn_ | refine fc_ ?_ ?_ | assumption)
  have N2 := News.sub N hin
  (k_dflt (refine' enterS B F X N2 T ?kA hf hke ?k6 ?k7 ?k8 ?k9 ?kB ?_ ?c2 ?c3 ?c4 ?c5; (case kA => exact hA); (case k6 => k_is); (case k7 => k_is); (case k8 => (first | assumption | exact room_d (by assumption) | exact room_f (by assumption) (by decide) | exact room_a (by assumption) (by decide) | exact room_b (by assumption) (by decide) | exact room_c (by assumption) (by decide) | exact room_e (by assumption) (by decide) | omega | (simp only [depth_deeper] at *; omega))); (case k9 => exact BindsTo.of_eq rfl); (case c5 => decide); (case kB => exact locs rfl); (case c2 => exact rfl); (case c3 => exact rfl); (case c4 => exact rfl)))
  intro g L' hq FG F' N' B' X' T' l1 hK hS hL
  (try k_lt l1)
  (try dsimp only); (try k_fold)
  k_steps
  rename Fr g L' _ _ => Fe
  rename Fr h₀ L _ m => kF
  rename News h₀ L _ (_ :: _) => kN
  exact hret _ _ kF (after0 N hin (hK.trans Fe.keep) (News.sub kN (by kcj_in)))
end
local macro_rules | `(tactic| walk_at "exec Raise some none") => `(tactic| (k_here; refine' Raise_exc ?hh ?_; (case hh => assumption)))
local macro_rules | `(tactic| walk_at "RaiseRest ref") => `(tactic| (k_here; k_dflt (refine' RaiseRest.intro ?k1 ?k2 ?k3 ?k4 ?k5 ?_; (case k1 => k_asm); (case k2 => k_asm); (case k3 => k_asm); (case k4 => k_is); (case k5 => k_mem)); (try dsimp only)))
local macro_rules | `(tactic| walk_at "leaving ref") => `(tactic| (refine hold ?_))
section
variable {w : World} {vw : Program} {lo : List Str} {mean : ExcName → Option Value} {mg mb : Str → Option Value} {A₀ A : Around} {base h₀ : Heap} {env : Env} {outer : List Env} {L : Addr} {m : Str → Option Value} {s : Shared} {Q E : Value → Shared → Prop} {news : List (Addr × Obj)}
  {x dx : Addr} {txt : Str} {t1 t3 t4 t5 : Tok} {i gn dn : Int} {h1 h2 h3 h4 h5 h6 h7 : Int} {k1 k2 k3 k4 k5 k6 k7 : Tok} {v2 v4 v5 v6 v7 : Value}
variable {r1 r2 r3 r4 r5 r6 r7 r8 r9 r10 r11 r12 r13 r14 r15 r16 r17 r18 r19 c1 c2 c3 c4 c5 c6 c7 c8 c9 : Int} {q1 q2 q3 q4 q5 q6 q7 q8 q9 q10 q11 q12 q13 q14 q15 q16 q17 q18 q19 z1 z2 z3 z4 z5 z6 z7 z8 z9 : Tok} {y1 y2 y3 y5 y6 y7 y8 y9 y10 y11 y12 y14 y17 y18 y19 u1 u2 u3 u4 u5 u6 u9 : Value} {fl fr df wt pd lm : Addr} {nfl st pl wh w0 : Int} {nf : Nat} {ta tb tc te : Tok}
theorem check_die {pat : Str} {tp : Tok} {cn : Int}
  (B : Below A₀ base outer h₀) (F : Fr h₀ L s.heap m) (X : (pre.heap_1 w.params).In h₀) (N : News h₀ L s.heap news) (T : Top vw lo mean mg mb h₀) (hA : A.frames = some (env :: outer)) (hf : env.frame = some L) (hke : env.scope.kind = .function) (hh : A.handled = none)
  (hdp : A.depth + 4 < recursionLimit) (hun : A.units + 20 < cLine)
  (m1 : (x, instObj 615 dx) ∈ news) (m2 : (dx, (runO r1 r2 r3 r4 r5 r6 r7 r8 r9 r10 r11 r12 r13 r14 r15 r16 r17 r18 r19 q1 q2 q3 q4 q5 q6 q7 q8 q9 q10 q11 q12 q13 q14 q15 q16 q17 q18 q19 y1 y2 y3 (.ref lm) y5 y6 y7 y8 y9 y10 y11 y12 (.ref fl) y14 (.ref pd) (.int st ta) y17 y18 y19)) ∈ news) (m3 : (fl, listOf #[.ref fr] nf) ∈ news) (m4 : (fr, instObj 637 df) ∈ news) (m5 : (df, (cfO c1 c2 c3 c4 c5 c6 c7 c8 c9 z1 z2 z3 z4 z5 z6 z7 z8 z9 u1 u2 u3 u4 u5 u6 (.int pl tb) (.ref wt) u9)) ∈ news) (m6 : (wt, tupO [.int w0 tc, .int wh te]) ∈ news)
  (hlen : pat.length ≤ 100) (hcnt : Txt.count pat (Str.ofString "(") = cn) (hcn : 0 ≤ cn ∧ cn ≤ 100) (hpl : 0 ≤ pl ∧ pl ≤ 1000) (hwh : 0 ≤ wh ∧ wh ≤ 1000) (hle : pl + wh + 10 + min (10 * cn) 400 > 880)
  (hret : ∀ e D k u v1 k2 u2 tv h' tk', Flown base s.heap (frs (env :: outer)) (env :: outer) e D (dictOf [⟨k, .str (Str.ofString "text") u, v1⟩, ⟨k2, .str (Str.ofString "value") u2, .str (Str.ofString "Deep recursion") tv⟩] 2) (some .none) h' → E (.ref e) { s with heap := h', toks := tk' }) :
  wpAny (model PySem.Challenge.rw_qz0116_01.row.toRowW.1 w) A (call (.ref 646) [.ref x, .str pat tp]) Q E s := by
  refine wpAny_call ?_
  have hin : ∀ p ∈ [(x, instObj 615 dx), (dx, (runO r1 r2 r3 r4 r5 r6 r7 r8 r9 r10 r11 r12 r13 r14 r15 r16 r17 r18 r19 q1 q2 q3 q4 q5 q6 q7 q8 q9 q10 q11 q12 q13 q14 q15 q16 q17 q18 q19 y1 y2 y3 (.ref lm) y5 y6 y7 y8 y9 y10 y11 y12 (.ref fl) y14 (.ref pd) (.int st ta) y17 y18 y19)), (fl, listOf #[.ref fr] nf), (fr, instObj 637 df), (df, (cfO c1 c2 c3 c4 c5 c6 c7 c8 c9 z1 z2 z3 z4 z5 z6 z7 z8 z9 u1 u2 u3 u4 u5 u6 (.int pl tb) (.ref wt) u9)), (wt, tupO [.int w0 tc, .int wh te])], p ∈ news := by repeat' (first | exact fn_ | refine fc_ ?_ ?_ | assumption)
  have N2 := News.sub N hin
  (k_dflt (refine' enterS B F X N2 T ?kA hf hke ?k6 ?k7 ?k8 ?k9 ?kB ?_ ?c2 ?c3 ?c4 ?c5; (case kA => exact hA); (case k6 => k_is); (case k7 => k_is); (case k8 => (first | assumption | exact room_d (by assumption) | exact room_f (by assumption) (by decide) | exact room_a (by assumption) (by decide) | exact room_b (by assumption) (by decide) | exact room_c (by assumption) (by decide) | exact room_e (by assumption) (by decide) | omega | (simp only [depth_deeper] at *; omega))); (case k9 => exact BindsTo.of_eq rfl); (case c5 => decide); (case kB => exact locs rfl); (case c2 => exact rfl); (case c3 => exact rfl); (case c4 => exact rfl)))
  intro g L' hq FG F' N' B' X' T' l1 hK hS hL
  (try k_lt l1)
  (try dsimp only); (try k_fold)
  (repeat' (first | ((with_reducible show wpAny _ _ (call (Value.ref 59) _) _ _ _); k_here; k_dflt (apply die_spec; (case F => k_asm); (case B => k_asm); (case X => k_asm); (case N => k_asm); (case T => k_asm); (case hA => first | exact Around.frames_deeper (Below.stack (by k_asm)) | assumption); (case hf => first | exact rfl | assumption); (case hke => first | exact rfl | assumption); (case hh => assumption); (case hdp => (first | assumption | exact room_d (by assumption) | exact room_f (by assumption) (by decide) | exact room_a (by assumption) (by decide) | exact room_b (by assumption) (by decide) | exact room_c (by assumption) (by decide) | exact room_e (by assumption) (by decide) | omega | (simp only [depth_deeper] at *; omega)))); intro e' D' t' k' u' v1' k2' u2' h' tk' F' N' Y' Z'; (try simp only [List.cons_append, List.nil_append] at N'); (try k_sweep)) | (k_unfold; (try dsimp only)) | (k_end; wrow_close) | walk1 | (dsimp only; walk1) | (leave1; walk_say "STEP leave1"; try dsimp only) | fail "no step"))
  unfold Hold
  rename Fr g L' _ _ => Fe
  rename News g L' _ (_ :: _) => Ne
  refine' flown_leave (base := base) (h₁ := s.heap) (.inl rfl) ?c1 ?c2 ?c3 ?_
  case c1 => exact Around.frames_deeper (Below.stack B')
  case c2 => exact rfl
  case c3 => exact flown_born (mods := [(x, instObj 615 dx), (dx, (runO r1 r2 r3 r4 r5 r6 r7 r8 r9 r10 r11 r12 r13 r14 r15 r16 r17 r18 r19 q1 q2 q3 q4 q5 q6 q7 q8 q9 q10 q11 q12 q13 q14 q15 q16 q17 q18 q19 y1 y2 y3 (.ref lm) y5 y6 y7 y8 y9 y10 y11 y12 (.ref fl) y14 (.ref pd) (.int st ta) y17 y18 y19)), (fl, listOf #[.ref fr] nf), (fr, instObj 637 df), (df, (cfO c1 c2 c3 c4 c5 c6 c7 c8 c9 z1 z2 z3 z4 z5 z6 z7 z8 z9 u1 u2 u3 u4 u5 u6 (.int pl tb) (.ref wt) u9)), (wt, tupO [.int w0 tc, .int wh te])]) N hin hK B' Fe Ne (by kcj_in) (.head _) (by k_mem) (fun p hp => (by assumption : ∀ q ∈ _, q.1 ≠ _) p ((by kcj_in : ∀ q ∈ _, q ∈ _) p hp)) (fun p hp => (by assumption : ∀ q ∈ _, q.1 ≠ _) p ((by kcj_in : ∀ q ∈ _, q ∈ _) p hp)) (by intro vs h; cases h) rfl
  intro h' Y
  exact hret _ _ _ _ _ _ _ _ _ _ (Y.narrow (by rw [hL]; exact Heap.get?_none_of_le (Nat.le_refl _)))
end

end Mine
end
-- X8
section
open PySem PySem.W PyProof.Rows PySem.Calls PySem.Spec
namespace Mine
/-- the entries of a dict whose keys are tuples of strs -/
abbrev PX := List (List Str × Addr × Value)
noncomputable abbrev sK (prog : Program) (w : World) : HeapKind prog w (List Str) := tupleKind (PySem.strKind prog w)
noncomputable abbrev pdO (prog : Program) (w : World) (xs : PX) (n : Nat) : Obj := dictOf (xs.map (entryOfKey (sK prog w))) n
abbrev KeyAt (prog : Program) (w : World) (h : Heap) (k : List Str) (a : Addr) : Prop := IsTupleKey (PySem.strKind prog w) h k a
abbrev KeysAt (prog : Program) (w : World) (h : Heap) (xs : PX) : Prop := ∀ y ∈ xs, KeyAt prog w h y.1 y.2.1
section
variable {prog : Program} {w : World} {A : Around} {E : Value → Shared → Prop} {s : Shared} {L pd a x C : Addr} {h₀ h h' g : Heap} {m : Str → Option Value} {news mods : List (Addr × Obj)} {xs : PX} {n : Nat} {k : List Str} {gg : Obj → List (Addr × Obj)}
theorem KeyAt.keep (X : KeyAt prog w h k a) (hk : ∀ o, h.get? a = some o → o.cls = .type "tuple" → h'.get? a = some o) : KeyAt prog w h' k a :=
  let ⟨o, items, n, ho, hc, hd, hi⟩ := X; ⟨o, items, n, hk o ho hc, hc, hd, hi⟩
theorem KeysAt.keep (X : KeysAt prog w h xs) (hk : ∀ b o, h.get? b = some o → o.cls = .type "tuple" → h'.get? b = some o) : KeysAt prog w h' xs := fun y hy => KeyAt.keep (X y hy) (hk _)
/-- tuples lie in the frame's ground -/
theorem tup_ground (N : News h₀ L h news) (hin : ∀ p ∈ mods, p ∈ news) (hK : Kept h (mods.map (·.1)) g) (hc : ∀ p ∈ mods, p.2.cls ≠ .type "tuple") : ∀ b o, h.get? b = some o → o.cls = .type "tuple" → g.get? b = some o := fun b o q c => by
  refine hK b o q fun hm => ?_
  obtain ⟨p, hp, rfl⟩ := List.mem_map.mp hm
  have z := (N p (hin p hp)).1
  rw [q] at z; cases z
  exact hc p hp c
theorem key2 {x y : Str} {t u : Tok} (e : h.get? a = some (tupO [.str x t, .str y u])) : KeyAt prog w h [x, y] a :=
  ⟨_, _, _, e, rfl, rfl, .cons (strKind_is _ _ _ _) (.cons (strKind_is _ _ _ _) .nil)⟩
theorem pd_dict (N : News h₀ L s.heap news) (hm : (pd, pdO prog w xs n) ∈ news) (hk : KeysAt prog w s.heap xs) (hn : (xs.map (·.1)).Nodup) : s.heap.DictOfH (sK prog w) pd xs :=
  ⟨_, _, n, (N _ hm).1, ⟨rfl, rfl, rfl⟩, rfl, by simp, hk, hn⟩
theorem pd_method {name : Str} {pl : Sem Bool} {id : String} {Q : Value × List Value → Shared → Prop} {es : List DictEntry} (slot : Slot "dict" name id) (hty : typeOf (.builtin id) = pure (.type "method_descriptor")) (N : News h₀ L s.heap news) (hm : (pd, dictOf es n) ∈ news) (h : Q (.builtin id, [.ref pd]) s) :
    wpAny (model prog w) A (getMethod (.ref pd) name pl) Q E s :=
  getMethod_builtin (T := "dict") ⟨_, (N _ hm).1, rfl⟩ PySem.F.plainAttrs_dict slot hty (fun b e => by cases e; exact ⟨_, (N _ hm).1, rfl⟩) h
theorem pd_get {Q : Value → Shared → Prop} {dflt : Value} (hu : A.units + 2 < cLine) (N : News h₀ L s.heap news) (hm : (pd, pdO prog w xs n) ∈ news) (hk : KeysAt prog w s.heap xs) (hn : (xs.map (·.1)).Nodup) (hd : (pd == sysModules) = false) (ha : KeyAt prog w s.heap k a)
    (h : ∀ tk, Q (((atKey xs k).map (·.2)).getD dflt) { s with toks := tk }) : wpAny (model prog w) A (call (.builtin "dict.get") [.ref pd, .ref a, dflt]) Q E s :=
  call_meetsIn PySem.F.slot_dict_get (pd_dict N hm hk hn).typeIs PySem.F.entry_dict_get (PySem.F.args_dict_get_3 _ _ _) (meetsH_dict_get_default (sK prog w) pd a hd dflt) ⟨(show A.units + 1 < cLine by omega), k, xs, ha, pd_dict N hm hk hn, h _⟩
theorem pd_notin {Q : Value → Shared → Prop} (hu : A.units + 2 < cLine) (N : News h₀ L s.heap news) (hm : (pd, pdO prog w xs n) ∈ news) (hk : KeysAt prog w s.heap xs) (hn : (xs.map (·.1)).Nodup) (hd : (pd == sysModules) = false) (ha : KeyAt prog w s.heap k a)
    (h : ∀ tk, Q (.bool (!(atKey xs k).isSome)) { s with toks := tk }) : wpAny (model prog w) A (compareOp .NotIn (.ref a) (.ref pd)) Q E s :=
  wpAny_notIn_heap (knd := sK prog w) (show A.units + 1 < cLine by omega) ha hd (pd_dict N hm hk hn) (h _)
theorem pd_item {value slice : Expr} {Q : Value → Shared → Prop} {p : Addr × Value} (hu : A.units + 2 < cLine) (N : News h₀ L s.heap news) (hm : (pd, pdO prog w xs n) ∈ news) (hk : KeysAt prog w s.heap xs) (hn : (xs.map (·.1)).Nodup) (ha : KeyAt prog w s.heap k a) (hp : atKey xs k = some p)
    (h : ∀ tk, Q p.2 { s with toks := tk })
    (hs : subscripted slice false (.ref pd) (.ref a) = operate [.ref pd, .ref a] (getItem (.ref pd) (.ref a)) := by with_unfolding_all rfl) (ht : ∀ r, letTemporaryGo value (.ref pd) r = pure () := by intro _; with_unfolding_all rfl) :
    wpAny (model prog w) A (subscriptTail value slice (.ref pd) (.ref a)) Q E s :=
  subscriptTail_builtin (pd_dict N hm hk hn).typeIs slot_dict_getitem.lookup (wpAny_getItem_heap (knd := sK prog w) (show A.units + 1 < cLine by omega) ha (pd_dict N hm hk hn) hp (h _)) hs ht
theorem pd_set {Q : Unit → Shared → Prop} {v : Value} (hu : A.units + 2 < cLine) (F : Fr h₀ L s.heap m) (N : News h₀ L s.heap news) (U : UpdF pd (pdO prog w xs n) news gg) (hk : KeysAt prog w s.heap xs) (hn : (xs.map (·.1)).Nodup) (ha : KeyAt prog w s.heap k a)
    (h : ∀ h' n' tk, Fr h₀ L h' m → News h₀ L h' (gg (pdO prog w (storedH xs k a v) n')) → Q () { s with heap := h', toks := tk })
    (hsz : xs.length ≤ 100) : wpAny (model prog w) A (setItem (.ref pd) (.ref a) v) Q E s := by
  obtain ⟨pre, post, rfl, hg, h1, h2⟩ := U.split
  have hm : (pd, pdO prog w xs n) ∈ pre ++ (pd, pdO prog w xs n) :: post := by simp
  refine wpAny_setItem_heap (hsz := by rw [sizeLine_eq]; omega) (knd := sK prog w) (show A.units + 1 < cLine by omega) ha (pd_dict N hm hk hn) fun h' hD hs => ?_
  obtain ⟨o, es, ep, ho, ⟨c1, c2, c3⟩, hd, he, -, -⟩ := hD
  have e : o = pdO prog w (storedH xs k a v) ep := by
    obtain ⟨oc, od, oda, osl⟩ := o
    dsimp only at c1 c2 c3 hd
    subst c1 c2 c3 hd
    have : es = (List.map (entryOfKey (sK prog w)) (storedH xs k a v)).toArray := by rw [← he]
    rw [this]
  refine h h' ep _ (F.change hs (N _ hm).2.1 (N.fresh hm)) ?_
  rw [hg]
  intro p hp
  simp only [List.mem_append, List.mem_cons] at hp
  rcases hp with hp | rfl | hp
  · have z := N p (by simp [hp]); exact ⟨(hs.2 _ (h1 p hp)).trans z.1, z.2⟩
  · exact ⟨e ▸ ho, (N _ hm).2⟩
  · have z := N p (by simp [hp]); exact ⟨(hs.2 _ (h2 p hp)).trans z.1, z.2⟩
end

end Mine
end
-- X9
section
open PySem PySem.W PyProof.Rows PySem.Calls PySem.Spec
namespace Mine
section
variable {prog : Program} {w : World} {h h₀ g h' : Heap} {xs : PX} {k : List Str} {a L : Addr} {v : Value} {m : Str → Option Value}
theorem keys_stored (X : KeysAt prog w h xs) (Y : KeyAt prog w h k a) : KeysAt prog w h (storedH xs k a v) := fun y hy => by
  rcases mem_storedH hy with ⟨z, hz, e1, e2⟩ | ⟨e1, e2⟩
  · have := X z hz; rw [e1, e2]; exact this
  · rw [e1, e2]; exact Y
theorem nodup_stored (hn : (xs.map (·.1)).Nodup) : ((storedH xs k a v).map (·.1)).Nodup := by
  unfold storedH
  split
  · rw [keys_map_putAt]; exact hn
  · rename_i c
    rw [List.map_append, List.nodup_append]
    refine ⟨hn, by simp, fun y hy z hz e => ?_⟩
    simp only [List.map_cons, List.map_nil, List.mem_singleton] at hz
    subst hz e
    apply c
    obtain ⟨p, hp, rfl⟩ := List.mem_map.mp hy
    obtain ⟨j, hj⟩ := List.mem_iff_getElem?.mp hp
    rw [atKey_of_get hn (k := p.1) (p := p.2) hj]; rfl
theorem length_stored (n : Nat) (h : xs.length ≤ n) : (storedH xs k a v).length ≤ n + 1 := by
  unfold storedH
  split
  · rw [List.length_map]; omega
  · rw [List.length_append]; simpa using h
theorem key_news {news : List (Addr × Obj)} {x y : Str} {t u : Tok} (N : News h₀ L h news) (hm : (a, tupO [.str x t, .str y u]) ∈ news) : KeyAt prog w h [x, y] a := key2 (N _ hm).1
/-- what .get(k, 0) gives -/
def GetsI (xs : PX) (k : List Str) (kp : Int) : Prop := ∀ t0, ∃ t, ((atKey xs k).map (·.2)).getD (.int 0 t0) = .int kp t
theorem pd_getI {A : Around} {E : Value → Shared → Prop} {s : Shared} {pd : Addr} {n : Nat} {news : List (Addr × Obj)} {Q : Value → Shared → Prop} {kp : Int} {t0 : Tok} (hu : A.units + 2 < cLine) (N : News h₀ L s.heap news) (hm : (pd, pdO prog w xs n) ∈ news) (hk : KeysAt prog w s.heap xs) (hn : (xs.map (·.1)).Nodup) (hd : (pd == sysModules) = false) (ha : KeyAt prog w s.heap k a) (hg : GetsI xs k kp)
    (h : ∀ tk t, Q (.int kp t) { s with toks := tk }) : wpAny (model prog w) A (call (.builtin "dict.get") [.ref pd, .ref a, .int 0 t0]) Q E s :=
  pd_get hu N hm hk hn hd ha fun tk => by obtain ⟨t, e⟩ := hg t0; rw [e]; exact h tk t
end

end Mine
end
-- X10
section
open PySem PySem.W PyProof.Rows PySem.Calls PySem.Spec
namespace Mine
section
variable {h₀ h g h' : Heap} {L L' d e : Addr} {o u o' u' : Obj} {m' : Str → Option Value} {news mods sub l tl : List (Addr × Obj)} {gg : Obj → Obj → List (Addr × Obj)}
/-- where nothing is turned, all stands behind the call's beginning -/
theorem all_kept (N : News h₀ L h news) (hin : ∀ p ∈ mods, p ∈ news) (hK : Kept h (mods.map (·.1)) g) (Fe : Fr g L' h' m') (Ne : News g L' h' l) (hm : ∀ p ∈ mods, p ∈ l) : ∀ b o, h.get? b = some o → h'.get? b = some o := fun b o q => by
  by_cases c : b ∈ mods.map (·.1)
  · obtain ⟨p, hp, rfl⟩ := List.mem_map.mp c
    have z := (N p (hin p hp)).1
    rw [q] at z; cases z
    exact (Ne p (hm p hp)).1
  · exact Fe.keep _ _ (hK _ _ q c)
theorem back2t (N : News h₀ L h news) (U : Upd2 d e o u news gg) (hin : ∀ p ∈ (d, o) :: (e, u) :: sub, p ∈ news) (hK : Kept h (((d, o) :: (e, u) :: sub).map (·.1)) g) (Fe : Fr g L' h' m') (Ne : News g L' h' l) (kN : News h₀ L h' l)
    (hs : ∀ p ∈ (d, o') :: (e, u') :: sub, p ∈ l) (ht : ∀ p ∈ tl, p ∈ l) (hx : ∀ q ∈ (d, o) :: (e, u) :: sub, ∀ p ∈ tl, p.1 ≠ q.1) : News h₀ L h' (gg o' u' ++ tl) ∧ Off tl news := by
  refine ⟨fun p hp => ?_, off_of_fresh N fun p hp => ?_⟩
  · rcases List.mem_append.mp hp with q | q
    · exact back2 N U hin hK Fe kN hs p q
    · exact kN p (ht p q)
  · cases q : h.get? p.1 with
    | none => rfl
    | some ob =>
      have z := hK _ _ q (fun c => by
        obtain ⟨r, hr, er⟩ := List.mem_map.mp c
        exact hx r hr p hp er.symm)
      have := (Ne p (ht p hp)).2.2
      rw [z] at this; cases this
end
section
variable {xs : PX} {k k0 : List Str} {a a0 : Addr} {v v0 : Value}
theorem atKey_stored_ne (hne : k ≠ k0) : atKey (storedH xs k0 a0 v0) k = atKey xs k := by
  unfold storedH
  split
  · unfold atKey
    have : ∀ l : PX, ((l.map (putAt k0 v0)).find? fun x => decide (x.1 = k)) = l.find? fun x => decide (x.1 = k) := by
      intro l
      induction l with
      | nil => rfl
      | cons y r ih =>
        rw [List.map_cons, List.find?_cons, List.find?_cons, ih]
        unfold putAt
        by_cases c : y.1 = k0
        · rw [if_pos c]
          have : decide (y.1 = k) = false := decide_eq_false (fun e => hne (e ▸ c))
          simp only [this]
        · rw [if_neg c]
    rw [this]
  · unfold atKey
    rw [List.find?_append]
    have : (List.find? (fun x : List Str × Addr × Value => decide (x.1 = k)) [(k0, a0, v0)]) = none := by
      simp [Ne.symm hne]
    rw [this, Option.or_none]
theorem atKey_new (hne : k ≠ k0) (h : atKey xs k = none) : atKey (storedH (storedH xs k0 a0 v0) k a v) k = some (a, v) := by
  have h1 : atKey (storedH xs k0 a0 v0) k = none := by rw [atKey_stored_ne hne]; exact h
  rw [storedH_new h1]
  unfold atKey at h1 ⊢
  rw [List.find?_append]
  have : List.find? (fun x => decide (x.1 = k)) (storedH xs k0 a0 v0) = none := by simpa using h1
  rw [this]
  simp
end
section
variable {prog : Program} {w : World} {A : Around} {E : Value → Shared → Prop} {s : Shared} {L pd a : Addr} {h₀ : Heap} {news : List (Addr × Obj)} {xs : PX} {n : Nat} {k : List Str}
theorem pd_not {Q : Value → Shared → Prop} {p : Addr × Value} (hp : atKey xs k = some p) (hu : A.units + 2 < cLine) (N : News h₀ L s.heap news) (hm : (pd, pdO prog w xs n) ∈ news) (hk : KeysAt prog w s.heap xs) (hn : (xs.map (·.1)).Nodup) (hd : (pd == sysModules) = false) (ha : KeyAt prog w s.heap k a)
    (h : ∀ tk, Q (.bool false) { s with toks := tk }) : wpAny (model prog w) A (compareOp .NotIn (.ref a) (.ref pd)) Q E s := pd_notin hu N hm hk hn hd ha fun tk => by rw [hp]; exact h tk
theorem pd_yes {Q : Value → Shared → Prop} (hp : atKey xs k = none) (hu : A.units + 2 < cLine) (N : News h₀ L s.heap news) (hm : (pd, pdO prog w xs n) ∈ news) (hk : KeysAt prog w s.heap xs) (hn : (xs.map (·.1)).Nodup) (hd : (pd == sysModules) = false) (ha : KeyAt prog w s.heap k a)
    (h : ∀ tk, Q (.bool true) { s with toks := tk }) : wpAny (model prog w) A (compareOp .NotIn (.ref a) (.ref pd)) Q E s := pd_notin hu N hm hk hn hd ha fun tk => by rw [hp]; exact h tk
end
section
variable {prog : Program} {w : World} {L : Addr} {h₀ h g : Heap} {news mods : List (Addr × Obj)} {xs : PX}
theorem notKey_cls {o : Obj} (hc : o.cls ≠ .type "tuple") : ∀ k, ¬ TupKeyObj (PySem.strKind prog w) k o := fun _ t => hc t.1
theorem notKey_int {i : Int} {t : Tok} {r : List Value} : ∀ k, ¬ TupKeyObj (PySem.strKind prog w) k (tupO (.int i t :: r)) := fun k x => by
  obtain ⟨_, items, n, hd, hi⟩ := x
  injection hd with h1 _
  subst h1
  cases hi with
  | cons h2 _ => cases h2
/-- the keys lie in the frame's ground -/
theorem keys_ground (N : News h₀ L h news) (hin : ∀ p ∈ mods, p ∈ news) (hK : Kept h (mods.map (·.1)) g) (hc : ∀ p ∈ mods, ∀ k, ¬ TupKeyObj (PySem.strKind prog w) k p.2) (X : KeysAt prog w h xs) : KeysAt prog w g xs := fun y hy => by
  obtain ⟨o, items, n, ho, c, hd, hi⟩ := X y hy
  refine ⟨o, items, n, hK _ o ho fun hm => ?_, c, hd, hi⟩
  obtain ⟨p, hp, e⟩ := List.mem_map.mp hm
  have z := (N p (hin p hp)).1
  rw [show p.1 = y.2.1 from e, ho] at z; cases z
  exact hc p hp y.1 ⟨c, items, n, hd, hi⟩
end

end Mine
end
local macro_rules | `(tactic| k_all) => `(tactic| first | (refine' KeyAt.keep ?qa ?qb; (case qa => assumption); (case qb => exact (fun o e _ => Fr.keep (by k_asm) _ _ e))) | (refine' KeysAt.keep ?qa ?qb; (case qa => assumption); (case qb => exact (fun b o e _ => Fr.keep (by k_asm) _ _ e))) | (refine' key_news ?qa ?qb; (case qa => k_asm); (case qb => k_mem)) | (refine' keys_stored ?qa ?qb; (case qa => k_all); (case qb => k_all)) | (refine' nodup_stored ?qa; (case qa => k_all)) | (with_reducible assumption))
local macro_rules | `(tactic| walk_at "getMethod ref") => `(tactic| (k_here; k_dflt (refine' pd_method PySem.F.slot_dict_get PySem.F.type_dict_get ?N ?m ?_; (case N => k_asm); (case m => k_mem))))
local macro_rules | `(tactic| walk_at "call builtin:dict.get") => `(tactic| (k_here; (with_reducible show wpAny _ _ (call _ [Value.ref _, Value.ref _, _]) _ _ _); k_dflt (refine' pd_getI ?u ?N ?m ?ks ?n ?sm ?ka ?hg ?_; (case hg => assumption); (case u => (first | exact uni_a (by assumption) (by decide) | exact room_f (by assumption) (by decide) | ((simp only [units_deeper, units_in1]); omega))); (case N => k_asm); (case m => k_mem); (case ka => k_all); (case ks => k_all); (case n => k_all); (case sm => assumption)); intro tk' t'))
local macro_rules | `(tactic| walk_at "compareOp NotIn ref ref") => `(tactic| (k_here; k_dflt ((first | (refine' pd_not ?hp ?u ?N ?m ?ks ?n ?sm ?ka ?_; (case hp => assumption)) | (refine' pd_yes ?hp ?u ?N ?m ?ks ?n ?sm ?ka ?_; (case hp => assumption))); (case u => (first | exact uni_a (by assumption) (by decide) | exact room_f (by assumption) (by decide) | ((simp only [units_deeper, units_in1]); omega))); (case N => k_asm); (case m => k_mem); (case ka => k_all); (case ks => k_all); (case n => k_all); (case sm => assumption)); intro tk'))
local macro_rules | `(tactic| walk_at "setItem ref ref") => `(tactic| (k_here; k_dflt (refine' pd_set ?u ?F ?N ?U ?ks ?n ?ka ?_ ?sz; (case u => (first | exact uni_a (by assumption) (by decide) | exact room_f (by assumption) (by decide) | ((simp only [units_deeper, units_in1]); omega))); (case F => k_asm); (case N => k_asm); (case U => k_updF); (case ka => k_all); (case ks => k_all); (case n => k_all); (case sz => first | omega | exact length_stored _ (by omega) | (refine Nat.le_trans (length_stored 20 (by omega)) (by omega)))); intro h' n' tk' F' N'; (try dsimp only at N'); (try k_sweep)))
local macro_rules | `(tactic| walk_at "subscriptTail Attribute Name ref ref") => `(tactic| (k_here; k_dflt (refine' pd_item ?u ?N ?m ?ks ?n ?ka ?hp ?_ ?q1 ?q2; (case u => (first | exact uni_a (by assumption) (by decide) | exact room_f (by assumption) (by decide) | ((simp only [units_deeper, units_in1]); omega))); (case N => k_asm); (case m => k_mem); (case ka => k_all); (case ks => k_all); (case n => k_all); (case hp => first | assumption | exact atKey_new (by assumption) (by assumption)); (case q1 => with_unfolding_all rfl); (case q2 => (intro _; with_unfolding_all rfl))); intro tk'; (try dsimp only)))
-- S20
section
open PySem PySem.W PyProof.Rows PySem.Calls PySem.Spec
namespace Mine
abbrev limO (b1 b2 b3 b4 b5 : Int) (j1 j2 j3 j4 j5 : Tok) (v1 v2 v3 v4 v5 : Value) : Obj := dictOf [⟨b1, .str (Str.ofString "width") j1, v1⟩, ⟨b2, .str (Str.ofString "depth") j2, v2⟩, ⟨b3, .str (Str.ofString "steps") j3, v3⟩, ⟨b4, .str (Str.ofString "text") j4, v4⟩, ⟨b5, .str (Str.ofString "items") j5, v5⟩] 5
abbrev sgk : List Str := [Str.ofString "", Str.ofString "signs"]
local macro_rules | `(tactic| walk_at "subscriptTail Name Name ref ref") => `(tactic| walk_at "subscriptTail Attribute Name ref ref")
section
variable {w : World} {vw : Program} {lo : List Str} {mean : ExcName → Option Value} {mg mb : Str → Option Value} {A₀ A : Around} {base h₀ : Heap} {env : Env} {outer : List Env} {L : Addr} {m : Str → Option Value} {s : Shared} {Q E : Value → Shared → Prop} {news : List (Addr × Obj)}
  {x dx : Addr} {txt : Str} {t1 t3 t4 t5 : Tok} {i gn dn : Int} {h1 h2 h3 h4 h5 h6 h7 : Int} {k1 k2 k3 k4 k5 k6 k7 : Tok} {v2 v4 v5 v6 v7 : Value}
variable {r1 r2 r3 r4 r5 r6 r7 r8 r9 r10 r11 r12 r13 r14 r15 r16 r17 r18 r19 c1 c2 c3 c4 c5 c6 c7 c8 c9 : Int} {q1 q2 q3 q4 q5 q6 q7 q8 q9 q10 q11 q12 q13 q14 q15 q16 q17 q18 q19 z1 z2 z3 z4 z5 z6 z7 z8 z9 : Tok} {y1 y2 y3 y5 y6 y7 y8 y9 y10 y11 y12 y14 y17 y18 y19 u1 u2 u3 u4 u5 u6 u9 : Value} {fl fr df wt pd lm : Addr} {nfl st pl wh w0 : Int} {nf : Nat} {ta tb tc te : Tok}
variable {b1 b2 b3 b4 b5 : Int} {j1 j2 j3 j4 j5 : Tok} {p1 p2 p3 p5 : Value} {dlm : Addr} {tl0 : Tok}
variable {xs : PX} {n : Nat} {gg : Obj → Obj → List (Addr × Obj)}
theorem keep_spec {pat : Str} {kt pa : Addr} {t1 t2 : Tok} {kp : Int}
  (B : Below A₀ base outer h₀) (F : Fr h₀ L s.heap m) (X : (pre.heap_1 w.params).In h₀) (N : News h₀ L s.heap news) (T : Top vw lo mean mg mb h₀) (hA : A.frames = some (env :: outer)) (hf : env.frame = some L) (hke : env.scope.kind = .function) (hh : A.handled = none)
  (hdp : A.depth + 1 < recursionLimit) (hun : A.units + 20 < cLine)
  (m1 : (x, instObj 615 dx) ∈ news) (m2 : (lm, instObj 684 dlm) ∈ news) (m3 : (dlm, (limO b1 b2 b3 b4 b5 j1 j2 j3 j4 j5 p1 p2 p3 (.int 100000 tl0) p5)) ∈ news)
  (m4 : (dx, (runO r1 r2 r3 r4 r5 r6 r7 r8 r9 r10 r11 r12 r13 r14 r15 r16 r17 r18 r19 q1 q2 q3 q4 q5 q6 q7 q8 q9 q10 q11 q12 q13 q14 q15 q16 q17 q18 q19 y1 y2 y3 (.ref lm) y5 y6 y7 y8 y9 y10 y11 y12 (.ref fl) y14 (.ref pd) (.int st ta) y17 y18 y19)) ∈ news) (m5 : (pd, pdO prg w xs n) ∈ news)
  (U : Upd2 dx pd ((runO r1 r2 r3 r4 r5 r6 r7 r8 r9 r10 r11 r12 r13 r14 r15 r16 r17 r18 r19 q1 q2 q3 q4 q5 q6 q7 q8 q9 q10 q11 q12 q13 q14 q15 q16 q17 q18 q19 y1 y2 y3 (.ref lm) y5 y6 y7 y8 y9 y10 y11 y12 (.ref fl) y14 (.ref pd) (.int st ta) y17 y18 y19)) (pdO prg w xs n) news gg)
  (hkt : s.heap.get? kt = some (tupO [.str pat t1, .str (Str.ofString "") t2])) (hks : KeysAt prg w s.heap xs) (hnd : (xs.map (·.1)).Nodup) (hxl : xs.length ≤ 20) (hsm : (pd == sysModules) = false) (ne5 : dx ≠ pd) (ne6 : dlm ≠ pd)
  (hlen : pat.length ≤ 100) (hst : 0 ≤ st ∧ st ≤ 10000) (hkp : 0 ≤ kp ∧ kp ≤ 10000) (hget : GetsI xs sgk kp)
  (hret : ∀ st' ts' tk n' h' tk', 0 ≤ st' ∧ st' ≤ st + 10 → Fr h₀ L h' m → News h₀ L h' (gg ((runO r1 r2 r3 r4 r5 r6 r7 r8 r9 r10 r11 r12 r13 r14 r15 r16 r17 r18 r19 q1 q2 q3 q4 q5 q6 q7 q8 q9 q10 q11 q12 q13 q14 q15 q16 q17 q18 q19 y1 y2 y3 (.ref lm) y5 y6 y7 y8 y9 y10 y11 y12 (.ref fl) y14 (.ref pd) (.int st' ts') y17 y18 y19)) (pdO prg w (storedH (storedH xs sgk 647 (.int (kp + pat.length) tk)) [pat, Str.ofString ""] kt (.ref pa)) n')) → Q .none { s with heap := h', toks := tk' }) :
  wpAny (model PySem.Challenge.rw_qz0116_01.row.toRowW.1 w) A (call (.ref 666) [.ref x, .ref kt, .ref pa]) Q E s := by
  refine wpAny_call ?_
  have hin : ∀ p ∈ [(dx, (runO r1 r2 r3 r4 r5 r6 r7 r8 r9 r10 r11 r12 r13 r14 r15 r16 r17 r18 r19 q1 q2 q3 q4 q5 q6 q7 q8 q9 q10 q11 q12 q13 q14 q15 q16 q17 q18 q19 y1 y2 y3 (.ref lm) y5 y6 y7 y8 y9 y10 y11 y12 (.ref fl) y14 (.ref pd) (.int st ta) y17 y18 y19)), (pd, pdO prg w xs n), (x, instObj 615 dx), (lm, instObj 684 dlm), (dlm, (limO b1 b2 b3 b4 b5 j1 j2 j3 j4 j5 p1 p2 p3 (.int 100000 tl0) p5))], p ∈ news := by repeat' (first | exact fn_ | refine fc_ ?_ ?_ | assumption)
  have N2 := News.sub N hin
  have ne1 := neN (obj_ne N m1 m4 (by intro e; have q := congrArg Obj.cls e; simp at q))
  have ne2 := neN (obj_ne N m1 m5 (by intro e; have q := congrArg Obj.cls e; simp at q))
  have ne3 := neN (obj_ne N m2 m4 (by intro e; have q := congrArg Obj.cls e; simp at q))
  have ne4 := neN (obj_ne N m2 m5 (by intro e; have q := congrArg Obj.cls e; simp at q))
  have ne7 : dlm ≠ dx := obj_ne N m3 m4 (by intro e; injection e with _ _ h3; injection h3 with _ h4; cases h4)
  have ne5 := neN ne5
  have ne6 := neN ne6
  have ne7 := neN ne7
  (k_dflt (refine' enterS B F X N2 T ?kA hf hke ?k6 ?k7 ?k8 ?k9 ?kB ?_ ?c2 ?c3 ?c4 ?c5; (case kA => exact hA); (case k6 => k_is); (case k7 => k_is); (case k8 => (first | assumption | exact room_d (by assumption) | exact room_f (by assumption) (by decide) | exact room_a (by assumption) (by decide) | exact room_b (by assumption) (by decide) | exact room_c (by assumption) (by decide) | exact room_e (by assumption) (by decide) | omega | (simp only [depth_deeper] at *; omega))); (case k9 => exact BindsTo.of_eq rfl); (case c5 => decide); (case kB => exact locs rfl); (case c2 => exact rfl); (case c3 => exact rfl); (case c4 => exact rfl)))
  intro g L' hq FG F' N' B' X' T' l1 hK hS hL
  (try k_lt l1)
  (try dsimp only); (try k_fold)
  have tg := tup_ground (mods := _) N hin hK (by repeat' (first | exact fn_ | refine fc_ ?_ ?_ | (intro e; simp at e)))
  have hktg := tg _ _ hkt rfl
  have hkey : KeyAt prg w g [pat, Str.ofString ""] kt := key2 hktg
  replace hks : KeysAt prg w g xs := hks.keep tg
  have hsg : KeyAt prg w g sgk 647 := key2 (X' _ _ (by k_is))
  k_steps
  rename Fr g L' _ _ => Fe
  rename Fr h₀ L _ m => kF
  rename News h₀ L _ (_ :: _) => kN
  have fd : 0 ≤ Int.fdiv (pat.length : Int) 10 ∧ Int.fdiv (pat.length : Int) 10 ≤ 10 := by
    rw [Int.fdiv_eq_ediv_of_nonneg _ (by decide)]; omega
  refine hret _ _ _ _ _ _ ?_ kF (back2 (sub := [(x, instObj 615 dx), (lm, instObj 684 dlm), (dlm, (limO b1 b2 b3 b4 b5 j1 j2 j3 j4 j5 p1 p2 p3 (.int 100000 tl0) p5))]) N U hin hK Fe kN (by kcj_in))
  omega
end

end Mine
end
-- S21
section
open PySem PySem.W PyProof.Rows PySem.Calls PySem.Spec
namespace Mine
local macro_rules | `(tactic| walk_at "subscriptTail Name Name ref ref") => `(tactic| walk_at "subscriptTail Attribute Name ref ref")
section
variable {w : World} {vw : Program} {lo : List Str} {mean : ExcName → Option Value} {mg mb : Str → Option Value} {A₀ A : Around} {base h₀ : Heap} {env : Env} {outer : List Env} {L : Addr} {m : Str → Option Value} {s : Shared} {Q E : Value → Shared → Prop} {news : List (Addr × Obj)}
  {x dx : Addr} {txt : Str} {t1 t3 t4 t5 : Tok} {i gn dn : Int} {h1 h2 h3 h4 h5 h6 h7 : Int} {k1 k2 k3 k4 k5 k6 k7 : Tok} {v2 v4 v5 v6 v7 : Value}
variable {r1 r2 r3 r4 r5 r6 r7 r8 r9 r10 r11 r12 r13 r14 r15 r16 r17 r18 r19 c1 c2 c3 c4 c5 c6 c7 c8 c9 : Int} {q1 q2 q3 q4 q5 q6 q7 q8 q9 q10 q11 q12 q13 q14 q15 q16 q17 q18 q19 z1 z2 z3 z4 z5 z6 z7 z8 z9 : Tok} {y1 y2 y3 y5 y6 y7 y8 y9 y10 y11 y12 y14 y17 y18 y19 u1 u2 u3 u4 u5 u6 u9 : Value} {fl fr df wt pd lm : Addr} {nfl st pl wh w0 : Int} {nf : Nat} {ta tb tc te : Tok}
variable {b1 b2 b3 b4 b5 : Int} {j1 j2 j3 j4 j5 : Tok} {p1 p2 p3 p5 : Value} {dlm : Addr} {tl0 : Tok}
variable {xs : PX} {n : Nat} {gg : Obj → Obj → List (Addr × Obj)}
theorem pf_known {pat : Str} {tp tg : Tok} {ka pr : Addr}
  (B : Below A₀ base outer h₀) (F : Fr h₀ L s.heap m) (X : (pre.heap_1 w.params).In h₀) (N : News h₀ L s.heap news) (T : Top vw lo mean mg mb h₀) (hA : A.frames = some (env :: outer)) (hf : env.frame = some L) (hke : env.scope.kind = .function) (hh : A.handled = none)
  (hdp : A.depth + 3 < recursionLimit) (hun : A.units + 40 < cLine)
  (m1 : (x, instObj 615 dx) ∈ news) (m4 : (dx, (runO r1 r2 r3 r4 r5 r6 r7 r8 r9 r10 r11 r12 r13 r14 r15 r16 r17 r18 r19 q1 q2 q3 q4 q5 q6 q7 q8 q9 q10 q11 q12 q13 q14 q15 q16 q17 q18 q19 y1 y2 y3 (.ref lm) y5 y6 y7 y8 y9 y10 y11 y12 (.ref fl) y14 (.ref pd) (.int st ta) y17 y18 y19)) ∈ news) (m5 : (pd, pdO prg w xs n) ∈ news)
  (hks : KeysAt prg w s.heap xs) (hnd : (xs.map (·.1)).Nodup) (hsm : (pd == sysModules) = false)
  (hp : atKey xs [pat, Str.ofString ""] = some (ka, .ref pr))
  (hret : ∀ h' tk', Fr h₀ L h' m → News h₀ L h' news → Q (.ref pr) { s with heap := h', toks := tk' }) :
  wpAny (model PySem.Challenge.rw_qz0116_01.row.toRowW.1 w) A (call (.ref 659) [.ref x, .str pat tp, .str (Str.ofString "g") tg]) Q E s := by
  refine wpAny_call ?_
  have hin : ∀ p ∈ [(dx, (runO r1 r2 r3 r4 r5 r6 r7 r8 r9 r10 r11 r12 r13 r14 r15 r16 r17 r18 r19 q1 q2 q3 q4 q5 q6 q7 q8 q9 q10 q11 q12 q13 q14 q15 q16 q17 q18 q19 y1 y2 y3 (.ref lm) y5 y6 y7 y8 y9 y10 y11 y12 (.ref fl) y14 (.ref pd) (.int st ta) y17 y18 y19)), (pd, pdO prg w xs n), (x, instObj 615 dx)], p ∈ news := by repeat' (first | exact fn_ | refine fc_ ?_ ?_ | assumption)
  have N2 := News.sub N hin
  (k_dflt (refine' enterS B F X N2 T ?kA hf hke ?k6 ?k7 ?k8 ?k9 ?kB ?_ ?c2 ?c3 ?c4 ?c5; (case kA => exact hA); (case k6 => k_is); (case k7 => k_is); (case k8 => (first | assumption | exact room_d (by assumption) | exact room_f (by assumption) (by decide) | exact room_a (by assumption) (by decide) | exact room_b (by assumption) (by decide) | exact room_c (by assumption) (by decide) | exact room_e (by assumption) (by decide) | omega | (simp only [depth_deeper] at *; omega))); (case k9 => exact BindsTo.of_eq rfl); (case c5 => decide); (case kB => exact locs rfl); (case c2 => exact rfl); (case c3 => exact rfl); (case c4 => exact rfl)))
  intro g L' hq FG F' N' B' X' T' l1 hK hS hL
  (try k_lt l1)
  (try dsimp only); (try k_fold)
  have tg := tup_ground (mods := _) N hin hK (by repeat' (first | exact fn_ | refine fc_ ?_ ?_ | (intro e; simp at e)))
  replace hks : KeysAt prg w g xs := hks.keep tg
  (repeat' (first | ((with_reducible show wpAny _ _ (call (Value.ref 666) _) _ _ _); k_here; k_dflt (apply keep_spec; (case F => k_asm); (case B => k_asm); (case X => k_asm); (case N => k_asm); (case T => k_asm); (case hA => first | exact Around.frames_deeper (Below.stack (by k_asm)) | assumption); (case hf => first | exact rfl | assumption); (case hke => first | exact rfl | assumption); (case hh => assumption); (case hdp => (first | assumption | exact room_d (by assumption) | exact room_f (by assumption) (by decide) | exact room_a (by assumption) (by decide) | exact room_b (by assumption) (by decide) | exact room_c (by assumption) (by decide) | exact room_e (by assumption) (by decide) | omega | (simp only [depth_deeper] at *; omega))); (case hun => (first | exact uni_a (by assumption) (by decide) | exact room_f (by assumption) (by decide) | ((simp only [units_deeper, units_in1]); omega))); (case m1 => k_mem); (case m2 => k_mem); (case m3 => k_mem); (case m4 => k_mem); (case m5 => k_mem); (case U => k_updF); (case hkt => exact News.get (by k_asm) (by k_mem)); (case hks => k_all); (case hnd => k_all); (case hxl => (first | assumption | omega)); (case hsm => assumption); (case ne5 => k_ne); (case ne6 => k_ne); (case hlen => assumption); (case hst => assumption); (case hkp => assumption); (case hget => assumption)); intro st' ts' tk2' n' h' tk' b' F' N'; (try dsimp only at N'); (try k_sweep)) | ((with_reducible show wpAny _ _ (call (Value.ref 577) _) _ _ _); k_here; k_dflt (apply comp_spec; (case F => k_asm); (case B => k_asm); (case X => k_asm); (case N => k_asm); (case T => k_asm); (case hA => first | exact Around.frames_deeper (Below.stack (by k_asm)) | assumption); (case hf => first | exact rfl | assumption); (case hke => first | exact rfl | assumption); (case hh => assumption); (case hpr => assumption); (case hdp => (first | assumption | exact room_d (by assumption) | exact room_f (by assumption) (by decide) | exact room_a (by assumption) (by decide) | exact room_b (by assumption) (by decide) | exact room_c (by assumption) (by decide) | exact room_e (by assumption) (by decide) | omega | (simp only [depth_deeper] at *; omega))); (case hlen => assumption); (case hG => assumption); (case hok => assumption); (case hht => assumption); (case hrw => assumption); (case hng => assumption)); intro a' d' g1' g2' g3' g4' q1' q2' q3' q4' v1' k' t' v3' v4' h' tk' ek' F' N' O'; (try simp only [List.cons_append, List.nil_append, List.append_assoc] at N'); (try k_sweep)) | ((with_reducible show wpAny _ _ (call (Value.ref 646) _) _ _ _); k_here; k_dflt (apply check_ok; (case F => k_asm); (case B => k_asm); (case X => k_asm); (case N => k_asm); (case T => k_asm); (case hA => first | exact Around.frames_deeper (Below.stack (by k_asm)) | assumption); (case hf => first | exact rfl | assumption); (case hke => first | exact rfl | assumption); (case hh => assumption); (case hdp => (first | assumption | exact room_d (by assumption) | exact room_f (by assumption) (by decide) | exact room_a (by assumption) (by decide) | exact room_b (by assumption) (by decide) | exact room_c (by assumption) (by decide) | exact room_e (by assumption) (by decide) | omega | (simp only [depth_deeper] at *; omega))); (case hun => (first | exact uni_a (by assumption) (by decide) | exact room_f (by assumption) (by decide) | ((simp only [units_deeper, units_in1]); omega))); (case m1 => k_mem); (case m2 => k_mem); (case m3 => k_mem); (case m4 => k_mem); (case m5 => k_mem); (case m6 => k_mem); (case hlen => assumption); (case hcnt => assumption); (case hcn => assumption); (case hpl => assumption); (case hwh => assumption); (case hle => assumption)); intro h' tk' F' N'; (try k_sweep)) | ((with_reducible show wpAny _ _ (call (Value.ref 652) _) _ _ _); k_here; k_dflt (apply own_spec; (case F => k_asm); (case B => k_asm); (case X => k_asm); (case N => k_asm); (case T => k_asm); (case hA => first | exact Around.frames_deeper (Below.stack (by k_asm)) | assumption); (case hf => first | exact rfl | assumption); (case hke => first | exact rfl | assumption); (case hh => assumption); (case hdp => (first | assumption | exact room_d (by assumption) | exact room_f (by assumption) (by decide) | exact room_a (by assumption) (by decide) | exact room_b (by assumption) (by decide) | exact room_c (by assumption) (by decide) | exact room_e (by assumption) (by decide) | omega | (simp only [depth_deeper] at *; omega)))); intro t' h' tk' F' N'; (try k_sweep)) | (k_unfold; (try dsimp only)) | (k_end; wrow_close) | walk1 | (dsimp only; walk1) | (leave1; walk_say "STEP leave1"; try dsimp only) | fail "no step"))
  rename Fr g L' _ _ => Fe
  rename Fr h₀ L _ m => kF
  rename News h₀ L _ (_ :: _) => kN
  exact hret _ _ kF (after0 N hin (hK.trans Fe.keep) (News.sub kN (by kcj_in)))
theorem pf_new {p : P} {pat : Str} {tp tg : Tok} {cn kp : Int}
  (B : Below A₀ base outer h₀) (F : Fr h₀ L s.heap m) (X : (pre.heap_1 w.params).In h₀) (N : News h₀ L s.heap news) (T : Top vw lo mean mg mb h₀) (hA : A.frames = some (env :: outer)) (hf : env.frame = some L) (hke : env.scope.kind = .function) (hh : A.handled = none)
  (hdp : A.depth + (6 * p.ht + 30) < recursionLimit) (hun : A.units + 40 < cLine)
  (m1 : (x, instObj 615 dx) ∈ news) (m2 : (lm, instObj 684 dlm) ∈ news) (m3 : (dlm, (limO b1 b2 b3 b4 b5 j1 j2 j3 j4 j5 p1 p2 p3 (.int 100000 tl0) p5)) ∈ news)
  (m4 : (dx, (runO r1 r2 r3 r4 r5 r6 r7 r8 r9 r10 r11 r12 r13 r14 r15 r16 r17 r18 r19 q1 q2 q3 q4 q5 q6 q7 q8 q9 q10 q11 q12 q13 q14 q15 q16 q17 q18 q19 y1 y2 y3 (.ref lm) y5 y6 y7 y8 y9 y10 y11 y12 (.ref fl) y14 (.ref pd) (.int st ta) y17 y18 y19)) ∈ news) (m5 : (pd, pdO prg w xs n) ∈ news)
  (m6 : (fl, listOf #[.ref fr] nf) ∈ news) (m7 : (fr, instObj 637 df) ∈ news) (m8 : (df, (cfO c1 c2 c3 c4 c5 c6 c7 c8 c9 z1 z2 z3 z4 z5 z6 z7 z8 z9 u1 u2 u3 u4 u5 u6 (.int pl tb) (.ref wt) u9)) ∈ news) (m9 : (wt, tupO [.int w0 tc, .int wh te]) ∈ news)
  (U : Upd2 dx pd ((runO r1 r2 r3 r4 r5 r6 r7 r8 r9 r10 r11 r12 r13 r14 r15 r16 r17 r18 r19 q1 q2 q3 q4 q5 q6 q7 q8 q9 q10 q11 q12 q13 q14 q15 q16 q17 q18 q19 y1 y2 y3 (.ref lm) y5 y6 y7 y8 y9 y10 y11 y12 (.ref fl) y14 (.ref pd) (.int st ta) y17 y18 y19)) (pdO prg w xs n) news gg)
  (hks : KeysAt prg w s.heap xs) (hnd : (xs.map (·.1)).Nodup) (hxl : xs.length ≤ 10) (hsm : (pd == sysModules) = false) (ne5 : dx ≠ pd) (ne6 : dlm ≠ pd) (ne7 : df ≠ pd)
  (hlen : pat.length ≤ 100) (hG : Good pat) (hpr : pat.cps.toList = p.print) (hok : p.ok) (hht : p.ht ≤ 40) (hrw : p.rw ≤ 100) (hng : p.ng ≤ 100)
  (hst : 0 ≤ st ∧ st ≤ 10000) (hkp : 0 ≤ kp ∧ kp ≤ 10000) (hget : GetsI xs sgk kp)
  (hcnt : Txt.count pat (Str.ofString "(") = cn) (hcn : 0 ≤ cn ∧ cn ≤ 100) (hpl : 0 ≤ pl ∧ pl ≤ 1000) (hwh : 0 ≤ wh ∧ wh ≤ 1000) (hle : pl + wh + 10 + min (10 * cn) 400 ≤ 880)
  (hp : atKey xs [pat, Str.ofString ""] = none) (hsk : [pat, Str.ofString ""] ≠ sgk)
  (hret : ∀ kt a d t1 t2 g1 g2 g3 g4 o1 o2 o3 o4 v1 k t v3 v4 st' ts' tk n' h' tk', k = (p.ng : Int) → 0 ≤ st' ∧ st' ≤ st + 10 → Fr h₀ L h' m →
     News h₀ L h' (gg ((runO r1 r2 r3 r4 r5 r6 r7 r8 r9 r10 r11 r12 r13 r14 r15 r16 r17 r18 r19 q1 q2 q3 q4 q5 q6 q7 q8 q9 q10 q11 q12 q13 q14 q15 q16 q17 q18 q19 y1 y2 y3 (.ref lm) y5 y6 y7 y8 y9 y10 y11 y12 (.ref fl) y14 (.ref pd) (.int st' ts') y17 y18 y19)) (pdO prg w (storedH (storedH xs sgk 647 (.int (kp + pat.length) tk)) [pat, Str.ofString ""] kt (.ref a)) n') ++ [(kt, tupO [.str pat t1, .str (Str.ofString "") t2]), (a, instObj 98 d), (d, progO g1 g2 g3 g4 o1 o2 o3 o4 v1 (.int k t) v3 v4)]) →
     Off [(kt, tupO [.str pat t1, .str (Str.ofString "") t2]), (a, instObj 98 d), (d, progO g1 g2 g3 g4 o1 o2 o3 o4 v1 (.int k t) v3 v4)] news → Q (.ref a) { s with heap := h', toks := tk' }) :
  wpAny (model PySem.Challenge.rw_qz0116_01.row.toRowW.1 w) A (call (.ref 659) [.ref x, .str pat tp, .str (Str.ofString "g") tg]) Q E s := by
  refine wpAny_call ?_
  have hin : ∀ p ∈ [(dx, (runO r1 r2 r3 r4 r5 r6 r7 r8 r9 r10 r11 r12 r13 r14 r15 r16 r17 r18 r19 q1 q2 q3 q4 q5 q6 q7 q8 q9 q10 q11 q12 q13 q14 q15 q16 q17 q18 q19 y1 y2 y3 (.ref lm) y5 y6 y7 y8 y9 y10 y11 y12 (.ref fl) y14 (.ref pd) (.int st ta) y17 y18 y19)), (pd, pdO prg w xs n), (x, instObj 615 dx), (lm, instObj 684 dlm), (dlm, (limO b1 b2 b3 b4 b5 j1 j2 j3 j4 j5 p1 p2 p3 (.int 100000 tl0) p5)), (fl, listOf #[.ref fr] nf), (fr, instObj 637 df), (df, (cfO c1 c2 c3 c4 c5 c6 c7 c8 c9 z1 z2 z3 z4 z5 z6 z7 z8 z9 u1 u2 u3 u4 u5 u6 (.int pl tb) (.ref wt) u9)), (wt, tupO [.int w0 tc, .int wh te])], p ∈ news := by repeat' (first | exact fn_ | refine fc_ ?_ ?_ | assumption)
  have N2 := News.sub N hin
  have na1 := neN (obj_ne N m1 m4 (by intro e; have q := congrArg Obj.cls e; simp at q))
  have na2 := neN (obj_ne N m1 m5 (by intro e; have q := congrArg Obj.cls e; simp at q))
  have na3 := neN (obj_ne N m2 m4 (by intro e; have q := congrArg Obj.cls e; simp at q))
  have na4 := neN (obj_ne N m2 m5 (by intro e; have q := congrArg Obj.cls e; simp at q))
  have na5 := neN (obj_ne N m3 m4 (by intro e; injection e with _ _ h3; injection h3 with _ h4; cases h4))
  have na6 := neN (obj_ne N m6 m4 (by intro e; have q := congrArg Obj.cls e; simp at q))
  have na7 := neN (obj_ne N m6 m5 (by intro e; have q := congrArg Obj.cls e; simp at q))
  have na8 := neN (obj_ne N m7 m4 (by intro e; have q := congrArg Obj.cls e; simp at q))
  have na9 := neN (obj_ne N m7 m5 (by intro e; have q := congrArg Obj.cls e; simp at q))
  have nb1 := neN (obj_ne N m8 m4 (by intro e; injection e with _ _ h3; injection h3 with _ h4; cases h4))
  have nb2 := neN (obj_ne N m9 m4 (by intro e; have q := congrArg Obj.cls e; simp at q))
  have nb3 := neN (obj_ne N m9 m5 (by intro e; have q := congrArg Obj.cls e; simp at q))
  replace ne5 := neN ne5
  replace ne6 := neN ne6
  replace ne7 := neN ne7
  (k_dflt (refine' enterS B F X N2 T ?kA hf hke ?k6 ?k7 ?k8 ?k9 ?kB ?_ ?c2 ?c3 ?c4 ?c5; (case kA => exact hA); (case k6 => k_is); (case k7 => k_is); (case k8 => (first | assumption | exact room_d (by assumption) | exact room_f (by assumption) (by decide) | exact room_a (by assumption) (by decide) | exact room_b (by assumption) (by decide) | exact room_c (by assumption) (by decide) | exact room_e (by assumption) (by decide) | omega | (simp only [depth_deeper] at *; omega))); (case k9 => exact BindsTo.of_eq rfl); (case c5 => decide); (case kB => exact locs rfl); (case c2 => exact rfl); (case c3 => exact rfl); (case c4 => exact rfl)))
  intro g L' hq FG F' N' B' X' T' l1 hK hS hL
  (try k_lt l1)
  (try dsimp only); (try k_fold)
  replace hks : KeysAt prg w g xs := keys_ground N hin hK (by repeat' (first | exact notKey_int | exact notKey_cls (by intro e; simp at e) | exact fn_ | refine fc_ ?_ ?_)) hks
  have hsg : KeyAt prg w g sgk 647 := key2 (X' _ _ (by k_is))
  (repeat' (first | ((with_reducible show wpAny _ _ (call (Value.ref 666) _) _ _ _); k_here; k_dflt (apply keep_spec; (case F => k_asm); (case B => k_asm); (case X => k_asm); (case N => k_asm); (case T => k_asm); (case hA => first | exact Around.frames_deeper (Below.stack (by k_asm)) | assumption); (case hf => first | exact rfl | assumption); (case hke => first | exact rfl | assumption); (case hh => assumption); (case hdp => (first | assumption | exact room_d (by assumption) | exact room_f (by assumption) (by decide) | exact room_a (by assumption) (by decide) | exact room_b (by assumption) (by decide) | exact room_c (by assumption) (by decide) | exact room_e (by assumption) (by decide) | omega | (simp only [depth_deeper] at *; omega))); (case hun => (first | exact uni_a (by assumption) (by decide) | exact room_f (by assumption) (by decide) | ((simp only [units_deeper, units_in1]); omega))); (case m1 => k_mem); (case m2 => k_mem); (case m3 => k_mem); (case m4 => k_mem); (case m5 => k_mem); (case U => k_updF); (case hkt => exact News.get (by k_asm) (by k_mem)); (case hks => k_all); (case hnd => k_all); (case hxl => (first | assumption | omega)); (case hsm => assumption); (case ne5 => k_ne); (case ne6 => k_ne); (case hlen => assumption); (case hst => assumption); (case hkp => assumption); (case hget => assumption)); intro st' ts' tk2' n' h' tk' b' F' N'; (try dsimp only at N'); (try k_sweep)) | ((with_reducible show wpAny _ _ (call (Value.ref 577) _) _ _ _); k_here; k_dflt (apply comp_spec; (case F => k_asm); (case B => k_asm); (case X => k_asm); (case N => k_asm); (case T => k_asm); (case hA => first | exact Around.frames_deeper (Below.stack (by k_asm)) | assumption); (case hf => first | exact rfl | assumption); (case hke => first | exact rfl | assumption); (case hh => assumption); (case hpr => assumption); (case hdp => (first | assumption | exact room_d (by assumption) | exact room_f (by assumption) (by decide) | exact room_a (by assumption) (by decide) | exact room_b (by assumption) (by decide) | exact room_c (by assumption) (by decide) | exact room_e (by assumption) (by decide) | omega | (simp only [depth_deeper] at *; omega))); (case hlen => assumption); (case hG => assumption); (case hok => assumption); (case hht => assumption); (case hrw => assumption); (case hng => assumption)); intro a' d' g1' g2' g3' g4' q1' q2' q3' q4' v1' k' t' v3' v4' h' tk' ek' F' N' O'; (try simp only [List.cons_append, List.nil_append, List.append_assoc] at N'); (try k_sweep)) | ((with_reducible show wpAny _ _ (call (Value.ref 646) _) _ _ _); k_here; k_dflt (apply check_ok; (case F => k_asm); (case B => k_asm); (case X => k_asm); (case N => k_asm); (case T => k_asm); (case hA => first | exact Around.frames_deeper (Below.stack (by k_asm)) | assumption); (case hf => first | exact rfl | assumption); (case hke => first | exact rfl | assumption); (case hh => assumption); (case hdp => (first | assumption | exact room_d (by assumption) | exact room_f (by assumption) (by decide) | exact room_a (by assumption) (by decide) | exact room_b (by assumption) (by decide) | exact room_c (by assumption) (by decide) | exact room_e (by assumption) (by decide) | omega | (simp only [depth_deeper] at *; omega))); (case hun => (first | exact uni_a (by assumption) (by decide) | exact room_f (by assumption) (by decide) | ((simp only [units_deeper, units_in1]); omega))); (case m1 => k_mem); (case m2 => k_mem); (case m3 => k_mem); (case m4 => k_mem); (case m5 => k_mem); (case m6 => k_mem); (case hlen => assumption); (case hcnt => assumption); (case hcn => assumption); (case hpl => assumption); (case hwh => assumption); (case hle => assumption)); intro h' tk' F' N'; (try k_sweep)) | ((with_reducible show wpAny _ _ (call (Value.ref 652) _) _ _ _); k_here; k_dflt (apply own_spec; (case F => k_asm); (case B => k_asm); (case X => k_asm); (case N => k_asm); (case T => k_asm); (case hA => first | exact Around.frames_deeper (Below.stack (by k_asm)) | assumption); (case hf => first | exact rfl | assumption); (case hke => first | exact rfl | assumption); (case hh => assumption); (case hdp => (first | assumption | exact room_d (by assumption) | exact room_f (by assumption) (by decide) | exact room_a (by assumption) (by decide) | exact room_b (by assumption) (by decide) | exact room_c (by assumption) (by decide) | exact room_e (by assumption) (by decide) | omega | (simp only [depth_deeper] at *; omega)))); intro t' h' tk' F' N'; (try k_sweep)) | (k_unfold; (try dsimp only)) | (k_end; wrow_close) | walk1 | (dsimp only; walk1) | (leave1; walk_say "STEP leave1"; try dsimp only) | fail "no step"))
  rename Fr g L' _ _ => Fe
  rename News g L' _ _ => Ne
  rename Fr h₀ L _ m => kF
  rename News h₀ L _ (_ :: _) => kN
  rename Off _ _ => OO
  obtain ⟨zz1, zz2⟩ := back2t (sub := [(x, instObj 615 dx), (lm, instObj 684 dlm), (dlm, (limO b1 b2 b3 b4 b5 j1 j2 j3 j4 j5 p1 p2 p3 (.int 100000 tl0) p5)), (fl, listOf #[.ref fr] nf), (fr, instObj 637 df), (df, (cfO c1 c2 c3 c4 c5 c6 c7 c8 c9 z1 z2 z3 z4 z5 z6 z7 z8 z9 u1 u2 u3 u4 u5 u6 (.int pl tb) (.ref wt) u9)), (wt, tupO [.int w0 tc, .int wh te])]) (tl := [(_, tupO [.str pat _, .str (Str.ofString "") _]), (_, instObj 98 _), (_, progO _ _ _ _ _ _ _ _ _ _ _ _)]) N U hin hK Fe Ne kN (by kcj_in) (by kcj_in) (by
    intro q hq p hp
    rcases List.mem_cons.mp hp with rfl | hp
    · simp only [List.mem_cons, List.not_mem_nil, or_false] at hq
      rcases hq with rfl | rfl | rfl | rfl | rfl | rfl | rfl | rfl | rfl <;> k_ne
    · exact OO p hp q ((by kcj_in : ∀ q ∈ _, q ∈ _) q hq))
  exact hret _ _ _ _ _ _ _ _ _ _ _ _ _ _ _ _ _ _ _ _ _ _ _ _ (by assumption) (by assumption) kF zz1 zz2
end

end Mine
end
-- S22
section
open PySem PySem.W PyProof.Rows PySem.Calls PySem.Spec
namespace Mine
local macro_rules | `(tactic| walk_at "subscriptTail Name Name ref ref") => `(tactic| walk_at "subscriptTail Attribute Name ref ref")
local macro_rules | `(tactic| walk_at "leaving ref") => `(tactic| (refine hold ?_))
section
variable {w : World} {vw : Program} {lo : List Str} {mean : ExcName → Option Value} {mg mb : Str → Option Value} {A₀ A : Around} {base h₀ : Heap} {env : Env} {outer : List Env} {L : Addr} {m : Str → Option Value} {s : Shared} {Q E : Value → Shared → Prop} {news : List (Addr × Obj)}
  {x dx : Addr} {txt : Str} {t1 t3 t4 t5 : Tok} {i gn dn : Int} {h1 h2 h3 h4 h5 h6 h7 : Int} {k1 k2 k3 k4 k5 k6 k7 : Tok} {v2 v4 v5 v6 v7 : Value}
variable {r1 r2 r3 r4 r5 r6 r7 r8 r9 r10 r11 r12 r13 r14 r15 r16 r17 r18 r19 c1 c2 c3 c4 c5 c6 c7 c8 c9 : Int} {q1 q2 q3 q4 q5 q6 q7 q8 q9 q10 q11 q12 q13 q14 q15 q16 q17 q18 q19 z1 z2 z3 z4 z5 z6 z7 z8 z9 : Tok} {y1 y2 y3 y5 y6 y7 y8 y9 y10 y11 y12 y14 y17 y18 y19 u1 u2 u3 u4 u5 u6 u9 : Value} {fl fr df wt pd lm : Addr} {nfl st pl wh w0 : Int} {nf : Nat} {ta tb tc te : Tok}
variable {xs : PX} {n : Nat}
theorem pf_die {pat : Str} {tp tg : Tok} {cn : Int}
  (B : Below A₀ base outer h₀) (F : Fr h₀ L s.heap m) (X : (pre.heap_1 w.params).In h₀) (N : News h₀ L s.heap news) (T : Top vw lo mean mg mb h₀) (hA : A.frames = some (env :: outer)) (hf : env.frame = some L) (hke : env.scope.kind = .function) (hh : A.handled = none)
  (hdp : A.depth + 8 < recursionLimit) (hun : A.units + 40 < cLine)
  (m1 : (x, instObj 615 dx) ∈ news)
  (m4 : (dx, (runO r1 r2 r3 r4 r5 r6 r7 r8 r9 r10 r11 r12 r13 r14 r15 r16 r17 r18 r19 q1 q2 q3 q4 q5 q6 q7 q8 q9 q10 q11 q12 q13 q14 q15 q16 q17 q18 q19 y1 y2 y3 (.ref lm) y5 y6 y7 y8 y9 y10 y11 y12 (.ref fl) y14 (.ref pd) (.int st ta) y17 y18 y19)) ∈ news) (m5 : (pd, pdO prg w xs n) ∈ news)
  (m6 : (fl, listOf #[.ref fr] nf) ∈ news) (m7 : (fr, instObj 637 df) ∈ news) (m8 : (df, (cfO c1 c2 c3 c4 c5 c6 c7 c8 c9 z1 z2 z3 z4 z5 z6 z7 z8 z9 u1 u2 u3 u4 u5 u6 (.int pl tb) (.ref wt) u9)) ∈ news) (m9 : (wt, tupO [.int w0 tc, .int wh te]) ∈ news)
  (hks : KeysAt prg w s.heap xs) (hnd : (xs.map (·.1)).Nodup) (hsm : (pd == sysModules) = false)
  (hlen : pat.length ≤ 100)
  (hcnt : Txt.count pat (Str.ofString "(") = cn) (hcn : 0 ≤ cn ∧ cn ≤ 100) (hpl : 0 ≤ pl ∧ pl ≤ 1000) (hwh : 0 ≤ wh ∧ wh ≤ 1000) (hle : pl + wh + 10 + min (10 * cn) 400 > 880)
  (hp : atKey xs [pat, Str.ofString ""] = none)
  (hret : ∀ e D k u v1 k2 u2 tv h' tk', Flown base s.heap (frs (env :: outer)) (env :: outer) e D (dictOf [⟨k, .str (Str.ofString "text") u, v1⟩, ⟨k2, .str (Str.ofString "value") u2, .str (Str.ofString "Deep recursion") tv⟩] 2) (some .none) h' → E (.ref e) { s with heap := h', toks := tk' }) :
  wpAny (model PySem.Challenge.rw_qz0116_01.row.toRowW.1 w) A (call (.ref 659) [.ref x, .str pat tp, .str (Str.ofString "g") tg]) Q E s := by
  refine wpAny_call ?_
  have hin : ∀ p ∈ [(dx, (runO r1 r2 r3 r4 r5 r6 r7 r8 r9 r10 r11 r12 r13 r14 r15 r16 r17 r18 r19 q1 q2 q3 q4 q5 q6 q7 q8 q9 q10 q11 q12 q13 q14 q15 q16 q17 q18 q19 y1 y2 y3 (.ref lm) y5 y6 y7 y8 y9 y10 y11 y12 (.ref fl) y14 (.ref pd) (.int st ta) y17 y18 y19)), (pd, pdO prg w xs n), (x, instObj 615 dx), (fl, listOf #[.ref fr] nf), (fr, instObj 637 df), (df, (cfO c1 c2 c3 c4 c5 c6 c7 c8 c9 z1 z2 z3 z4 z5 z6 z7 z8 z9 u1 u2 u3 u4 u5 u6 (.int pl tb) (.ref wt) u9)), (wt, tupO [.int w0 tc, .int wh te])], p ∈ news := by repeat' (first | exact fn_ | refine fc_ ?_ ?_ | assumption)
  have N2 := News.sub N hin
  (k_dflt (refine' enterS B F X N2 T ?kA hf hke ?k6 ?k7 ?k8 ?k9 ?kB ?_ ?c2 ?c3 ?c4 ?c5; (case kA => exact hA); (case k6 => k_is); (case k7 => k_is); (case k8 => (first | assumption | exact room_d (by assumption) | exact room_f (by assumption) (by decide) | exact room_a (by assumption) (by decide) | exact room_b (by assumption) (by decide) | exact room_c (by assumption) (by decide) | exact room_e (by assumption) (by decide) | omega | (simp only [depth_deeper] at *; omega))); (case k9 => exact BindsTo.of_eq rfl); (case c5 => decide); (case kB => exact locs rfl); (case c2 => exact rfl); (case c3 => exact rfl); (case c4 => exact rfl)))
  intro g L' hq FG F' N' B' X' T' l1 hK hS hL
  (try k_lt l1)
  (try dsimp only); (try k_fold)
  replace hks : KeysAt prg w g xs := keys_ground N hin hK (by repeat' (first | exact notKey_int | exact notKey_cls (by intro e; simp at e) | exact fn_ | refine fc_ ?_ ?_)) hks
  (repeat' (first | ((with_reducible show wpAny _ _ (call (Value.ref 646) _) _ _ _); k_here; k_dflt (apply check_die; (case F => k_asm); (case B => k_asm); (case X => k_asm); (case N => k_asm); (case T => k_asm); (case hA => first | exact Around.frames_deeper (Below.stack (by k_asm)) | assumption); (case hf => first | exact rfl | assumption); (case hke => first | exact rfl | assumption); (case hh => assumption); (case hdp => (first | assumption | exact room_d (by assumption) | exact room_f (by assumption) (by decide) | exact room_a (by assumption) (by decide) | exact room_b (by assumption) (by decide) | exact room_c (by assumption) (by decide) | exact room_e (by assumption) (by decide) | omega | (simp only [depth_deeper] at *; omega))); (case hun => (first | exact uni_a (by assumption) (by decide) | exact room_f (by assumption) (by decide) | ((simp only [units_deeper, units_in1]); omega))); (case m1 => k_mem); (case m2 => k_mem); (case m3 => k_mem); (case m4 => k_mem); (case m5 => k_mem); (case m6 => k_mem); (case hlen => assumption); (case hcnt => assumption); (case hcn => assumption); (case hpl => assumption); (case hwh => assumption); (case hle => assumption)); intro e' D' k' u' v1' k2' u2' tv' h' tk' Y'; (try dsimp only)) | ((with_reducible show wpAny _ _ (call (Value.ref 652) _) _ _ _); k_here; k_dflt (apply own_spec; (case F => k_asm); (case B => k_asm); (case X => k_asm); (case N => k_asm); (case T => k_asm); (case hA => first | exact Around.frames_deeper (Below.stack (by k_asm)) | assumption); (case hf => first | exact rfl | assumption); (case hke => first | exact rfl | assumption); (case hh => assumption); (case hdp => (first | assumption | exact room_d (by assumption) | exact room_f (by assumption) (by decide) | exact room_a (by assumption) (by decide) | exact room_b (by assumption) (by decide) | exact room_c (by assumption) (by decide) | exact room_e (by assumption) (by decide) | omega | (simp only [depth_deeper] at *; omega)))); intro t' h' tk' F' N'; (try k_sweep)) | (k_unfold; (try dsimp only)) | (k_end; wrow_close) | walk1 | (dsimp only; walk1) | (leave1; walk_say "STEP leave1"; try dsimp only) | fail "no step"))
  unfold Hold
  rename Fr g L' _ _ => Fe
  rename News g L' _ (_ :: _) => Ne
  rename Flown _ _ _ _ _ _ _ _ _ => FL
  refine' flown_leave (base := base) (.inr rfl) ?c1 ?c2 FL ?_
  case c1 => exact Around.frames_deeper (Below.stack B')
  case c2 => exact rfl
  intro h' Y
  have hk := all_kept (mods := [(dx, (runO r1 r2 r3 r4 r5 r6 r7 r8 r9 r10 r11 r12 r13 r14 r15 r16 r17 r18 r19 q1 q2 q3 q4 q5 q6 q7 q8 q9 q10 q11 q12 q13 q14 q15 q16 q17 q18 q19 y1 y2 y3 (.ref lm) y5 y6 y7 y8 y9 y10 y11 y12 (.ref fl) y14 (.ref pd) (.int st ta) y17 y18 y19)), (pd, pdO prg w xs n), (x, instObj 615 dx), (fl, listOf #[.ref fr] nf), (fr, instObj 637 df), (df, (cfO c1 c2 c3 c4 c5 c6 c7 c8 c9 z1 z2 z3 z4 z5 z6 z7 z8 z9 u1 u2 u3 u4 u5 u6 (.int pl tb) (.ref wt) u9)), (wt, tupO [.int w0 tc, .int wh te])]) N hin hK Fe Ne (by kcj_in)
  exact hret _ _ _ _ _ _ _ _ _ _ ((Y.below hk).narrow (by rw [hL]; exact Heap.get?_none_of_le (Nat.le_refl _)))
end

end Mine
end
-- S23
section
open PySem PySem.W PyProof.Rows PySem.Calls PySem.Spec
namespace Mine
abbrev crK (rl : Addr) (i : Int) (t : Tok) : List (Str × Value) := [(Str.ofString "row", .ref rl), (Str.ofString "at", .int i t)]
section
variable {w : World} {vw : Program} {lo : List Str} {mean : ExcName → Option Value} {mg mb : Str → Option Value} {A₀ A : Around} {base h₀ : Heap} {env : Env} {outer : List Env} {L : Addr} {m : Str → Option Value} {s : Shared} {Q E : Value → Shared → Prop} {news : List (Addr × Obj)}
  {x dx : Addr} {txt : Str} {t1 t3 t4 t5 : Tok} {i gn dn : Int} {h1 h2 h3 h4 h5 h6 h7 : Int} {k1 k2 k3 k4 k5 k6 k7 : Tok} {v2 v4 v5 v6 v7 : Value}
variable {cr rl : Addr} {o : Obj} {vs : List Value} {ns : List Int} {nr : Nat} {spot many : Int} {tm : Tok} {gg : Obj → List (Addr × Obj)}
theorem lift_spec
  (B : Below A₀ base outer h₀) (F : Fr h₀ L s.heap m) (X : (pre.heap_1 w.params).In h₀) (N : News h₀ L s.heap news) (T : Top vw lo mean mg mb h₀) (hA : A.frames = some (env :: outer)) (hf : env.frame = some L) (hke : env.scope.kind = .function) (hh : A.handled = none)
  (hdp : A.depth + 2 < recursionLimit) (hun : A.units + 20 < cLine)
  (U : UpdF cr o news gg) (hd : o.IsDictOf (PySem.strKind prg w) (crK rl spot t1)) (m2 : (rl, listOf vs.toArray nr) ∈ news) (hi : IntsAre vs ns) (hns : ns.length ≤ 63)
  (hsp : 0 ≤ spot ∧ spot ≤ 100) (hmany : 0 < many ∧ many ≤ 100)
  (hret : ∀ r t t' o' h' tk', 0 ≤ r ∧ r < many → Fr h₀ L h' m → News h₀ L h' (gg o') → o'.IsDictOf (PySem.strKind prg w) (crK rl (spot + 1) t') → Q (.int r t) { s with heap := h', toks := tk' }) :
  wpAny (model PySem.Challenge.rw_qz0116_01.row.toRowW.1 w) A (call (.ref 696) [.ref cr, .int many tm]) Q E s := by
  refine wpAny_call ?_
  have hin : ∀ p ∈ [(rl, listOf vs.toArray nr), (cr, o)], p ∈ news := in2 m2 (UpdF.mem U)
  have N2 := News.sub N hin
  have ne1 := neN (obj_ne N (UpdF.mem U) m2 (by intro e; obtain ⟨_, _, hx, _⟩ := hd; have q := hx.1; rw [e] at q; simp at q))
  (k_dflt (refine' enterS B F X N2 T ?kA hf hke ?k6 ?k7 ?k8 ?k9 ?kB ?_ ?c2 ?c3 ?c4 ?c5; (case kA => exact hA); (case k6 => k_is); (case k7 => k_is); (case k8 => (first | assumption | exact room_d (by assumption) | exact room_f (by assumption) (by decide) | exact room_a (by assumption) (by decide) | exact room_b (by assumption) (by decide) | exact room_c (by assumption) (by decide) | exact room_e (by assumption) (by decide) | omega | (simp only [depth_deeper] at *; omega))); (case k9 => exact BindsTo.of_eq rfl); (case c5 => decide); (case kB => exact locs rfl); (case c2 => exact rfl); (case c3 => exact rfl); (case c4 => exact rfl)))
  intro g L' hq FG F' N' B' X' T' l1 hK hS hL
  (try k_lt l1)
  (try dsimp only); (try k_fold)
  k_steps
  all_goals
    rename Fr g L' _ _ => Fe
    rename Fr h₀ L _ m => kF
    rename News h₀ L _ (_ :: _) => kN
    rename Obj.IsDictOf _ _ _ => hd2
    exact hret _ _ _ _ _ _ ⟨fmod_lo _ hmany.1, fmod_hi _ hmany.1⟩ kF (after1n N U m2 (hK.trans Fe.keep) (News.sub kN (by kcj_in))) hd2
end

end Mine
end
-- PLaw
section
open PySem PySem.W PyProof.Rows PySem.Calls PySem.Spec
namespace Mine
namespace P
noncomputable def nest (c : Nat) : Nat → P
  | 0 => .sign c .nil
  | k + 1 => .group (nest c k) .nil
noncomputable def flat (c : Nat) : Nat → P
  | 0 => .sign c .nil
  | k + 1 => .group (.sign c .nil) (flat c k)
theorem nest_facts (c : Nat) (hc : c = 97 ∨ c = 98 ∨ c = 99) : ∀ k, (nest c k).ok ∧ (nest c k).ht = k ∧ (nest c k).ng = k ∧ (nest c k).rw = 2 * k + 1 ∧ (nest c k).print.length = 2 * k + 1
  | 0 => ⟨⟨hc, trivial⟩, rfl, rfl, rfl, rfl⟩
  | k + 1 => by
    obtain ⟨a, b, d, e, f⟩ := nest_facts c hc k
    refine ⟨⟨a, trivial⟩, ?_, ?_, ?_, ?_⟩
    · show max ((nest c k).ht + 1) 0 = k + 1; omega
    · show (nest c k).ng + 1 + 0 = k + 1; omega
    · show (nest c k).rw + 2 + 0 = 2 * (k + 1) + 1; omega
    · show (40 :: ((nest c k).print ++ 41 :: [])).length = 2 * (k + 1) + 1
      simp only [List.length_cons, List.length_append, List.length_nil]; omega
theorem flat_facts (c : Nat) (hc : c = 97 ∨ c = 98 ∨ c = 99) : ∀ k, (flat c k).ok ∧ (flat c k).ht ≤ 1 ∧ (flat c k).ng = k ∧ (flat c k).rw = 3 * k + 1 ∧ (flat c k).print.length = 3 * k + 1
  | 0 => ⟨⟨hc, trivial⟩, Nat.zero_le _, rfl, rfl, rfl⟩
  | k + 1 => by
    obtain ⟨a, b, d, e, f⟩ := flat_facts c hc k
    refine ⟨⟨⟨hc, trivial⟩, a⟩, ?_, ?_, ?_, ?_⟩
    · show max (0 + 1) (flat c k).ht ≤ 1; omega
    · show 0 + 1 + (flat c k).ng = k + 1; omega
    · show 0 + 1 + 2 + (flat c k).rw = 3 * (k + 1) + 1; omega
    · show (40 :: ([c] ++ 41 :: (flat c k).print)).length = 3 * (k + 1) + 1
      simp only [List.length_cons, List.length_append, List.length_nil]; omega
theorem print_good : ∀ (p : P), p.ok → ∀ c ∈ p.print, good c = true
  | .nil, _ => fun c h => nomatch h
  | .sign c r, h => fun d hd => by
    rcases List.mem_cons.mp hd with e | hd
    · rcases h.1 with q | q | q <;> (rw [e, q]; decide)
    · exact print_good r h.2 d hd
  | .group q r, h => fun d hd => by
    rcases List.mem_cons.mp hd with e | hd
    · rw [e]; decide
    · rcases List.mem_append.mp hd with hd | hd
      · exact print_good q h.1 d hd
      · rcases List.mem_cons.mp hd with e | hd
        · rw [e]; decide
        · exact print_good r h.2 d hd
end P
abbrev patN (n r : Int) : Str := Txt.mul (Str.ofString "(") n ++ Txt.item (Str.ofString "abc") r ++ Txt.mul (Str.ofString ")") n
abbrev patF (n r : Int) : Str := Txt.mul (Str.ofString "(" ++ Txt.item (Str.ofString "abc") r ++ Str.ofString ")") n ++ Txt.item (Str.ofString "abc") r
theorem pick {P : Int → Int → Prop} {n r : Int} (hn : 0 ≤ n ∧ n < 10) (hr : 0 ≤ r ∧ r < 3) (h : ∀ n ∈ ([0, 1, 2, 3, 4, 5, 6, 7, 8, 9] : List Int), ∀ r ∈ ([0, 1, 2] : List Int), P n r) : P n r := by
  obtain ⟨a, rfl⟩ := Int.eq_ofNat_of_zero_le hn.1
  obtain ⟨b, rfl⟩ := Int.eq_ofNat_of_zero_le hr.1
  have ha : a < 10 := Int.ofNat_lt.mp hn.2
  have hb : b < 3 := Int.ofNat_lt.mp hr.2
  exact h a ((by decide : ∀ a < 10, ((a : Nat) : Int) ∈ ([0, 1, 2, 3, 4, 5, 6, 7, 8, 9] : List Int)) a ha) b ((by decide : ∀ b < 3, ((b : Nat) : Int) ∈ ([0, 1, 2] : List Int)) b hb)
theorem patN_print {n r : Int} (hn : 0 ≤ n ∧ n < 10) (hr : 0 ≤ r ∧ r < 3) : (patN n r).cps.toList = (P.nest (97 + r.toNat) n.toNat).print ∧ Txt.count (patN n r) (Str.ofString "(") = n :=
  pick (P := fun n r => (patN n r).cps.toList = (P.nest (97 + r.toNat) n.toNat).print ∧ Txt.count (patN n r) (Str.ofString "(") = n) hn hr (by decide +kernel)
theorem patF_print {n r : Int} (hn : 0 ≤ n ∧ n < 10) (hr : 0 ≤ r ∧ r < 3) : (patF n r).cps.toList = (P.flat (97 + r.toNat) n.toNat).print ∧ Txt.count (patF n r) (Str.ofString "(") = n :=
  pick (P := fun n r => (patF n r).cps.toList = (P.flat (97 + r.toNat) n.toNat).print ∧ Txt.count (patF n r) (Str.ofString "(") = n) hn hr (by decide +kernel)
theorem mulOk_g {n r : Int} (hn : 0 ≤ n ∧ n < 10) (hr : 0 ≤ r ∧ r < 3) : MulOk (Str.ofString "(" ++ Txt.item (Str.ofString "abc") r ++ Str.ofString ")") n := by
  have hl : (Str.ofString "(" ++ Txt.item (Str.ofString "abc") r ++ Str.ofString ")").length ≤ 16 := pick (P := fun _ r => (Str.ofString "(" ++ Txt.item (Str.ofString "abc") r ++ Str.ofString ")").length ≤ 16) hn hr (by decide +kernel)
  exact mulOk_of 16 1048576 hl (by omega) (by omega) (by decide) (by decide)
theorem addG {n r : Int} (hn : 0 ≤ n ∧ n < 10) (hr : 0 ≤ r ∧ r < 3) : (Txt.mul (Str.ofString "(" ++ Txt.item (Str.ofString "abc") r ++ Str.ofString ")") n).length + (Txt.item (Str.ofString "abc") r).length ≤ sizeLine := by
  have hl : (Txt.mul (Str.ofString "(" ++ Txt.item (Str.ofString "abc") r ++ Str.ofString ")") n).length + (Txt.item (Str.ofString "abc") r).length ≤ 50 := pick (P := fun n r => (Txt.mul (Str.ofString "(" ++ Txt.item (Str.ofString "abc") r ++ Str.ofString ")") n).length + (Txt.item (Str.ofString "abc") r).length ≤ 50) hn hr (by decide +kernel)
  rw [sizeLine_eq]; omega
/-- what a drawn pattern is -/
def PatOk (pat : Str) (cn : Int) : Prop := ∃ p : P, pat.cps.toList = p.print ∧ p.ok ∧ p.ht ≤ 9 ∧ (p.ng : Int) = cn ∧ p.ng ≤ 9 ∧ p.rw ≤ 40 ∧ pat.length ≤ 40 ∧ Good pat ∧ Txt.count pat (Str.ofString "(") = cn
theorem patOk_of {pat : Str} {p : P} {n : Int} (hn : 0 ≤ n ∧ n < 10) (e : pat.cps.toList = p.print) (hc : Txt.count pat (Str.ofString "(") = n) (ok : p.ok) (ht : p.ht ≤ 9) (ng : p.ng = n.toNat) (rw' : p.rw ≤ 40) (len : p.print.length ≤ 40) : PatOk pat n :=
  ⟨p, e, ok, ht, by omega, by omega, rw', by rw [← e] at len; exact len, fun c h => P.print_good p ok c (e ▸ h), hc⟩
theorem patN_ok {n r : Int} (hn : 0 ≤ n ∧ n < 10) (hr : 0 ≤ r ∧ r < 3) : PatOk (patN n r) n := by
  obtain ⟨e, c⟩ := patN_print hn hr
  obtain ⟨a1, a2, a3, a4, a5⟩ := P.nest_facts (97 + r.toNat) (by omega) n.toNat
  exact patOk_of hn e c a1 (by omega) a3 (by omega) (by omega)
theorem patF_ok {n r : Int} (hn : 0 ≤ n ∧ n < 10) (hr : 0 ≤ r ∧ r < 3) : PatOk (patF n r) n := by
  obtain ⟨e, c⟩ := patF_print hn hr
  obtain ⟨a1, a2, a3, a4, a5⟩ := P.flat_facts (97 + r.toNat) (by omega) n.toNat
  exact patOk_of hn e c a1 (by omega) a3 (by omega) (by omega)

end Mine
end
-- S24
section
open PySem PySem.W PyProof.Rows PySem.Calls PySem.Spec
namespace Mine
local macro_rules | `(tactic| walk_at "binaryOp Mult str int") => `(tactic| (k_here; (refine SB.mul (mulOk_g (by assumption) (by assumption)) ?_); intro _ _))
local macro_rules | `(tactic| walk_at "binaryOp Add str str") => `(tactic| (k_here; (refine SB.add ?_ (addG (by assumption) (by assumption))); intro _ _))
section
variable {w : World} {vw : Program} {lo : List Str} {mean : ExcName → Option Value} {mg mb : Str → Option Value} {A₀ A : Around} {base h₀ : Heap} {env : Env} {outer : List Env} {L : Addr} {m : Str → Option Value} {s : Shared} {Q E : Value → Shared → Prop} {news : List (Addr × Obj)}
  {x dx : Addr} {txt : Str} {t1 t3 t4 t5 : Tok} {i gn dn : Int} {h1 h2 h3 h4 h5 h6 h7 : Int} {k1 k2 k3 k4 k5 k6 k7 : Tok} {v2 v4 v5 v6 v7 : Value}
variable {cr rl : Addr} {o : Obj} {vs : List Value} {ns : List Int} {nr : Nat} {spot : Int} {gg : Obj → List (Addr × Obj)}
theorem pat_spec
  (B : Below A₀ base outer h₀) (F : Fr h₀ L s.heap m) (X : (pre.heap_1 w.params).In h₀) (N : News h₀ L s.heap news) (T : Top vw lo mean mg mb h₀) (hA : A.frames = some (env :: outer)) (hf : env.frame = some L) (hke : env.scope.kind = .function) (hh : A.handled = none)
  (hdp : A.depth + 4 < recursionLimit) (hun : A.units + 40 < cLine)
  (U : UpdF cr o news gg) (hd : o.IsDictOf (PySem.strKind prg w) (crK rl spot t1)) (m2 : (rl, listOf vs.toArray nr) ∈ news) (hi : IntsAre vs ns) (hns : ns.length ≤ 63)
  (hsp : 0 ≤ spot ∧ spot ≤ 90)
  (hret : ∀ a pat t t2 t' cn o' h' tk', PatOk pat cn → 0 ≤ cn ∧ cn < 10 → Fr h₀ L h' m → News h₀ L h' (gg o' ++ [(a, tupO [.str pat t, .int cn t2])]) → Off [(a, tupO [.str pat t, .int cn t2])] news → o'.IsDictOf (PySem.strKind prg w) (crK rl (spot + 1 + 1 + 1) t') → Q (.ref a) { s with heap := h', toks := tk' }) :
  wpAny (model PySem.Challenge.rw_qz0116_01.row.toRowW.1 w) A (call (.ref 703) [.ref cr]) Q E s := by
  refine wpAny_call ?_
  have hin : ∀ p ∈ [(rl, listOf vs.toArray nr), (cr, o)], p ∈ news := in2 m2 (UpdF.mem U)
  have N2 := News.sub N hin
  have ne1 := neN (obj_ne N (UpdF.mem U) m2 (by intro e; obtain ⟨_, _, hx, _⟩ := hd; have q := hx.1; rw [e] at q; simp at q))
  (k_dflt (refine' enterS B F X N2 T ?kA hf hke ?k6 ?k7 ?k8 ?k9 ?kB ?_ ?c2 ?c3 ?c4 ?c5; (case kA => exact hA); (case k6 => k_is); (case k7 => k_is); (case k8 => (first | assumption | exact room_d (by assumption) | exact room_f (by assumption) (by decide) | exact room_a (by assumption) (by decide) | exact room_b (by assumption) (by decide) | exact room_c (by assumption) (by decide) | exact room_e (by assumption) (by decide) | omega | (simp only [depth_deeper] at *; omega))); (case k9 => exact BindsTo.of_eq rfl); (case c5 => decide); (case kB => exact locs rfl); (case c2 => exact rfl); (case c3 => exact rfl); (case c4 => exact rfl)))
  intro g L' hq FG F' N' B' X' T' l1 hK hS hL
  (try k_lt l1)
  (try dsimp only); (try k_fold)
  (repeat' (first | ((with_reducible show wpAny _ _ (call (Value.ref 696) _) _ _ _); k_here; k_dflt (apply lift_spec; (case F => k_asm); (case B => k_asm); (case X => k_asm); (case N => k_asm); (case T => k_asm); (case hA => first | exact Around.frames_deeper (Below.stack (by k_asm)) | assumption); (case hf => first | exact rfl | assumption); (case hke => first | exact rfl | assumption); (case hh => assumption); (case hdp => (first | assumption | exact room_d (by assumption) | exact room_f (by assumption) (by decide) | exact room_a (by assumption) (by decide) | exact room_b (by assumption) (by decide) | exact room_c (by assumption) (by decide) | exact room_e (by assumption) (by decide) | omega | (simp only [depth_deeper] at *; omega))); (case hun => (first | exact uni_a (by assumption) (by decide) | exact room_f (by assumption) (by decide) | ((simp only [units_deeper, units_in1]); omega))); (case U => k_updF); (case hd => assumption); (case m2 => k_mem); (case hi => assumption); (case hns => first | assumption | omega); (case hsp => (first | assumption | omega)); (case hmany => (first | assumption | omega))); intro r' t' t2' o' h' tk' rb' F' N' hd'; (try dsimp only at N'); (try k_sweep)) | (k_unfold; (try dsimp only)) | (k_end; wrow_close) | walk1 | (dsimp only; walk1) | (leave1; walk_say "STEP leave1"; try dsimp only) | fail "no step"))
  · rename Fr g L' _ _ => Fe
    rename News g L' _ _ => Ne
    rename Fr h₀ L _ m => kF
    rename News h₀ L _ (_ :: _) => kN
    rename Obj.IsDictOf _ _ _ => hd2
    obtain ⟨zz1, zz2⟩ := back (tl := [(_, tupO [_, _])]) N U m2 hK Fe Ne kN (by kcj_in) (by k_all) (by k_all)
    exact hret _ _ _ _ _ _ _ _ _ (patN_ok (by assumption) (by assumption)) (by assumption) kF zz1 zz2 hd2
  · rename Fr g L' _ _ => Fe
    rename News g L' _ _ => Ne
    rename Fr h₀ L _ m => kF
    rename News h₀ L _ (_ :: _) => kN
    rename Obj.IsDictOf _ _ _ => hd2
    obtain ⟨zz1, zz2⟩ := back (tl := [(_, tupO [_, _])]) N U m2 hK Fe Ne kN (by kcj_in) (by k_all) (by k_all)
    exact hret _ _ _ _ _ _ _ _ _ (patF_ok (by assumption) (by assumption)) (by assumption) kF zz1 zz2 hd2
end

end Mine
end
-- X11
section
open PySem PySem.W PyProof.Rows PySem.Calls PySem.Spec
open LCg LCt
namespace Mine
open LCg LCt
/-- a dict, its entries written out -/
def DictHere (h : Heap) (d : Addr) (es : List DictEntry) (ep : Nat) : Prop := h.get? d = some (dictOf es ep)
section
variable {prog : Program} {w : World} {A : Around} {E : Value → Shared → Prop} {s : Shared} {it d I : Addr} {es : List DictEntry} {i ep : Nat}
theorem keyiter_start {Q : Value → Shared → Prop} (hd : (d == sysModules) = false) (hm : DictHere s.heap d es ep)
    (hQ : Q (.ref s.heap.objs.size) { s with heap := s.heap.push { cls := .type "dict_keyiterator", data := .fields #[.ref d, .int 0 0, .int es.length 0, .int ep 0] } }) :
    wpAny (model prog w) A (pyIter (.ref d)) Q E s := by
  have hT : s.TypeIs (.ref d) "dict" := ⟨_, hm, rfl⟩
  refine wpAny_pyIter_slot hT PySem.F.slot_dict_iter (wpAny_call_entry PySem.F.slot_dict_iter hT PySem.F.entry_dict_iter ?_ (PySem.F.args_dict_iter_1 _))
  unfold Builtin.«dict.__iter__»
  refine wpAny_bind ?_
  unfold Builtin.Dict.dictSlotNone
  refine wpAny_bind (wpAny_notOrdered_dict hT ?_)
  show wpAny _ _ (pure (Value.ref d)) _ _ s
  refine wpAny_pure ?_
  show wpAny _ _ (Builtin.Dict.showsAll d >>= _) _ _ s
  unfold Builtin.Dict.showsAll
  rw [if_neg (by rw [hd]; exact Bool.false_ne_true)]
  refine wpAny_bind (wpAny_pure (wpAny_bind (wpAny_dictEntries hm rfl (wpAny_bind (wpAny_dictEpoch hm rfl ?_)))))
  refine wpAny_bind (wpAny_newObj_type (wpAny_pure ⟨_, rfl, "dict_keyiterator", _, ⟨_, Heap.get?_push_size _ rfl, rfl⟩, PySem.F.slot_dict_keyiterator_next.lookup, ?_⟩))
  simpa [rawInt] using hQ
theorem keyiter_next {Q : Option Value → Shared → Prop} {e : DictEntry} (hit : s.heap.IsKeyIter it d i es.length ep) (hm : DictHere s.heap d es ep) (hx : es[i]? = some e)
    (hQ : ∀ h', h'.IsKeyIter it d (i + 1) es.length ep → Heap.SameBut it s.heap h' → Q (some e.key) { s with heap := h' }) :
    wpAny (model prog w) A (pyNext (.ref it)) Q E s := by
  obtain ⟨o, ho, hc, hd⟩ := id hit
  unfold pyNext
  refine wpAny_bind (wpAny_attempt (wpAny_callSpecial?_slot (name := Str.ofString "__next__") hit.typeIs PySem.F.slot_dict_keyiterator_next
    (wpAny_call_entry PySem.F.slot_dict_keyiterator_next hit.typeIs PySem.F.entry_dict_keyiterator_next ?_ (PySem.F.args_dict_keyiterator_next_1 _))))
  refine wpAny_bind (wpAny_pure (wpAny_bind (wpAny_bind ?_)))
  first | refine wpAny_bind (wpAny_typeNameOfWhole_keyiter hit.typeIs (wpAny_pure ?_)) | refine wpAny_bind (wpAny_typeNameOf_keyiter hit.typeIs (wpAny_pure ?_))
  refine wpAny_bind (wpAny_fieldsOf ho hd ?_)
  have hown : Builtin.Dict_items.ownsTuple "dict_keyiterator" = false := by decide
  simp only [hown, Bool.false_eq_true, if_false]
  show wpAny _ _ (if (Value.ref d == Value.none) = true then _ else _) _ _ s
  rw [if_neg (show ¬ ((Value.ref d == Value.none) = true) from Bool.false_ne_true)]
  refine wpAny_bind (wpAny_pure (wpAny_bind (wpAny_dictEntries hm rfl ?_)))
  rw [if_neg (by simp)]
  refine wpAny_bind (wpAny_pure (wpAny_bind (wpAny_dictEpoch hm rfl ?_)))
  rw [if_neg (by simp)]
  refine wpAny_pure ?_
  have hx' : es.toArray[i]? = some e := by simpa using hx
  simp only [show ¬ ((i : Int) < 0) from by omega, if_false, Int.toNat_natCast, hx']
  refine wpAny_bind ?_
  first | refine wpAny_bind (wpAny_typeNameOfWhole_keyiter hit.typeIs (wpAny_pure ?_)) | refine wpAny_bind (wpAny_typeNameOf_keyiter hit.typeIs (wpAny_pure ?_))
  refine wpAny_bind (wpAny_isOneOf_keyiter hit.typeIs ?_)
  show wpAny _ _ (setField (.ref it) 1 (rawInt ((i : Int) + 1)) >>= _) _ _ s
  refine wpAny_bind (wpAny_setField ho hd (by simp) ?_)
  have hit' : (s.heap.update it (Obj.mapFields (·.setIfInBounds 1 (rawInt ((i : Int) + 1))))).IsKeyIter it d (i + 1) es.length ep :=
    ⟨_, Heap.get?_update_self _ ho (Obj.isFreed_of_fields (Obj.data_mapFields hd _)), (Obj.cls_mapFields ..).trans hc, by rw [Obj.data_mapFields hd]; simp [rawInt]⟩
  refine wpAny_bind (wpAny_holding ?_)
  refine wpAny_bind (wpAny_isOneOf_keyiter (s := { s with heap := s.heap.update it (Obj.mapFields (·.setIfInBounds 1 (rawInt ((i : Int) + 1)))) }) hit'.typeIs ?_)
  show wpAny _ _ (pure e.key) _ _ _
  exact wpAny_pure (wpAny_pure ⟨_, rfl, wpAny_pure (hQ _ hit' (Heap.SameBut.update ..))⟩)
/-- no exception at hand, or one that has no context -/
def HOk (A : Around) (h : Heap) : Prop := A.handled = none ∨ ∃ eh oe vs, A.handled = some (.ref eh) ∧ h.get? eh = some oe ∧ oe.data = .fields vs ∧ vs[2]? = some .none
theorem entry_unchain : entryFor table "proto.unchain" = some Builtin.«proto.unchain» := entryFor_of_tree (by kernel_rfl)
theorem raise_new {α : Type} {a : Addr} {oa : Obj} {us : Array Value} {Q : α → Shared → Prop} (hh : HOk A s.heap) (ha : s.heap.get? a = some oa) (hd : oa.data = .fields us) (h2 : 2 < us.size) (hne : ∀ eh, A.handled = some (.ref eh) → eh ≠ a)
    (h : ∀ h', Heap.ExtBut a s.heap h' → (∃ oa', h'.get? a = some oa' ∧ oa'.cls = oa.cls) → E (.ref a) { s with heap := h' }) : wpAny (model prog w) A (raiseNew (.ref a) : Sem α) Q E s := by
  unfold raiseNew
  refine wpAny_bind (wpAny_handled ?_)
  rcases hh with hh | ⟨eh, oe, vs, hh, ho, hod, hv⟩
  · rw [hh]
    exact wpAny_bind (wpAny_pure (wpAny_throw (h _ (fun _ _ _ e => e) ⟨oa, ha, rfl⟩)))
  · rw [hh]
    dsimp only
    have ne := hne eh hh
    rw [if_pos (show (Value.ref eh != Value.ref a) = true from by simp [ne])]
    refine wpAny_bind (wpAny_holding (wpAny_runValue (codeAny_builtin entry_unchain ?_)))
    refine wpAny_bind (wpAny_field ho hod hv ?_)
    rw [if_pos (by decide)]
    refine wpAny_pure ?_
    dsimp only
    unfold updateField
    refine wpAny_bind (wpAny_bind (wpAny_load ha ?_))
    rw [hd]
    dsimp only
    rw [if_pos h2]
    refine wpAny_update ha (wpAny_throw (h _ (fun x o n e => (Heap.get?_update_other _ _ (Ne.symm n)).trans e) ⟨_, Heap.get?_update_self _ ha (Obj.isFreed_of_fields (Obj.data_mapFields hd _)), Obj.cls_mapFields ..⟩))
theorem keyiter_end {Q : Option Value → Shared → Prop} (hh : HOk A s.heap) (hit : s.heap.IsKeyIter it d es.length es.length ep) (hm : DictHere s.heap d es ep)
    (hQ : ∀ h', Heap.ExtBut it s.heap h' → Q none { s with heap := h' }) : wpAny (model prog w) A (pyNext (.ref it)) Q E s := by
  obtain ⟨o, ho, hc, hd⟩ := id hit
  unfold pyNext
  refine wpAny_bind (wpAny_attempt (wpAny_callSpecial?_slot (name := Str.ofString "__next__") hit.typeIs PySem.F.slot_dict_keyiterator_next
    (wpAny_call_entry PySem.F.slot_dict_keyiterator_next hit.typeIs PySem.F.entry_dict_keyiterator_next ?_ (PySem.F.args_dict_keyiterator_next_1 _))))
  refine wpAny_bind (wpAny_pure (wpAny_bind (wpAny_bind ?_)))
  first | refine wpAny_bind (wpAny_typeNameOfWhole_keyiter hit.typeIs (wpAny_pure ?_)) | refine wpAny_bind (wpAny_typeNameOf_keyiter hit.typeIs (wpAny_pure ?_))
  refine wpAny_bind (wpAny_fieldsOf ho hd ?_)
  have hown : Builtin.Dict_items.ownsTuple "dict_keyiterator" = false := by decide
  simp only [hown, Bool.false_eq_true, if_false]
  show wpAny _ _ (if (Value.ref d == Value.none) = true then _ else _) _ _ s
  rw [if_neg (show ¬ ((Value.ref d == Value.none) = true) from Bool.false_ne_true)]
  refine wpAny_bind (wpAny_pure (wpAny_bind (wpAny_dictEntries hm rfl ?_)))
  rw [if_neg (by simp)]
  refine wpAny_bind (wpAny_pure (wpAny_bind (wpAny_dictEpoch hm rfl ?_)))
  rw [if_neg (by simp)]
  refine wpAny_pure ?_
  have hx' : es.toArray[es.length]? = none := by simp
  simp only [show ¬ ((es.length : Int) < 0) from by omega, if_false, Int.toNat_natCast, hx']
  refine wpAny_bind ?_
  first | refine wpAny_bind (wpAny_typeNameOfWhole_keyiter hit.typeIs (wpAny_pure ?_)) | refine wpAny_bind (wpAny_typeNameOf_keyiter hit.typeIs (wpAny_pure ?_))
  show wpAny _ _ (setField (.ref it) 0 .none >>= _) _ _ s
  refine wpAny_bind (wpAny_setField ho hd (by simp) ?_)
  show wpAny _ _ (newExc (.type "StopIteration") [] >>= _) _ _ _
  refine wpAny_bind ?_
  simp only [newExc, newTuple]
  refine wpAny_bind (wpAny_newObj_type ?_ (by size_fits))
  refine wpAny_bind (m := firstArgMember _ _) (wpAny_of_eq (a := Value.none) (by first | rfl | (simp only [firstArgMember]; rfl)) ?_)
  refine wpAny_newObj_type ?_ (by size_fits)
  have eq : ∀ eh oe vs, s.heap.get? eh = some oe → oe.data = .fields vs → vs[2]? = some .none → eh ≠ it := fun eh oe vs h1 h2 h3 q => by
    rw [q, ho] at h1; cases h1; rw [hd] at h2; cases h2; simp at h3
  have kH : ∀ b ob, b ≠ it → s.heap.get? b = some ob → (((s.heap.update it (Obj.mapFields (·.setIfInBounds 0 .none))).push { cls := .type "tuple", data := .seq #[] }).push { cls := .type "StopIteration", data := .fields (#[.ref (s.heap.update it (Obj.mapFields (·.setIfInBounds 0 .none))).objs.size, .none, .none, .none, .bool false, .none] ++ ownMembersOf (.type "StopIteration") []) }).get? b = some ob :=
    fun b ob nb e => (((Heap.SameBut.update ..).extBut.push _).push _) b ob nb e
  refine raise_new (A := A.in1) (us := #[_, .none, .none, .none, .bool false, .none]) ?hok (Heap.get?_push_size _ rfl) rfl (by simp) ?hne (fun h' hx hy => ?_)
  case hok =>
    rcases hh with hh | ⟨eh, oe, vs, hh, h1, h2, h3⟩
    · exact .inl hh
    · exact .inr ⟨eh, oe, vs, hh, kH _ _ (eq _ _ _ h1 h2 h3) h1, h2, h3⟩
  case hne =>
    intro eh he q
    rcases hh with hh | ⟨eh', oe, vs, hh, h1, h2, h3⟩
    · rw [show A.in1.handled = none from hh] at he; cases he
    · rw [show A.in1.handled = some (.ref eh') from hh] at he
      cases he
      have z := Heap.lt_size (kH _ _ (eq _ _ _ h1 h2 h3) h1)
      have z2 := Heap.lt_size h1
      have z3 : s.heap.objs.size ≤ ((s.heap.update it (Obj.mapFields (·.setIfInBounds 0 .none))).push { cls := .type "tuple", data := .seq #[] }).objs.size := by
        rw [Heap.size_push, Heap.size_after_update]; exact Nat.le_succ _
      exact absurd z2 (Nat.not_lt.mpr (q ▸ z3))
  · obtain ⟨oa, ha, hac⟩ := hy
    refine wpAny_bind (wpAny_isInstance (T := "StopIteration") (b := true) ⟨_, ha, hac⟩ isSubtype_stop ?_)
    refine wpAny_pure (hQ h' fun x o n e => hx x o ?_ (kH x o n e))
    have z2 := Heap.lt_size e
    refine Nat.ne_of_lt (Nat.lt_of_lt_of_le z2 ?_)
    show s.heap.objs.size ≤ ((s.heap.update it (Obj.mapFields (·.setIfInBounds 0 .none))).push { cls := .type "tuple", data := .seq #[] }).objs.size
    rw [Heap.size_push, Heap.size_after_update]; exact Nat.le_succ _
theorem HOk.keep {A : Around} {h h' : Heap} (x : HOk A h) (k : ∀ b o, h.get? b = some o → h'.get? b = some o) : HOk A h' := by
  rcases x with x | ⟨eh, oe, vs, hh, h1, h2, h3⟩
  · exact .inl x
  · exact .inr ⟨eh, oe, vs, hh, k _ _ h1, h2, h3⟩
/-- the exception at hand, if any -/
def handledAt (A : Around) : List Addr := match A.handled with | some (.ref e) => [e] | _ => []
theorem HOk.at {A : Around} {h h' : Heap} (x : HOk A h) (k : ∀ b ∈ handledAt A, ∀ o, h.get? b = some o → h'.get? b = some o) : HOk A h' := by
  rcases x with x | ⟨eh, oe, vs, hh, h1, h2, h3⟩
  · exact .inl x
  · exact .inr ⟨eh, oe, vs, hh, k eh (by unfold handledAt; rw [hh]; exact .head _) _ h1, h2, h3⟩
theorem HOk.lt {A : Around} {h : Heap} (x : HOk A h) : ∀ b ∈ handledAt A, b < h.objs.size := fun b hb => by
  rcases x with x | ⟨eh, oe, vs, hh, h1, h2, h3⟩
  · unfold handledAt at hb; rw [x] at hb; cases hb
  · unfold handledAt at hb; rw [hh] at hb
    rw [List.mem_singleton.mp hb]; exact Heap.lt_size h1
theorem walks_keys (hne : d ≠ I) (hnh : ∀ b ∈ handledAt A, b ≠ I) (es : List DictEntry) (ep : Nat) :
    Walks prog w A I (I :: d :: handledAt A) [I] es.length (fun i v => ∃ e, es[i]? = some e ∧ v = e.key) (fun i h => (h.IsKeyIter I d i es.length ep ∧ DictHere h d es ep) ∧ HOk A h) where
  sub := fun b hb => by simp at hb; simp [hb]
  frame := fun _ _ _ st hk => ⟨⟨st.1.1.at fun o e => hk I (by simp) o e, hk d (by simp) _ st.1.2⟩, st.2.at fun b hb o e => hk b (by simp [hb]) o e⟩
  item := fun i s Q E hi st hQ => by
    obtain ⟨e, hx⟩ : ∃ p, es[i]? = some p := ⟨es[i], by simp [hi]⟩
    refine keyiter_next st.1.1 st.1.2 hx fun h' hit' hs' => ?_
    exact hQ e.key h' s.toks ⟨e, hx, rfl⟩ ⟨⟨hit', hs'.extBut d _ hne st.1.2⟩, st.2.at fun b hb o e => hs'.extBut b o (hnh b hb) e⟩ fun b o hb e => hs'.extBut b o (fun h => hb (by simp [h])) e
  done := fun s Q E st hQ => keyiter_end st.2 st.1.1 st.1.2 fun h' he' => hQ h' s.toks fun b o hb e => he' b o (fun h => hb (by simp [h])) e
  self := fun _ _ _ _ st hQ => wpAny_pyIter_keyiter st.1.1 hQ
end

end Mine
end
-- X12
section
open PySem PySem.W PyProof.Rows PySem.Calls PySem.Spec
open LCg LCt
namespace Mine
open LCg LCt
theorem HOk.deep {A : Around} {h : Heap} {e : Env} (x : HOk A h) : HOk (A.deeper e) h := x
theorem HOk.mark {A : Around} {h : Heap} {e : Addr} {oe : Obj} {vs : Array Value} (h1 : h.get? e = some oe) (h2 : oe.data = .fields vs) (h3 : vs[2]? = some .none) : HOk (A.mark (some (.ref e))) h := .inr ⟨e, oe, vs, rfl, h1, h2, h3⟩
def KeyP (es : List DictEntry) (i : Nat) (v : Value) : Prop := ∃ e, es[i]? = some e ∧ v = e.key
def SrcD (prog : Program) (w : World) (A : Around) (h₀ : Heap) (L : Addr) (m : Str → Option Value) (env : Env) (ct elt : Expr) (x : Str) (scope : Scope) (cl : List (Str × Addr)) (Fin : Shared → List Value → List (Addr × Obj) → Prop) (xv : Value) (s₁ : Shared) : Prop :=
  ∃ d es ep news, xv = .ref d ∧ HOk A h₀ ∧ Fr h₀ L s₁.heap m ∧ News h₀ L s₁.heap news ∧ h₀.get? d = some (dictOf es ep) ∧ (d == sysModules) = false ∧ es.length ≤ sizeLine ∧
    ∀ s₂ : Shared, (∃ h, s₂ = { s₁ with heap := h }) → CompRestT prog w A h₀ L m env ct elt x scope cl s₂ (fun _ => True) (KeyP es) (Fin s₂) es.length 0 [] news
section
variable {prog : Program} {w : World} {A : Around} {E : Value → Shared → Prop} {s : Shared} {h₀ : Heap} {L : Addr} {m : Str → Option Value} {env : Env}
theorem SrcD.mk {ct elt : Expr} {x : Str} {scope : Scope} {cl : List (Str × Addr)} {Fin : Shared → List Value → List (Addr × Obj) → Prop} {d : Addr} {es : List DictEntry} {ep : Nat} {news : List (Addr × Obj)} {s₁ : Shared}
    (hh : HOk A h₀) (F : Fr h₀ L s₁.heap m) (N : News h₀ L s₁.heap news) (hd : h₀.get? d = some (dictOf es ep)) (hsm : (d == sysModules) = false) (hsz : es.length ≤ sizeLine)
    (h : ∀ g, CompRestT prog w A h₀ L m env ct elt x scope cl { s₁ with heap := g } (fun _ => True) (KeyP es) (Fin { s₁ with heap := g }) es.length 0 [] news) :
    SrcD prog w A h₀ L m env ct elt x scope cl Fin (.ref d) s₁ := ⟨d, es, ep, news, rfl, hh, F, N, hd, hsm, hsz, fun _ ⟨g, e⟩ => e ▸ h g⟩
theorem ListComp_D {ct elt iter : Expr} {x : Str} {px : Pos} {scope : Scope} {cl : List (Str × Addr)} {pos : Pos} {Q : Value → Shared → Prop} (F₀ : Fr h₀ L s.heap m)
    (hclos : closureFor scope env = pure cl) (hcell : ∀ y ∈ scope.names, y.2 ≠ .cell) (hkind : scope.kind = .function)
    (hnames : ∀ y ∈ scope.names, y.2 = .local → scope.names.lookup y.1 = some .local) (hx : scope.names.lookup x = some .local)
    (h : wpAny (model prog w) A (eval iter env) (SrcD prog w A h₀ L m env ct elt x scope cl (fun s₂ => FinE h₀ L m s₂ Q)) E s)
    (hs : ∀ x, foldedSetIterable iter env x = pure x := by intro _; rfl) :
    wpAny (model prog w) A (eval (.ListComp elt [⟨.Name x px, iter, [ct], 0⟩] scope pos) env) Q E s := by
  rw [eval_ListComp]
  refine wpAny_comprehension_free (use := none) rfl hs hclos hkind hnames (wpAny_mono h (fun xv s₁ h₁ => ?_) fun _ _ e => e)
  obtain ⟨d, es, ep, news, rfl, hh, F, N, hd, hsm, hsz, R⟩ := h₁
  have hds : s₁.heap.get? d = some (dictOf es ep) := F.keep _ _ hd
  refine keyiter_start hsm hds ?_
  refine block_T (RR := fun acc C => compPost (model prog w) A E none Q acc C) (S := fun _ => True) (walks_keys (Nat.ne_of_lt (Heap.lt_size hds)) (fun b hb => Nat.ne_of_lt ((hh.keep F.keep).lt b hb)) es ep) hsz (fun i h st => by obtain ⟨⟨⟨o, e, _⟩, _⟩, _⟩ := st; exact ⟨o, e⟩) (fun i h h' o nw st e e' hk _ _ => ?_) hcell hkind hx ⟨⟨⟨_, Heap.get?_push_size _ rfl, rfl, rfl⟩, Heap.get?_push_of_some _ hds⟩, (hh.keep F.keep).keep fun _ _ e => Heap.get?_push_of_some _ e⟩ (fun b hb => ?_)
      (F.keeps fun _ _ e => Heap.get?_push_of_some _ e) (N.grown fun _ _ e => Heap.get?_push_of_some _ e) (Nat.ne_of_lt F.ns.lt) (next_is_new F) (fun p hp => Nat.ne_of_lt (Heap.lt_size (N p hp).1)) trivial (R _ ⟨_, rfl⟩) ?_
  · obtain ⟨⟨⟨o', ho, r⟩, _⟩, _⟩ := st
    rw [e] at ho; cases ho
    exact ⟨⟨⟨o, e', r⟩, hk _ _ hd⟩, hh.keep hk⟩
  · have z : b = s₁.heap.objs.size ∨ b = d ∨ b ∈ handledAt A := by simpa using hb
    show b < (s₁.heap.push _).objs.size
    rw [Heap.size_push]
    rcases z with rfl | rfl | z
    · exact Nat.lt_succ_self _
    · exact Nat.lt_succ_of_lt (Heap.lt_size hds)
    · exact Nat.lt_succ_of_lt ((hh.keep F.keep).lt b z)
  · intro D C h tk m' ys news' F' N' o1 hn hC₀ hD₀ hCL hDL hCD offC fin
    refine ⟨m', hn, fun h'' hs'' => fin D h'' tk (F'.change hs'' hCL hC₀) (fun p hp => ?_) o1⟩
    refine ⟨hs''.extBut _ _ ?_ (N' p hp).1, (N' p hp).2⟩
    rcases List.mem_cons.mp hp with rfl | hp
    · exact Ne.symm hCD
    · exact offC p hp
/-- the turns, by induction -/
theorem comp_ind {ct elt : Expr} {x : Str} {scope : Scope} {cl : List (Str × Addr)} {S : List (Addr × Obj) → Prop} {P : Nat → Value → Prop} {Fin : List Value → List (Addr × Obj) → Prop} {n : Nat} {news : List (Addr × Obj)} (Inv : Nat → List Value → Prop)
    (h0 : ∀ ys, Inv n ys → Fin ys news)
    (h1 : ∀ i k ys, i + (k + 1) = n → Inv i ys → (∀ ys', Inv (i + 1) ys' → CompRestT prog w A h₀ L m env ct elt x scope cl s S P Fin k (i + 1) ys' news) → CompRestT prog w A h₀ L m env ct elt x scope cl s S P Fin (k + 1) i ys news) :
    ∀ k i ys, i + k = n → Inv i ys → CompRestT prog w A h₀ L m env ct elt x scope cl s S P Fin k i ys news := by
  intro k
  induction k with
  | zero => intro i ys e hI; exact CompRestT.zero (h0 ys (by rw [← e]; exact hI))
  | succ k ih => exact fun i ys e hI => h1 i k ys e hI fun ys' h' => ih (i + 1) ys' (by omega) h'
end

end Mine
end
-- X13
section
open PySem PySem.W PyProof.Rows PySem.Calls PySem.Spec
namespace Mine
def isRefV (y : List Str × Addr × Value) : Bool := match y.2.2 with | .ref _ => true | _ => false
section
variable {prog : Program} {w : World} {A : Around} {E : Value → Shared → Prop} {s : Shared} {L pd a p d C : Addr} {h₀ h : Heap} {m : Str → Option Value} {xs : PX} {n : Nat} {k : List Str} {od : Obj}
theorem pd_itemB {value slice : Expr} {Q : Value → Shared → Prop} {q : Addr × Value} (hu : A.units + 2 < cLine) (F : Fr h₀ L s.heap m) (hm : h₀.get? pd = some (pdO prog w xs n)) (hk : KeysAt prog w h₀ xs) (hn : (xs.map (·.1)).Nodup) (ha : KeyAt prog w h₀ k a) (hp : atKey xs k = some q)
    (h : ∀ tk, Q q.2 { s with toks := tk })
    (hs : subscripted slice false (.ref pd) (.ref a) = operate [.ref pd, .ref a] (getItem (.ref pd) (.ref a)) := by with_unfolding_all rfl) (ht : ∀ r, letTemporaryGo value (.ref pd) r = pure () := by intro _; with_unfolding_all rfl) :
    wpAny (model prog w) A (subscriptTail value slice (.ref pd) (.ref a)) Q E s := by
  have hD : s.heap.DictOfH (sK prog w) pd xs := ⟨_, _, n, F.keep _ _ hm, ⟨rfl, rfl, rfl⟩, rfl, by simp, KeysAt.keep hk (fun b o e _ => F.keep _ _ e), hn⟩
  exact subscriptTail_builtin hD.typeIs slot_dict_getitem.lookup (wpAny_getItem_heap (knd := sK prog w) (show A.units + 1 < cLine by omega) (KeyAt.keep ha fun o e _ => F.keep _ _ e) hD hp (h _)) hs ht
theorem inst_base (F : Fr h₀ L h m) (h1 : h₀.get? p = some (instObj C d)) (h2 : h₀.get? d = some od) : InstAt h p (instObj C d) C (some od) := ⟨F.keep _ _ h1, rfl, rfl, F.keep _ _ h2⟩
theorem key_turn {i : Nat} {v : Value} (hv : KeyP (xs.map (entryOfKey (sK prog w))) i v) (hn : (xs.map (·.1)).Nodup) : ∃ y, xs[i]? = some y ∧ v = .ref y.2.1 ∧ atKey xs y.1 = some y.2 ∧ y ∈ xs := by
  obtain ⟨e, he, rfl⟩ := hv
  rw [List.getElem?_map] at he
  obtain ⟨y, hy, rfl⟩ := Option.map_eq_some_iff.mp he
  exact ⟨y, hy, rfl, atKey_of_get hn hy, List.mem_of_getElem? hy⟩
theorem count_turn {i : Nat} {y : List Str × Addr × Value} (hy : xs[i]? = some y) : (xs.take (i + 1)).countP isRefV = (xs.take i).countP isRefV + (if isRefV y then 1 else 0) := by
  have : xs.take (i + 1) = xs.take i ++ [y] := by
    rw [List.take_add_one, hy]; rfl
  rw [this, List.countP_append, List.countP_singleton]
end

end Mine
end
-- S25
section
open PySem PySem.W PyProof.Rows PySem.Calls PySem.Spec
namespace Mine
local macro_rules | `(tactic| k_inst) => `(tactic| (refine' inst_base ?k1 ?k2 ?k3; (case k2 => assumption); (case k1 => k_asm); (case k3 => assumption)))
local macro_rules | `(tactic| walk_at "eval ListComp") => `(tactic| (k_here; lct_look; lcg_calm; k_dflt (refine ListComp_D (F₀ := by k_asm) (by with_unfolding_all rfl) (by decide) (by rfl) (by decide) (by rfl) ?_)))
local macro_rules | `(tactic| walk_at "SrcD") => `(tactic| ((refine' SrcD.mk ?ka ?kb ?kc ?kd ?ke ?kf ?_; (case ka => first | assumption | exact HOk.deep (by assumption)); (case kb => k_asm); (case kc => k_asm); (case kd => assumption); (case ke => assumption); (case kf => ((rw [List.length_map, sizeLine_eq]); omega))); intro g'; refine hold ?_))
local macro_rules | `(tactic| walk_at "CompRestT") => `(tactic| (refine hold ?_))
local macro_rules | `(tactic| walk_at "subscriptTail") => `(tactic| (k_here; k_dflt (refine' pd_itemB ?u ?F ?m ?ks ?n ?ka ?hp ?_ ?q1 ?q2; (case u => (first | exact uni_a (by assumption) (by decide) | exact room_f (by assumption) (by decide) | ((simp only [units_deeper, units_in1]); omega))); (case F => k_asm); (case m => assumption); (case ka => assumption); (case ks => assumption); (case n => assumption); (case hp => assumption); (case q1 => with_unfolding_all rfl); (case q2 => (intro _; with_unfolding_all rfl))); intro tk'; (try dsimp only)))
section
variable {w : World} {vw : Program} {lo : List Str} {mean : ExcName → Option Value} {mg mb : Str → Option Value} {A₀ A : Around} {base h₀ : Heap} {env : Env} {outer : List Env} {L : Addr} {m : Str → Option Value} {s : Shared} {Q E : Value → Shared → Prop} {news : List (Addr × Obj)}
  {x dx : Addr} {txt : Str} {t1 t3 t4 t5 : Tok} {i gn dn : Int} {h1 h2 h3 h4 h5 h6 h7 : Int} {k1 k2 k3 k4 k5 k6 k7 : Tok} {v2 v4 v5 v6 v7 : Value}
variable {r1 r2 r3 r4 r5 r6 r7 r8 r9 r10 r11 r12 r13 r14 r15 r16 r17 r18 r19 c1 c2 c3 c4 c5 c6 c7 c8 c9 : Int} {q1 q2 q3 q4 q5 q6 q7 q8 q9 q10 q11 q12 q13 q14 q15 q16 q17 q18 q19 z1 z2 z3 z4 z5 z6 z7 z8 z9 : Tok} {y1 y2 y3 y5 y6 y7 y8 y9 y10 y11 y12 y14 y17 y18 y19 u1 u2 u3 u4 u5 u6 u9 : Value} {fl fr df wt pd lm : Addr} {nfl st pl wh w0 : Int} {nf : Nat} {ta tb tc te : Tok}
variable {xs : PX} {n : Nat}
theorem kept_spec
  (B : Below A₀ base outer h₀) (F : Fr h₀ L s.heap m) (X : (pre.heap_1 w.params).In h₀) (N : News h₀ L s.heap news) (T : Top vw lo mean mg mb h₀) (hA : A.frames = some (env :: outer)) (hf : env.frame = some L) (hke : env.scope.kind = .function) (hh : HOk A s.heap)
  (hdp : A.depth + 3 < recursionLimit) (hun : A.units + 40 < cLine)
  (m1 : (x, instObj 615 dx) ∈ news) (m4 : (dx, (runO r1 r2 r3 r4 r5 r6 r7 r8 r9 r10 r11 r12 r13 r14 r15 r16 r17 r18 r19 q1 q2 q3 q4 q5 q6 q7 q8 q9 q10 q11 q12 q13 q14 q15 q16 q17 q18 q19 y1 y2 y3 (.ref lm) y5 y6 y7 y8 y9 y10 y11 y12 (.ref fl) y14 (.ref pd) (.int st ta) y17 y18 y19)) ∈ news) (m5 : (pd, pdO prg w xs n) ∈ news) (ne5 : dx ≠ pd)
  (hks : KeysAt prg w s.heap xs) (hnd : (xs.map (·.1)).Nodup) (hxl : xs.length ≤ 20) (hsm : (pd == sysModules) = false)
  (hvs : ∀ y ∈ xs, (∃ i t, y.2.2 = .int i t) ∨ ∃ p d od, y.2.2 = .ref p ∧ s.heap.get? p = some (instObj 98 d) ∧ s.heap.get? d = some od ∧ p ≠ x ∧ p ≠ dx ∧ d ≠ x ∧ d ≠ dx) (hhx : ∀ b ∈ handledAt A, b ≠ x ∧ b ≠ dx)
  (hret : ∀ t h' tk', Fr h₀ L h' m → News h₀ L h' news → Q (.int (xs.countP isRefV : Nat) t) { s with heap := h', toks := tk' }) :
  wpAny (model PySem.Challenge.rw_qz0116_01.row.toRowW.1 w) A (call (.ref 708) [.ref x]) Q E s := by
  refine wpAny_call ?_
  have hin : ∀ p ∈ [(x, instObj 615 dx), (dx, (runO r1 r2 r3 r4 r5 r6 r7 r8 r9 r10 r11 r12 r13 r14 r15 r16 r17 r18 r19 q1 q2 q3 q4 q5 q6 q7 q8 q9 q10 q11 q12 q13 q14 q15 q16 q17 q18 q19 y1 y2 y3 (.ref lm) y5 y6 y7 y8 y9 y10 y11 y12 (.ref fl) y14 (.ref pd) (.int st ta) y17 y18 y19))], p ∈ news := in2 m1 m4
  have N2 := News.sub N hin
  have ne1 := neN (obj_ne N m1 m4 (by intro e; have q := congrArg Obj.cls e; simp at q))
  have ne2 := (obj_ne N m1 m5 (by intro e; have q := congrArg Obj.cls e; simp at q))
  have hp0 := (N _ m5).1
  (k_dflt (refine' enterSC B F X N2 T ?kA hf hke ?k6 ?k7 ?k8 ?k9 ?kB ?kD ?_ ?c2 ?c3 ?c4; (case kA => exact hA); (case k6 => k_is); (case k7 => k_is); (case k8 => (first | assumption | exact room_d (by assumption) | exact room_f (by assumption) (by decide) | exact room_a (by assumption) (by decide) | exact room_b (by assumption) (by decide) | exact room_c (by assumption) (by decide) | exact room_e (by assumption) (by decide) | omega | (simp only [depth_deeper] at *; omega))); (case k9 => exact BindsTo.of_eq rfl); (case kB => exact rfl); (case kD => decide +kernel); (case c2 => exact rfl); (case c3 => exact rfl); (case c4 => exact rfl)))
  intro g L' hq tkq cellsq FG F' N' Y' B' X' T' l1 hK hS hL
  (try k_lt l1)
  k_cells Y'
  (try simp only [List.cons_append, List.nil_append] at N')
  (try dsimp only); (try k_fold)
  have hpg : g.get? pd = some (pdO prg w xs n) := hK _ _ hp0 (by simp [Ne.symm ne2, Ne.symm ne5])
  replace hks : KeysAt prg w g xs := keys_ground N hin hK (by
    intro p hp
    simp only [List.mem_cons, List.not_mem_nil, or_false] at hp
    rcases hp with rfl | rfl <;> exact notKey_cls (by intro e; simp at e)) hks
  have hvg : ∀ y ∈ xs, (∃ i t, y.2.2 = .int i t) ∨ ∃ p d od, y.2.2 = .ref p ∧ g.get? p = some (instObj 98 d) ∧ g.get? d = some od := fun y hy => by
    rcases hvs y hy with q | ⟨p, d, od, e, a1, a2, b1, b2, b3, b4⟩
    · exact .inl q
    · exact .inr ⟨p, d, od, e, hK _ _ a1 (by simp [b1, b2]), hK _ _ a2 (by simp [b3, b4])⟩
  have hokg : HOk A g := hh.at fun b hb o e => hK b o e (by have := hhx b hb; simp [this.1, this.2])
  clear hvs hp0
  k_steps
  unfold Hold
  refine comp_ind (fun i ys => ys.length = (xs.take i).countP isRefV) ?h0 ?h1 _ 0 [] (Nat.zero_add _) rfl
  case h1 =>
    intro i k ys hik hI IH
    refine LCt.CompRestT.succ ?_
    intro v' I' oI' C' oC' D' m' h' tk' E' hv' hC' hx' F' N' off' ne'
    obtain ⟨⟨ky, ay, vy⟩, hy, rfl, hat, hmem⟩ := key_turn hv' hnd
    have hct := count_turn hy
    have hka := hks _ hmem
    skip
    rcases hvg _ hmem with ⟨i2, t2, hv⟩ | ⟨p, d, od, hv, g1, g2⟩
    · dsimp only at hv hat hka
      subst hv
      k_steps
      unfold Hold
      exact IH _ (by rw [hct, hI]; rfl)
    · dsimp only at hv hat hka
      subst hv
      k_steps
      unfold Hold
      exact IH _ (by rw [hct, List.length_append, hI]; rfl)
  case h0 =>
    intro ys hI
    rw [List.length_map, List.take_length] at hI
    have hyl : ys.length ≤ 100 := by have := List.countP_le_length (p := isRefV) (l := xs); omega
    k_steps
    rename Fr g L' _ _ => Fe
    rename Fr h₀ L _ m => kF
    rename News h₀ L _ (_ :: _) => kN
    rw [List.size_toArray, hI]
    exact hret _ _ _ kF (after0 N hin (hK.trans Fe.keep) (News.sub kN (by kcj_in)))
end

end Mine
end
-- X14
section
open PySem PySem.W PyProof.Rows PySem.Calls PySem.Spec
namespace Mine
theorem off_cons {a : Addr} {o : Obj} {tl news : List (Addr × Obj)} (h : ∀ p ∈ news, p.1 ≠ a) (t : Off tl news) : Off ((a, o) :: tl) news := fun p hp q hq => by
  rcases List.mem_cons.mp hp with rfl | hp
  · exact Ne.symm (h q hq)
  · exact t p hp q hq
theorem off_nil {news : List (Addr × Obj)} : Off [] news := fun _ h => nomatch h
theorem off_two {x d : Addr} {a b : Obj} {news : List (Addr × Obj)} (l1 : ∀ p ∈ news, p.1 < d) (l2 : @LT.lt Nat _ d x) : Off [(x, a), (d, b)] news :=
  off_cons (fun p hp => Nat.ne_of_lt (Nat.lt_trans (l1 p hp) l2)) (off_cons (fun p hp => Nat.ne_of_lt (l1 p hp)) off_nil)
theorem dict_nil {prog : Program} {w : World} {K : Type} [DecidableEq K] {knd : KeyKind prog w K} {o : Obj} (h : o.IsDictOf knd []) : ∃ n, o = dictOf [] n := by
  obtain ⟨es, ep, ⟨c1, c2, c3⟩, hd, _, hp, _⟩ := h
  have he : es.toList = [] := List.length_eq_zero_iff.mp hp.length
  obtain ⟨oc, od, oda, osl⟩ := o
  dsimp only at c1 c2 c3 hd
  subst c1 c2 c3 hd
  refine ⟨ep, ?_⟩
  have : es = #[] := by rw [← Array.toList_inj]; exact he
  rw [this]

end Mine
end
-- S26
section
open PySem PySem.W PyProof.Rows PySem.Calls PySem.Spec
namespace Mine
theorem lt_at {news : List (Addr × Obj)} {a d : Addr} {o : Obj} (l : ∀ p ∈ news, p.1 < d) (m : (a, o) ∈ news) : @LT.lt Nat _ a d := l _ m
section
variable {w : World} {vw : Program} {lo : List Str} {mean : ExcName → Option Value} {mg mb : Str → Option Value} {A₀ A : Around} {base h₀ : Heap} {env : Env} {outer : List Env} {L : Addr} {m : Str → Option Value} {s : Shared} {Q E : Value → Shared → Prop} {news : List (Addr × Obj)}
  {x dx : Addr} {txt : Str} {t1 t3 t4 t5 : Tok} {i gn dn : Int} {h1 h2 h3 h4 h5 h6 h7 : Int} {k1 k2 k3 k4 k5 k6 k7 : Tok} {v2 v4 v5 v6 v7 : Value}
theorem limits_spec
  (B : Below A₀ base outer h₀) (F : Fr h₀ L s.heap m) (X : (pre.heap_1 w.params).In h₀) (N : News h₀ L s.heap news) (T : Top vw lo mean mg mb h₀) (hA : A.frames = some (env :: outer)) (hf : env.frame = some L) (hke : env.scope.kind = .function) (hh : A.handled = none)
  (hdp : A.depth + 3 < recursionLimit)
  (hret : ∀ a d b1 b2 b3 b4 b5 j1 j2 j3 j4 j5 p1 p2 p3 tl0 p5 h' tk', Fr h₀ L h' m → News h₀ L h' ((a, instObj 684 d) :: (d, limO b1 b2 b3 b4 b5 j1 j2 j3 j4 j5 p1 p2 p3 (.int 100000 tl0) p5) :: news) → (∀ p ∈ news, p.1 < d) → @LT.lt Nat _ d a → Q (.ref a) { s with heap := h', toks := tk' }) :
  wpAny (model PySem.Challenge.rw_qz0116_01.row.toRowW.1 w) A (call (.ref 684) []) Q E s := by
  k_steps
  rename Fr h₀ L _ m => kF
  rename News h₀ L _ (_ :: _) => kN
  exact hret _ _ _ _ _ _ _ _ _ _ _ _ _ _ _ _ _ _ _ kF kN (by assumption) (by assumption)
theorem run_spec {lm : Addr}
  (B : Below A₀ base outer h₀) (F : Fr h₀ L s.heap m) (X : (pre.heap_1 w.params).In h₀) (N : News h₀ L s.heap news) (T : Top vw lo mean mg mb h₀) (hA : A.frames = some (env :: outer)) (hf : env.frame = some L) (hke : env.scope.kind = .function) (hh : A.handled = none)
  (hdp : A.depth + 3 < recursionLimit)
  (hret : ∀ r1 r2 r3 r4 r5 r6 r7 r8 r9 r10 r11 r12 r13 r14 r15 r16 r17 r18 r19 q1 q2 q3 q4 q5 q6 q7 q8 q9 q10 q11 q12 q13 q14 q15 q16 q17 q18 q19 y1 y2 y3 y5 y6 y7 y8 y9 y10 y11 y12 y14 y17 y18 y19 ta x dx fl pd n h' tk', Fr h₀ L h' m → News h₀ L h' ((pd, pdO prg w [] n) :: (fl, listOf #[] 0) :: (x, instObj 615 dx) :: (dx, (runO r1 r2 r3 r4 r5 r6 r7 r8 r9 r10 r11 r12 r13 r14 r15 r16 r17 r18 r19 q1 q2 q3 q4 q5 q6 q7 q8 q9 q10 q11 q12 q13 q14 q15 q16 q17 q18 q19 y1 y2 y3 (.ref lm) y5 y6 y7 y8 y9 y10 y11 y12 (.ref fl) y14 (.ref pd) (.int 0 ta) y17 y18 y19)) :: news) → (∀ p ∈ news, p.1 < dx) → @LT.lt Nat _ dx x → @LT.lt Nat _ x fl → @LT.lt Nat _ fl pd → (pd == sysModules) = false → Q (.ref x) { s with heap := h', toks := tk' }) :
  wpAny (model PySem.Challenge.rw_qz0116_01.row.toRowW.1 w) A (call (.ref 615) [.none, .none, .none, .ref lm]) Q E s := by
  k_steps
  rename Fr h₀ L _ m => kF
  rename News h₀ L _ (_ :: _) => kN
  rename ∀ p ∈ news, p.1 < _ => l1x
  rename _ = false => lox
  rename Obj.IsDictOf (PySem.strKind _ _) _ _ => hsx
  obtain ⟨nn, e⟩ := dict_nil hsx
  rw [e] at kN
  exact hret _ _ _ _ _ _ _ _ _ _ _ _ _ _ _ _ _ _ _ _ _ _ _ _ _ _ _ _ _ _ _ _ _ _ _ _ _ _ _ _ _ _ _ _ _ _ _ _ _ _ _ _ _ _ _ _ _ _ nn _ _ kF (News.sub kN (by kcj_in)) l1x (by assumption) (lt_at (by assumption) (by k_mem)) (lt_at (by assumption) (by k_mem)) lox
theorem cf_spec {pad : Addr} {ti tj tp : Tok}
  (B : Below A₀ base outer h₀) (F : Fr h₀ L s.heap m) (X : (pre.heap_1 w.params).In h₀) (N : News h₀ L s.heap news) (T : Top vw lo mean mg mb h₀) (hA : A.frames = some (env :: outer)) (hf : env.frame = some L) (hke : env.scope.kind = .function) (hh : A.handled = none)
  (hdp : A.depth + 4 < recursionLimit)
  (hret : ∀ c1 c2 c3 c4 c5 c6 c7 c8 c9 z1 z2 z3 z4 z5 z6 z7 z8 z9 u1 u2 u3 u4 u5 u6 u9 pl' wt' fr df h' tk', Fr h₀ L h' m → News h₀ L h' ((fr, instObj 637 df) :: (df, (cfO c1 c2 c3 c4 c5 c6 c7 c8 c9 z1 z2 z3 z4 z5 z6 z7 z8 z9 u1 u2 u3 u4 u5 u6 (pl') (wt') u9)) :: news) → (∀ p ∈ news, p.1 < df) → @LT.lt Nat _ df fr → Q (.ref fr) { s with heap := h', toks := tk' }) :
  wpAny (model PySem.Challenge.rw_qz0116_01.row.toRowW.1 w) A (call (.ref 637) [.ref pad, .none, .int 0 ti, .none, .str (Str.ofString "main") tp, .int 1 tj]) Q E s := by
  k_steps
  rename Fr h₀ L _ m => kF
  rename News h₀ L _ (_ :: _) => kN
  rename ∀ p ∈ news, p.1 < _ => l1x
  exact hret _ _ _ _ _ _ _ _ _ _ _ _ _ _ _ _ _ _ _ _ _ _ _ _ _ _ _ _ _ _ _ kF (News.sub kN (by kcj_in)) l1x (by assumption)
end

end Mine
end
-- PLoop
section
open PySem PySem.W PyProof.Rows PySem.Calls PySem.Spec
namespace Mine
/-- a pattern that the run keeps -/
structure Ent where
  pat : Str
  cn : Int
  ka : Addr
  pr : Addr
  d : Addr
def entX (e : Ent) : List Str × Addr × Value := ([e.pat, Str.ofString ""], e.ka, .ref e.pr)
def entK (e : Ent) : Str × Value := (e.pat, .ref e.pr)
inductive ProgAt (tl : List (Addr × Obj)) (d : Addr) (cn : Int) : Prop
  | mk (g1 g2 g3 g4 : Int) (o1 o2 o3 o4 : Tok) (v1 : Value) (k : Tok) (v3 v4 : Value) (h : (d, progO g1 g2 g3 g4 o1 o2 o3 o4 v1 (.int cn k) v3 v4) ∈ tl) : ProgAt tl d cn
def EntIn (tl : List (Addr × Obj)) (e : Ent) : Prop := (∃ t1 t2, (e.ka, tupO [.str e.pat t1, .str (Str.ofString "") t2]) ∈ tl) ∧ (e.pr, instObj 98 e.d) ∈ tl ∧ ProgAt tl e.d e.cn
theorem EntIn.more {tl more : List (Addr × Obj)} {e : Ent} (X : EntIn tl e) : EntIn (tl ++ more) e :=
  ⟨X.1.elim fun t1 q => q.elim fun t2 a => ⟨t1, t2, List.mem_append_left _ a⟩, List.mem_append_left _ X.2.1, X.2.2.rec fun g1 g2 g3 g4 o1 o2 o3 o4 v1 k v3 v4 c => .mk g1 g2 g3 g4 o1 o2 o3 o4 v1 k v3 v4 (List.mem_append_left _ c)⟩
def XsOk (es : List Ent) (kp : Int) (xs : PX) : Prop := (es = [] ∧ xs = [] ∧ kp = 0) ∨ (es ≠ [] ∧ ∃ t, xs = (sgk, 647, .int kp t) :: es.map entX)
abbrev pats (es : List Ent) : List Str := es.map (·.pat)
section
variable {es : List Ent} {e : Ent} {p : Str} {xs : PX} {kp : Int}
theorem sgk_ne (p : Str) : [p, Str.ofString ""] ≠ sgk := by
  intro q
  have q2 := (List.cons.inj (List.cons.inj q).2).1
  exact absurd q2 (by decide +kernel)
theorem kv_none (h : p ∉ pats es) : valueAt (es.map entK) p = none := by
  unfold valueAt
  rw [List.find?_eq_none.mpr]; rfl
  intro kv hk
  obtain ⟨e, he, rfl⟩ := List.mem_map.mp hk
  exact fun q => h ((of_decide_eq_true q : e.pat = p) ▸ List.mem_map_of_mem he)
theorem pats_inj (hn : (pats es).Nodup) {e f : Ent} (he : e ∈ es) (hf : f ∈ es) (q : e.pat = f.pat) : e = f := by
  obtain ⟨i, hi, rfl⟩ := List.mem_iff_getElem.mp he
  obtain ⟨j, hj, rfl⟩ := List.mem_iff_getElem.mp hf
  have hi' : i < (pats es).length := by simpa using hi
  have hj' : j < (pats es).length := by simpa using hj
  have : (pats es)[i] = (pats es)[j] := by simpa using q
  have := (List.getElem_inj hn).mp this
  subst this; rfl
theorem kv_some (hn : (pats es).Nodup) (he : e ∈ es) : valueAt (es.map entK) e.pat = some (.ref e.pr) := by
  unfold valueAt
  cases q : (es.map entK).find? fun kv => decide (kv.1 = e.pat) with
  | none =>
    have := List.find?_eq_none.mp q (entK e) (List.mem_map_of_mem he)
    exact absurd (by simp [entK]) this
  | some kv =>
    have h1 := List.mem_of_find?_eq_some q
    have h2 := List.find?_some q
    obtain ⟨f, hf, rfl⟩ := List.mem_map.mp h1
    have h3 : f.pat = e.pat := of_decide_eq_true h2
    rw [pats_inj hn hf he h3]; rfl
theorem stored_fresh (h : e.pat ∉ pats es) : stored (es.map entK) e.pat (.ref e.pr) = (es ++ [e]).map entK := by
  unfold stored
  rw [if_neg]
  · simp [entK]
  · intro q
    obtain ⟨kv, hk, h2⟩ := List.any_eq_true.mp q
    obtain ⟨f, hf, rfl⟩ := List.mem_map.mp hk
    exact h ((of_decide_eq_true h2 : f.pat = e.pat) ▸ List.mem_map_of_mem hf)
theorem stored_same (hn : (pats es).Nodup) (he : e ∈ es) : stored (es.map entK) e.pat (.ref e.pr) = es.map entK := by
  unfold stored
  rw [if_pos]
  · rw [List.map_map]
    refine List.map_congr_left fun f hf => ?_
    show (if f.pat = e.pat then (f.pat, Value.ref e.pr) else entK f) = entK f
    split
    · rename_i q; rw [pats_inj hn hf he q]; rfl
    · rfl
  · exact List.any_eq_true.mpr ⟨entK e, List.mem_map_of_mem he, by simp [entK]⟩
theorem XsOk.len (X : XsOk es kp xs) : xs.length ≤ es.length + 1 := by
  rcases X with ⟨rfl, rfl, _⟩ | ⟨_, t, rfl⟩ <;> simp
theorem XsOk.nodup (X : XsOk es kp xs) (hn : (pats es).Nodup) : (xs.map (·.1)).Nodup := by
  rcases X with ⟨rfl, rfl, _⟩ | ⟨_, t, rfl⟩
  · exact List.nodup_nil
  · rw [List.map_cons, List.nodup_cons]
    constructor
    · intro q
      obtain ⟨y, hy, h2⟩ := List.mem_map.mp q
      obtain ⟨f, hf, rfl⟩ := List.mem_map.mp hy
      exact sgk_ne _ h2
    · rw [List.map_map]
      have : (fun f : Ent => [f.pat, Str.ofString ""]) = ((fun p => [p, Str.ofString ""]) ∘ Ent.pat) := rfl
      show (es.map fun f : Ent => [f.pat, Str.ofString ""]).Nodup
      rw [this, ← List.map_map]
      exact List.Pairwise.map (f := fun p => [p, Str.ofString ""]) (R := (· ≠ ·)) (S := (· ≠ ·)) (fun a b hab q => hab (List.cons.inj q).1) hn
theorem XsOk.gets (X : XsOk es kp xs) : GetsI xs sgk kp := fun t0 => by
  rcases X with ⟨rfl, rfl, rfl⟩ | ⟨_, t, rfl⟩
  · exact ⟨t0, rfl⟩
  · exact ⟨t, by unfold atKey; rw [List.find?_cons_of_pos (by simp)]; rfl⟩
theorem XsOk.none (X : XsOk es kp xs) (h : p ∉ pats es) : atKey xs [p, Str.ofString ""] = none := by
  rcases X with ⟨rfl, rfl, _⟩ | ⟨_, t, rfl⟩
  · rfl
  · unfold atKey
    rw [List.find?_eq_none.mpr]; rfl
    intro y hy
    rcases List.mem_cons.mp hy with rfl | hy
    · simp only [decide_eq_true_eq]; exact fun q => sgk_ne p q.symm
    · obtain ⟨f, hf, rfl⟩ := List.mem_map.mp hy
      exact fun q => h ((List.cons.inj (of_decide_eq_true q)).1 ▸ List.mem_map_of_mem hf)
theorem XsOk.some (X : XsOk es kp xs) (hn : (pats es).Nodup) (he : e ∈ es) : atKey xs [e.pat, Str.ofString ""] = .some (e.ka, .ref e.pr) := by
  have hnx := X.nodup hn
  rcases X with ⟨rfl, rfl, _⟩ | ⟨_, t, rfl⟩
  · cases he
  · obtain ⟨i, hi⟩ := List.mem_iff_getElem?.mp he
    exact atKey_of_get hnx (i := i + 1) (by rw [List.getElem?_cons_succ, List.getElem?_map, hi]; rfl)
theorem XsOk.count (X : XsOk es kp xs) : xs.countP isRefV = es.length := by
  rcases X with ⟨rfl, rfl, _⟩ | ⟨_, t, rfl⟩
  · rfl
  · rw [List.countP_cons_of_neg (by simp [isRefV]), List.countP_map]
    have : es.countP (isRefV ∘ entX) = es.length := List.countP_eq_length.mpr fun _ _ => rfl
    exact this
theorem XsOk.new {t : Tok} {k2 : Int} (X : XsOk es kp xs) (hn : (pats es).Nodup) (h : e.pat ∉ pats es) : XsOk (es ++ [e]) k2 (storedH (storedH xs sgk 647 (.int k2 t)) [e.pat, Str.ofString ""] e.ka (.ref e.pr)) := by
  have hk := X.none h
  have h1 : atKey (storedH xs sgk 647 (.int k2 t)) [e.pat, Str.ofString ""] = Option.none := by rw [atKey_stored_ne (sgk_ne _)]; exact hk
  rw [storedH_new h1]
  refine .inr ⟨by simp, t, ?_⟩
  have hs : storedH xs sgk 647 (.int k2 t) = (sgk, 647, .int k2 t) :: es.map entX := by
    rcases X with ⟨rfl, rfl, _⟩ | ⟨_, t', rfl⟩
    · rfl
    · have : atKey ((sgk, 647, Value.int kp t') :: es.map entX) sgk = Option.some (647, .int kp t') := by unfold atKey; rw [List.find?_cons_of_pos (by simp)]; rfl
      rw [storedH_old this, List.map_cons]
      have q1 : putAt sgk (Value.int k2 t) (sgk, 647, Value.int kp t') = (sgk, 647, Value.int k2 t) := by unfold putAt; rw [if_pos rfl]
      have q2 : (es.map entX).map (putAt sgk (Value.int k2 t)) = es.map entX := by
        rw [List.map_map]
        refine List.map_congr_left fun f _ => ?_
        show putAt sgk _ (entX f) = entX f
        unfold putAt
        exact if_neg (sgk_ne _)
      rw [q1, q2]
  rw [hs]
  simp [entX]
theorem XsOk.keys {prog : Program} {w : World} {h : Heap} (X : XsOk es kp xs) (h0 : KeyAt prog w h sgk 647) (hk : ∀ e ∈ es, ∃ t1 t2, h.get? e.ka = .some (tupO [.str e.pat t1, .str (Str.ofString "") t2])) : KeysAt prog w h xs := by
  rcases X with ⟨rfl, rfl, _⟩ | ⟨_, t, rfl⟩
  · exact fun y hy => nomatch hy
  · intro y hy
    rcases List.mem_cons.mp hy with rfl | hy
    · exact h0
    · obtain ⟨f, hf, rfl⟩ := List.mem_map.mp hy
      obtain ⟨t1, t2, q⟩ := hk f hf
      exact key2 q
theorem XsOk.vals {h : Heap} {P : Addr → Prop} (X : XsOk es kp xs) (hk : ∀ e ∈ es, ∃ od, h.get? e.pr = .some (instObj 98 e.d) ∧ h.get? e.d = .some od ∧ P e.pr ∧ P e.d) : ∀ y ∈ xs, (∃ i t, y.2.2 = .int i t) ∨ ∃ p d od, y.2.2 = .ref p ∧ h.get? p = .some (instObj 98 d) ∧ h.get? d = .some od ∧ P p ∧ P d := by
  rcases X with ⟨rfl, rfl, _⟩ | ⟨_, t, rfl⟩
  · exact fun y hy => nomatch hy
  · intro y hy
    rcases List.mem_cons.mp hy with rfl | hy
    · exact .inl ⟨kp, t, rfl⟩
    · obtain ⟨f, hf, rfl⟩ := List.mem_map.mp hy
      obtain ⟨od, a, b, c, d⟩ := hk f hf
      exact .inr ⟨f.pr, f.d, od, rfl, a, b, c, d⟩
end

end Mine
end
-- X15
section
open PySem PySem.W PyProof.Rows PySem.Calls PySem.Spec PyProof.V
namespace Mine
noncomputable def rItems : Nat → Nat → List Itm
  | _, 0 => []
  | i, k + 1 => .tok (fun t => .int (i : Int) t) :: rItems (i + 1) k
theorem rItems_len : ∀ k i, (rItems i k).length = k
  | 0, _ => rfl
  | k + 1, i => congrArg (· + 1) (rItems_len k (i + 1))
theorem rItems_get : ∀ k i j, j < k → (rItems i k)[j]? = some (.tok fun t => .int ((i + j : Nat) : Int) t)
  | 0, _, _, h => absurd h (Nat.not_lt_zero _)
  | k + 1, i, 0, _ => rfl
  | k + 1, i, j + 1, h => by
    have := rItems_get k (i + 1) j (Nat.lt_of_succ_lt_succ h)
    show (rItems (i + 1) k)[j]? = _
    rw [this, show i + 1 + j = i + (j + 1) by omega]
section
variable {prog : Program} {w : World} {A : Around} {E : Value → Shared → Prop} {s : Shared} {env : Env} {h₀ : Heap} {target : Expr} {body : List Stmt} {Q : Flow → Shared → Prop}
theorem letGo_rangeiter {I : Addr} {x left step : Int} {v : Value} {Q' : Unit → Shared → Prop} {s' : Shared} (hit : IsRangeIter s'.heap I x left step) (h : Q' () s') :
    wpAny (model prog w) A (letOwnedTupleGo target (.ref I) v) Q' E s' := by
  unfold letOwnedTupleGo
  cases target <;> first
    | exact wpAny_pure h
    | (cases v <;> first
        | exact wpAny_pure h
        | (refine wpAny_bind (wpAny_load hit ?_)
           exact wpAny_pure h))
theorem range_turns {n : Int} {t : Tok} {m₀ : Str → Option Value} {news : List (Addr × Obj)} (hn : 0 ≤ n ∧ n ≤ 1000)
    (hh : A.handled = none) (F : Fr h₀ env.locals s.heap m₀) (N : News h₀ env.locals s.heap news)
    (rest₀ : ∀ I : Addr, (∀ p ∈ news, p.1 < I) → ItemsRest prog w A E h₀ env target body Q s [(I, "range_iterator")] [] (rItems 0 n.toNat) m₀ news) :
    wpAny (model prog w) A (call (.type "range") [.int n t]) (fun xv s₁ => wpAny (model prog w) A (pyIter xv) (fun it s₂ => TurnsAt prog w A h₀ env target body Q E it s₂) E s₁) E s := by
  refine call_range_1 ?_
  have hsz : Builtin.Range.rangeSize 0 n 1 = (n.toNat : Int) := by rw [rangeSize_one]; split <;> omega
  refine wpAny_pyIter_range (IsRange.new _ _ _ _ _ _ _) (small_one (by decide) (by decide) (by omega) (by omega)) ?_
  generalize hO : ({ cls := .type "range", data := .fields #[.int 0 s.toks, .int n t, .int 1 (s.toks + 1)] } : Obj) = oR
  have F1 : Fr h₀ env.locals (s.heap.push oR) m₀ := F.push _
  have N1 : News h₀ env.locals (s.heap.push oR) news := fun p hp => ⟨Heap.get?_push_of_some _ (N p hp).1, (N p hp).2⟩
  have sub : ∀ p ∈ news, p.1 < (s.heap.push oR).objs.size := fun p hp => Heap.lt_size (N1 p hp).1
  show TurnsAt prog w A h₀ env target body Q E (.ref (s.heap.push oR).objs.size) { s with heap := (s.heap.push oR).push { cls := .type "range_iterator", data := .fields #[rawInt 0, rawInt (Builtin.Range.rangeSize 0 n 1), rawInt 1] }, toks := s.toks + 1 + 1 }
  generalize s.heap.push oR = H1 at F1 N1 sub
  have W := (Walks.range (prog := prog) (w := w) hh H1.objs.size 0 1 n.toNat).bound
  refine ktg_core (s := s) (hp := H1.push { cls := .type "range_iterator", data := .fields #[rawInt 0, rawInt (Builtin.Range.rangeSize 0 n 1), rawInt 1] }) (tk0 := s.toks + 1 + 1) (keep := []) (KTurns.ofWalks W fun i v s Q E st q => letGo_rangeiter st q) (rItems_len _ _).symm (fun i v h hp => ?_) (fun i h st => ?_) (fun b hb => ?_) (fun b hb => by simpa using hb) (fun b hb => ?_) ?_ (fun p hp hI => ?_) ?_ (F1.push _) (fun p hp => ⟨Heap.get?_push_of_some _ (N1 p hp).1, (N1 p hp).2⟩) trivial (rest₀ _ fun p hp => ?_)
  · obtain ⟨hi, t', rfl⟩ := hp
    exact ⟨_, rItems_get _ 0 i hi, t', by simp⟩
  · exact ⟨[(H1.objs.size, _)], ⟨⟨rfl, rfl⟩, trivial⟩, fun p hp => by rw [List.mem_singleton.mp hp]; exact st⟩
  · obtain rfl : b = H1.objs.size := by simpa using hb
    exact ⟨List.mem_cons_self .., next_is_new F1⟩
  · exact .inl (by simpa using hb)
  · intro hI
    exact absurd F1.ns.lt ((List.mem_singleton.mp hI) ▸ Nat.lt_irrefl _)
  · exact absurd (Heap.lt_size (N1 p hp).1) ((List.mem_singleton.mp hI) ▸ Nat.lt_irrefl _)
  · show IsRangeIter _ _ _ _ _
    rw [hsz]
    have := Heap.get?_push_size H1 (o := { cls := .type "range_iterator", data := .fields #[rawInt 0, rawInt (n.toNat : Int), rawInt 1] }) rfl
    simpa [IsRangeIter] using this
  · exact sub p hp
theorem range_ind {ws : List (Addr × String)} {keep : List (Addr × Obj)} {n : Nat} (Inv : Nat → (Str → Option Value) → List (Addr × Obj) → Prop)
    (h0 : ∀ m news, Inv n m news → ItemsRest prog w A E h₀ env target body Q s ws keep [] m news)
    (h1 : ∀ i k m news, i + (k + 1) = n → Inv i m news → (∀ m' n', Inv (i + 1) m' n' → ItemsRest prog w A E h₀ env target body Q s ws keep (rItems (i + 1) k) m' n') → ItemsRest prog w A E h₀ env target body Q s ws keep (.tok (fun t => .int (i : Int) t) :: rItems (i + 1) k) m news) :
    ∀ k i m news, i + k = n → Inv i m news → ItemsRest prog w A E h₀ env target body Q s ws keep (rItems i k) m news := by
  intro k
  induction k with
  | zero => intro i m news e hI; exact h0 m news (by rw [← e]; exact hI)
  | succ k ih => exact fun i m news e hI => h1 i k m news e hI fun m' n' h' => ih (i + 1) m' n' (by omega) h'
end

end Mine
end
-- X16
section
open PySem PySem.W PyProof.Rows PySem.Calls PySem.Spec
namespace Mine
section
variable {h₀ h h' base : Heap} {L e D : Addr} {m : Str → Option Value} {news : List (Addr × Obj)} {env : Env} {l : List Env} {od : Obj} {fl : Option Value}
theorem flown_fr (F : Fr h₀ L h m) (X : Flown base h (frs [env]) l e D od fl h') (hf : env.frame = some L) : Fr h₀ L h' m := by
  have e1 : frs [env] = [L] := by simp [frs, hf]
  obtain ⟨o, es, ep, ho, hd, r⟩ := F.ns
  obtain ⟨sl, hs⟩ := X.slots L o ho (by rw [e1]; exact .head _)
  refine ⟨⟨_, es, ep, hs, hd, r⟩, fun b o' q => X.keep b o' (F.keep b o' q) fun hb => ?_, F.above⟩
  rw [e1] at hb
  have hbL : b = L := List.mem_singleton.mp hb
  exact absurd (Heap.lt_size q) (Nat.not_lt.mpr (hbL ▸ F.above))
theorem flown_news (N : News h₀ L h news) (X : Flown base h (frs [env]) l e D od fl h') (hf : env.frame = some L) : News h₀ L h' news := fun p hp => by
  have e1 : frs [env] = [L] := by simp [frs, hf]
  exact ⟨X.keep _ _ (N p hp).1 (by rw [e1]; exact fun hb => (N p hp).2.1 (List.mem_singleton.mp hb)), (N p hp).2⟩
theorem none_of_keep {a : Addr} (k : ∀ b o, h₀.get? b = some o → h.get? b = some o) (x : h.get? a = none) : h₀.get? a = none := by
  cases q : h₀.get? a with
  | none => rfl
  | some o => have := k _ _ q; rw [x] at this; cases this
theorem flown_both (F : Fr h₀ L h m) (N : News h₀ L h news) (X : Flown base h (frs [env]) l e D od fl h') (hf : env.frame = some L) :
    ∃ vs, News h₀ L h' ((e, ⟨.ref 59, some D, .fields vs, #[]⟩) :: (D, od) :: news) ∧ vs[2]? = some .none ∧ (∀ p ∈ news, p.1 ≠ e) ∧ (∀ p ∈ news, p.1 ≠ D) ∧ e ≠ D := by
  obtain ⟨vs, he, hc, _⟩ := X.exc
  have eL : e ≠ L := fun q => by
    obtain ⟨o, _, _, ho, _⟩ := F.ns
    have := X.newE; rw [q, ho] at this; cases this
  have dL : D ≠ L := fun q => by
    obtain ⟨o, _, _, ho, _⟩ := F.ns
    have := X.newD; rw [q, ho] at this; cases this
  refine ⟨vs, fun p hp => ?_, hc, fun p hp q => ?_, fun p hp q => ?_, fun q => ?_⟩
  · rcases List.mem_cons.mp hp with rfl | hp
    · exact ⟨he, eL, none_of_keep F.keep X.newE⟩
    · rcases List.mem_cons.mp hp with rfl | hp
      · exact ⟨X.dict, dL, none_of_keep F.keep X.newD⟩
      · exact flown_news N X hf p hp
  · have := X.newE; rw [← q, (N p hp).1] at this; cases this
  · have := X.newD; rw [← q, (N p hp).1] at this; cases this
  · have := X.dict; rw [← q, he] at this; cases this; exact X.noF _ rfl
end
section
variable {prog : Program} {w : World} {A₀ : Around} {E : Value → Shared → Prop} {s' : Shared} {h₀ h : Heap} {L a e D : Addr} {m : Str → Option Value} {name : Str} {scope : Scope} {cd : Value}
  {n : Str} {b₀ : Stmt} {suite : List Stmt} {pos np : Pos} {rest : List ExceptHandler} {Q : Flow → Shared → Prop} {news : List (Addr × Obj)} {KF : Frag} {od : Obj}
  {p : Program} {loose : List Str} {mg mb : Str → Option Value} {x : Str}
variable {nm q : Str} {Nn : Addr} {bs : List Value} {hdct : Bool} {sn : List Str} {sub : List Value} {ab : Bool} {col : Option Bool} {dd : Option Addr} {k0 k1 k2 k3 k5 : Option Value}
theorem caught59 (K : Below A₀ h₀ [] h₀) (F : Fr h₀ L h m) (N : News h₀ L h news) (X : KF.In h₀) (T : TopRead p loose mg mb h₀)
    (FL : Flown h₀ h (frs [envOf name scope L a cd]) [envOf name scope L a cd] e D od (some .none) s'.heap)
    (ex : nsIn KF mainGlobals x = some (some (.ref 59))) (hCK : KF.lookup 59 = some (excClassObj nm q 59 Nn bs [.ref 39, .type "Exception", .type "BaseException", .type "object"] hdct sn sub ab col dd k0 k1 k2 k3 k5 "Exception.__new__"))
    (k : ∀ h' vs tk, Fr h₀ L h' (fun y => if y = n then some (.ref e) else m y) → News h₀ L h' ((e, ⟨.ref 59, some D, .fields vs, #[]⟩) :: (D, od) :: news) → vs[2]? = some .none → (∀ p ∈ news, p.1 ≠ e) → (∀ p ∈ news, p.1 ≠ D) → e ≠ D →
      wpAny (model prog w) ((A₀.deeper (envOf name scope L a cd)).mark (some (.ref e))) (execs (b₀ :: suite) (envOf name scope L a cd))
        (fun f s₄ => wpAny (model prog w) (A₀.deeper (envOf name scope L a cd)) (do bindName (envOf name scope L a cd) n .none; unbindBehindTheSuite (envOf name scope L a cd) n pos) (fun _ s₅ => Q f s₅) E s₄)
        (AsSuiteRaised (model prog w) ((A₀.deeper (envOf name scope L a cd)).mark (some (.ref e))) (envOf name scope L a cd) n pos (notedBy (model prog w) ((A₀.deeper (envOf name scope L a cd)).mark (some (.ref e))) (envOf name scope L a cd) (cameBackBy (model prog w) (A₀.deeper (envOf name scope L a cd)) (envOf name scope L a cd) E)))
        { s' with heap := h', toks := tk })
    (hk : scope.kind = .function := by rfl) (hlo : (envOf name scope L a cd).kindOf n = some .local := by rfl) (hx : (envOf name scope L a cd).kindOf x = some .globalImplicit := by rfl) (hd : (x == ("__debug__" : Str)) = false := by decide) :
    wpAny (model prog w) (A₀.deeper (envOf name scope L a cd)) (noteFrame (.ref e) (envOf name scope L a cd))
      (fun _ s₂ => wpAny (model prog w) (A₀.deeper (envOf name scope L a cd)) (setFlight (.ref e) none) (fun _ s₃ =>
        wpAny (model prog w) (A₀.deeper (envOf name scope L a cd)) (handleBy (.ref e) (envOf name scope L a cd) (.ExceptHandler (some (.Name x np)) (some n) (b₀ :: suite) pos :: rest)) Q E s₃) E s₂) E s' := by
  refine flown_note (.inr rfl) (Around.frames_deeper K.stack) rfl FL fun h₄ FL₄ => ?_
  refine flown_land (s := { s' with heap := h₄ }) FL₄ fun h₅ FL₅ => ?_
  have F₅ : Fr h₀ L h₅ m := flown_fr F FL₅ rfl
  obtain ⟨vs₅, he₅, _, _⟩ := FL₅.exc
  have hC₅ := F₅.keep _ _ (X _ _ hCK)
  refine wpAny_handleBy_cons (codeAny_handlers_test (name_K (s := { s' with heap := h₅ }) F₅ X T ex ?_ hk hx hd)) (by intro q; cases q)
  refine wpAny_excMatches_sub_self hC₅ he₅ rfl (by decide +kernel) (codeAny_handlers_suite_as ?_)
  refine flown_land (s := { s' with heap := h₅ }) FL₅ fun h₆ FL₆ => ?_
  have F₆ : Fr h₀ L h₆ m := flown_fr F FL₆ rfl
  obtain ⟨vs, N₆, hc, o1, o2, o3⟩ := flown_both F N FL₆ rfl
  refine stN (s := { s' with heap := h₆ }) F₆ N₆ (fun h₇ F₇ N₇ => ?_) hk hlo
  exact k h₇ vs _ F₇ N₇ hc o1 o2 o3
end

end Mine
end
-- X17
section
open PySem PySem.W PyProof.Rows PySem.Calls PySem.Spec PyProof.V
namespace Mine
section
variable {h₀ h' : Heap} {L I a p d : Addr} {oI o od : Obj} {rest : (Str → Option Value) → List (Addr × Obj) → Prop} {s₁ : Shared} {tk : Nat} {m' : Str → Option Value} {all news news' tl : List (Addr × Obj)} {C : Addr} {e : Ent}
theorem unr_one (F : Fr h₀ L h' m') (N : News h₀ L h' all) (news' : List (Addr × Obj)) (hI : (I, oI) ∈ all) (sub : ∀ p ∈ news', p ∈ all) (off : ∀ p ∈ news', p.1 ≠ I) (r : rest m' news') : UnrEndW h₀ L s₁ [(I, oI)] rest { s₁ with heap := h', toks := tk } :=
  ⟨h', tk, m', news', rfl, F, fun p hp => by
    rcases List.mem_append.mp hp with hp | hp
    · exact N p (List.mem_singleton.mp hp ▸ hI)
    · exact N p (sub p hp), fun p hp q hq => by rw [List.mem_singleton.mp hq]; exact off p hp, r⟩
theorem ite_same {m : Str → Option Value} {x y : Str} {v r : Option Value} (h : m x = v) (t : m y = r) : m y = if y = x then v else r := by
  by_cases e : y = x
  · rw [if_pos e, ← h, e]
  · rw [if_neg e]; exact t
theorem put7 (m : Str → Option Value) (x1 x2 x3 x4 x5 x6 x7 : Str) : m = fun y => if y = x1 then m x1 else if y = x2 then m x2 else if y = x3 then m x3 else if y = x4 then m x4 else if y = x5 then m x5 else if y = x6 then m x6 else if y = x7 then m x7 else m y :=
  funext fun y => ite_same rfl (ite_same rfl (ite_same rfl (ite_same rfl (ite_same rfl (ite_same rfl (ite_same rfl (rfl)))))))
end
theorem ks_law {prog : Program} {w : World} {h₀ h : Heap} {L : Addr} {m : Str → Option Value} {news tl : List (Addr × Obj)} {es : List Ent} {kp : Int} {xs : PX} (hX : XsOk es kp xs) (N : News h₀ L h news) (h0 : KeyAt prog w h₀ sgk 647) (F : Fr h₀ L h m) (hes : ∀ e ∈ es, PatOk e.pat e.cn ∧ EntIn tl e) (ht : ∀ p ∈ tl, p ∈ news) : KeysAt prog w h xs :=
  hX.keys (KeyAt.keep h0 fun o e _ => F.keep _ _ e) fun e he => by
    obtain ⟨_, ⟨t1, t2, q⟩, _⟩ := hes e he
    exact ⟨t1, t2, (N _ (ht _ q)).1⟩
section
variable {prog : Program} {w : World} {K : Type} [DecidableEq K] {knd : KeyKind prog w K} {A : Around} {E : Value → Shared → Prop} {s : Shared} {h₀ : Heap} {L d : Addr} {news : List (Addr × Obj)} {o : Obj} {kvs : List (Str × Value)} {k : Str} {t : Tok} {v : Value} {Q : Value → Shared → Prop}
theorem kin_yes (N : News h₀ L s.heap news) (hp : (d, o) ∈ news) (hd : o.IsDictOf (PySem.strKind prog w) kvs) (lo : (d == sysModules) = false) (hv : valueAt kvs k = some v) (h : Q (.bool true) { s with toks := s.toks + 1 }) :
    wpAny (model prog w) A (compareOp .In (.str k t) (.ref d)) Q E s := kda_in N hp hd lo (strKind_is _ _ _ _) true (by rw [hv]; rfl) h
theorem kin_no (N : News h₀ L s.heap news) (hp : (d, o) ∈ news) (hd : o.IsDictOf (PySem.strKind prog w) kvs) (lo : (d == sysModules) = false) (hv : valueAt kvs k = none) (h : Q (.bool false) { s with toks := s.toks + 1 }) :
    wpAny (model prog w) A (compareOp .In (.str k t) (.ref d)) Q E s := kda_in N hp hd lo (strKind_is _ _ _ _) false (by rw [hv]; rfl) h
end
section
variable {prog : Program} {w : World} {A : Around} {E : Value → Shared → Prop} {s : Shared} {h₀ h : Heap} {L x C N d : Addr} {m : Str → Option Value} {news : List (Addr × Obj)} {K : Frag}
  {nm q : Str} {bs : List Value} {hdct : Bool} {sn : List Str} {sub : List Value} {ab : Bool} {col : Option Bool} {dd : Option Addr} {k0 k1 k2 k3 k5 : Option Value} {newId : String}
theorem cmp_own (X : K.In h) (hx : h.get? x = some (instObj C d)) (hC : K.lookup C = some (excClassObj nm q C N bs [.type "object"] hdct sn sub ab col dd k0 k1 k2 k3 k5 newId)) (hok : nsOkIn K N = true) (h1 : nsIn K N "__eq__" = some none) (h2 : nsIn K N "__ne__" = some none) : h.CmpInst x C [.type "object"] :=
  ⟨_, _, _, N, _, _, _, _, _, _, _, _, _, _, _, _, _, h.nsMap N, hx, rfl, X _ _ hC, .of_isNs (isNs_of_in X hok), nsMap_none_of_in X hok h1, nsMap_none_of_in X hok h2⟩
theorem ne_self {Q : Value → Shared → Prop} (F : Fr h₀ L s.heap m) (X : K.In h₀) (N' : News h₀ L s.heap news) (hx : (x, instObj C d) ∈ news) (hC : K.lookup C = some (excClassObj nm q C N bs [.type "object"] hdct sn sub ab col dd k0 k1 k2 k3 k5 newId)) (hok : nsOkIn K N = true) (h1 : nsIn K N "__eq__" = some none) (h2 : nsIn K N "__ne__" = some none)
    (hu : A.units + 1 < cLine) (h : Q (.bool false) s) : wpAny (model prog w) A (compareOp .NotEq (.ref x) (.ref x)) Q E s :=
  compareOp_ne_same PySem.F.cmp_object (cmp_own (X.keeps (Fr.keep F)) (N' _ hx).1 hC hok h1 h2) hu h
theorem eval_two {M : Model} {A : Around} {m : Sem Value} {P : Int → Prop} {Q : Value → Shared → Prop} (h1 : wpAny M A m (fun v s' => ∃ x t tk, v = .int x t ∧ P x ∧ s' = { s with toks := tk }) E s) (h2 : ∀ x t tk, P x → Q (.int x t) { s with toks := tk }) : wpAny M A m Q E s :=
  wpAny_mono h1 (fun v s' ⟨x, t, tk, e1, hP, e2⟩ => by subst e1 e2; exact h2 x t tk hP) fun _ _ e => e
end

end Mine
end
-- X19
section
open PySem PySem.W PyProof.Rows PySem.Calls PySem.Spec PyProof.V
namespace Mine
theorem units_mark (A : Around) (h : Option Value) : (A.mark h).units = A.units := rfl
theorem lmem {α : Type} {a : α} {l : List α} (h : a ∈ l) : List.Mem a l := h
section
variable {prog : Program} {w : World} {A : Around} {E : Value → Shared → Prop} {s : Shared} {K : Frag} {x C L : Addr} {h₀ : Heap} {m : Str → Option Value} {news : List (Addr × Obj)} {name : Str} {v : Value}
theorem exc_own {expr : Bool} {Q : Value → Shared → Prop} {ox : Obj} {es : List DictEntry} {n : Nat} {attr : Option Value} (F : Fr h₀ L s.heap m) (X₀ : K.In h₀) (I : InstAt s.heap x ox C (some (dictOf es n)))
    (hga : findIn K (.ref C) "__getattribute__" = some (some (.builtin "BaseException.__getattribute__"))) (hk : findIn K (.ref C) "__getattr__" = some none) (hm : mroIn K C (.type "BaseException") = some true)
    (hh : hasDictIn K C = true) (ha : findIn K (.ref C) name = some attr) (hn : noGet K attr = true) (hl : getL name es = some (some v)) (hv : handedIn v = true) (h : Q v { s with toks := s.toks + 1 }) :
    wpAny (model prog w) A (getAttr (.ref x) name expr) Q E s := exc_get (X₀.keeps F.keep) I hga hk hm (findObj_own hh ha hn hl) hv h
end
theorem isDict_new {prog : Program} {w : World} {knd : KeyKind prog w Str} {o : Obj} {es : List Ent} {pat : Str} {cn : Int} {ka a d : Addr} (hp : pat ∉ pats es) (h : o.IsDictOf knd (stored (es.map entK) pat (.ref a))) : o.IsDictOf knd ((es ++ [(⟨pat, cn, ka, a, d⟩ : Ent)]).map entK) := by
  have q := stored_fresh (e := ⟨pat, cn, ka, a, d⟩) hp
  exact q ▸ h
theorem isDict_same {prog : Program} {w : World} {knd : KeyKind prog w Str} {o : Obj} {es : List Ent} {e : Ent} (hn : (pats es).Nodup) (he : e ∈ es) (h : o.IsDictOf knd (stored (es.map entK) e.pat (.ref e.pr))) : o.IsDictOf knd (es.map entK) := stored_same hn he ▸ h
theorem news_drop2 {h₀ h : Heap} {L : Addr} {a b : Addr × Obj} {l : List (Addr × Obj)} (N : News h₀ L h (a :: b :: l)) : News h₀ L h l := News.sub N fun p hp => .tail _ (.tail _ hp)
theorem count_same {es : List Ent} {kp : Int} {xs : PX} (hX : XsOk es kp xs) : ((xs.countP isRefV : Nat) : Int) = ((es.map entK).length : Nat) := by rw [hX.count, List.length_map]

end Mine
end
-- X18
section
open PySem PySem.W PyProof.Rows PySem.Calls PySem.Spec PyProof.V
namespace Mine
theorem vals_law {h₀ h : Heap} {L x dx : Addr} {news tl : List (Addr × Obj)} {es : List Ent} {kp : Int} {xs : PX} (hX : XsOk es kp xs) (N : News h₀ L h news) (hes : ∀ e ∈ es, PatOk e.pat e.cn ∧ EntIn tl e) (ht : ∀ p ∈ tl, p ∈ news) (q1 : ∀ p ∈ tl, p.1 ≠ x) (q2 : ∀ p ∈ tl, p.1 ≠ dx) :
    ∀ y ∈ xs, (∃ i t, y.2.2 = .int i t) ∨ ∃ p d od, y.2.2 = .ref p ∧ h.get? p = some (instObj 98 d) ∧ h.get? d = some od ∧ p ≠ x ∧ p ≠ dx ∧ d ≠ x ∧ d ≠ dx := fun y hy => by
  rcases XsOk.vals (h := h) (P := fun b => b ≠ x ∧ b ≠ dx) hX (fun e he => by
    obtain ⟨_, _, a, _, _, _, _, _, _, _, _, _, _, _, _, b⟩ := hes e he
    exact ⟨_, (N _ (ht _ a)).1, (N _ (ht _ b)).1, ⟨q1 _ a, q2 _ a⟩, q1 _ b, q2 _ b⟩) y hy with z | ⟨p, d, od, a, b, c, ⟨d1, d2⟩, e1, e2⟩
  · exact .inl z
  · exact .inr ⟨p, d, od, a, b, c, d1, d2, e1, e2⟩
theorem hoff_one {A : Around} {e x dx : Addr} {ox odx : Obj} {news : List (Addr × Obj)} (o1 : ∀ p ∈ news, p.1 ≠ e) (hx : (x, ox) ∈ news) (hd : (dx, odx) ∈ news) : ∀ b ∈ handledAt (A.mark (some (.ref e))), b ≠ x ∧ b ≠ dx := fun b hb => by
  have : b = e := List.mem_singleton.mp hb
  subst this
  exact ⟨Ne.symm (o1 _ hx), Ne.symm (o1 _ hd)⟩
theorem hoff_nil {A : Around} {P : Addr → Prop} (h : A.handled = none) : ∀ b ∈ handledAt A, P b := fun b hb => by
  unfold handledAt at hb; rw [h] at hb; exact nomatch hb
theorem hok_news {A : Around} {h₀ h : Heap} {L e : Addr} {news : List (Addr × Obj)} {oe : Obj} {vs : Array Value} (N : News h₀ L h news) (hm : (e, oe) ∈ news) (h2 : oe.data = .fields vs) (h3 : vs[2]? = some .none) : HOk (A.mark (some (.ref e))) h := HOk.mark (N _ hm).1 h2 h3
theorem unr_cons {h₀ h' : Heap} {L I : Addr} {oI : Obj} {rest : (Str → Option Value) → List (Addr × Obj) → Prop} {s₁ : Shared} {tk : Nat} {m' : Str → Option Value} {news' : List (Addr × Obj)} (F : Fr h₀ L h' m') (N : News h₀ L h' ((I, oI) :: news')) (off : ∀ p ∈ news', p.1 ≠ I) (r : rest m' news') : UnrEndW h₀ L s₁ [(I, oI)] rest { s₁ with heap := h', toks := tk } :=
  unr_one F N news' (.head _) (fun p hp => .tail _ hp) off r
theorem off_append {l tl : List (Addr × Obj)} {a : Addr} (h1 : ∀ p ∈ l, p.1 ≠ a) (h2 : ∀ p ∈ tl, p.1 ≠ a) : ∀ p ∈ l ++ tl, p.1 ≠ a := fun p hp => (List.mem_append.mp hp).elim (h1 p) (h2 p)
theorem entIn_new {tl : List (Addr × Obj)} {pat : Str} {cn : Int} {kt a d : Addr} {t1 t2 k : Tok} {g1 g2 g3 g4 : Int} {o1 o2 o3 o4 : Tok} {v1 v3 v4 : Value} : EntIn (tl ++ [(kt, tupO [.str pat t1, .str (Str.ofString "") t2]), (a, instObj 98 d), (d, progO g1 g2 g3 g4 o1 o2 o3 o4 v1 (.int cn k) v3 v4)]) ⟨pat, cn, kt, a, d⟩ :=
  ⟨⟨t1, t2, List.mem_append_right _ (.head _)⟩, List.mem_append_right _ (.tail _ (.head _)), g1, g2, g3, g4, o1, o2, o3, o4, v1, k, v3, v4, List.mem_append_right _ (.tail _ (.tail _ (.head _)))⟩
theorem ents_new {tl more : List (Addr × Obj)} {es : List Ent} {e : Ent} (hes : ∀ e ∈ es, PatOk e.pat e.cn ∧ EntIn tl e) (h1 : PatOk e.pat e.cn) (h2 : EntIn (tl ++ more) e) : ∀ f ∈ es ++ [e], PatOk f.pat f.cn ∧ EntIn (tl ++ more) f := fun f hf => by
  rcases List.mem_append.mp hf with hf | hf
  · exact ⟨(hes f hf).1, (hes f hf).2.more⟩
  · rw [List.mem_singleton.mp hf]; exact ⟨h1, h2⟩
theorem nodup_new {es : List Ent} {e : Ent} (hn : (pats es).Nodup) (h : e.pat ∉ pats es) : (pats (es ++ [e])).Nodup := by
  unfold pats
  rw [List.map_append]
  refine List.nodup_append.mpr ⟨hn, by simp, ?_⟩
  intro a ha b hb q
  rw [List.map_cons, List.map_nil, List.mem_singleton] at hb
  exact h (hb ▸ q ▸ ha)
theorem inst_exc {h₀ h : Heap} {L x C dx : Addr} {news : List (Addr × Obj)} {od : Obj} {sl : Array (Option Value)} {vs : Array Value} (N : News h₀ L h news) (h1 : (x, (⟨.ref C, some dx, .fields vs, sl⟩ : Obj)) ∈ news) (h2 : (dx, od) ∈ news) :
    InstAt h x ⟨.ref C, some dx, .fields vs, sl⟩ C (some od) := ⟨(N _ h1).1, rfl, rfl, (N _ h2).1⟩
theorem put12 {m : Str → Option Value} {x1 x2 x3 x4 x5 x6 x7 x8 x9 x10 x11 x12 : Str} {v8 v9 v10 v11 v12 : Option Value} (h8 : m x8 = v8) (h9 : m x9 = v9) (h10 : m x10 = v10) (h11 : m x11 = v11) (h12 : m x12 = v12) :
    m = fun y => if y = x1 then m x1 else if y = x2 then m x2 else if y = x3 then m x3 else if y = x4 then m x4 else if y = x5 then m x5 else if y = x6 then m x6 else if y = x7 then m x7 else if y = x8 then v8 else if y = x9 then v9 else if y = x10 then v10 else if y = x11 then v11 else if y = x12 then v12 else m y :=
  funext fun y => ite_same rfl (ite_same rfl (ite_same rfl (ite_same rfl (ite_same rfl (ite_same rfl (ite_same rfl (ite_same h8 (ite_same h9 (ite_same h10 (ite_same h11 (ite_same h12 (rfl))))))))))))

end Mine
end
-- LT
section
open PySem PySem.W PyProof.Rows PySem.Calls PySem.Spec
namespace Mine
local macro_rules | `(tactic| walk_at "call ref") => `(tactic| (refine hold ?_))
local macro_rules | `(tactic| walk_at "exec For Name Call cons nil") => `(tactic| (refine hold ?_))
local macro_rules | `(tactic| walk_at "call type:range") => `(tactic| (refine hold ?_))
def Done : Prop := True
local macro_rules | `(tactic| walk_at "eval IfExp") => `(tactic| ((fail_if_success (have zdone : Done := by assumption)); refine hold ?_))
local macro_rules | `(tactic| k_mem) => `(tactic| first | with_reducible assumption | (refine lmem ?_; with_reducible assumption) | (refine List.mem_append_left _ ?_; with_reducible assumption) | (refine List.mem_append_right _ ?_; k_mem))
local macro_rules | `(tactic| walk_at "compareOp In str ref") => `(tactic| (k_here; k_dflt (first | (refine' kin_yes ?zN ?zp ?zd ?zl ?zv ?_; (case zv => assumption); (case zN => k_asm); (case zp => k_mem); (case zd => assumption); (case zl => assumption)) | (refine' kin_no ?zN ?zp ?zd ?zl ?zv ?_; (case zv => assumption); (case zN => k_asm); (case zp => k_mem); (case zd => assumption); (case zl => assumption)))))
local macro_rules | `(tactic| walk_at "subscriptTail Name Name ref str") => `(tactic| (k_here; k_dflt (refine kda_item (knd := PySem.strKind _ _) (by k_asm) (by k_mem) (by assumption) (strKind_is _ _ _ _) (by assumption) ?_)))
local macro_rules | `(tactic| walk_at "setItem ref str") => `(tactic| (k_here; k_dflt (refine' kda_set (knd := PySem.strKind _ _) ?zF ?zN ?zU ?zd (strKind_is _ _ _ _) ?zz ?_; (case zF => k_asm); (case zN => k_asm); (case zU => k_updF); (case zd => assumption); (case zz => rw [sizeLine_eq, List.length_map]; omega)); intro h' o' F' N' hd'; (try dsimp only at N')))
local macro_rules | `(tactic| walk_at "call builtin:len") => `(tactic| (k_here; (with_reducible show wpAny _ _ (call (Value.builtin "len") [Value.ref _]) _ _ _); k_dflt (refine kda_len (knd := PySem.strKind _ _) (by k_asm) (by k_mem) (by assumption) (by assumption) (by rw [List.length_map]; omega) ?_)))
local macro_rules | `(tactic| walk_at "call builtin:min") => `(tactic| (k_here; (with_reducible show wpAny _ _ (call _ [Value.int _ _, Value.int _ _]) _ _ _); refine' min_here ?zk1 ?zk2 ?zk3 ?_; (case zk1 => exact rfl); (case zk2 => k_asm); (case zk3 => k_asm); intro h' tk' tm' F' N'; (try k_sweep)))
local macro_rules | `(tactic| walk_at "compareOp NotEq ref ref") => `(tactic| (k_here; (with_reducible show wpAny _ _ (compareOp _ (Value.ref _) (Value.ref _)) _ _ _); k_dflt (refine' ne_self ?zF ?zX ?zN ?zm ?zC ?zo ?z1 ?z2 ?zu ?_; (case zF => k_asm); (case zX => k_asm); (case zN => k_asm); (case zm => k_mem); (case zC => k_is); (case zo => kernel_rfl); (case z1 => k_is); (case z2 => k_is); (case zu => ((simp only [units_deeper, units_mark, units_in1, units_caller, cLine]); omega)))))
local macro_rules | `(tactic| walk_at "getAttr ref") => `(tactic| (k_here; (with_reducible show wpAny _ _ (getAttr (Value.ref _) ("value" : Str) _) _ _ _); k_dflt (refine' exc_own ?zxF ?zxX ?zxI ?zx1 ?zx2 ?zx3 ?zx6 ?zx7 ?zx8 ?zx4 ?zx5 ?_; (case zxF => k_asm); (case zxX => k_asm); (case zxI => refine' inst_exc ?zva ?zvb ?zvc; (case zva => k_asm); (case zvb => k_mem); (case zvc => k_mem)); (case zx1 => k_is); (case zx2 => k_is); (case zx3 => k_is); (case zx6 => k_is); (case zx7 => k_is); (case zx8 => k_is); (case zx4 => k_get); (case zx5 => k_handed))))
inductive LInv (w : World) (i' kd wt fr df pad pd fl rx rdx lm dlm cr rl : Addr) (t00 twh : Tok) (wh r0 : Int) (ws : List Value) (av0 av1 av2 av3 av4 : Int) (av5 av6 av7 av8 av9 : Tok) (av10 av11 av12 : Value) (av13 : Tok) (av14 : Value) (bv0 bv1 bv2 bv3 bv4 bv5 bv6 bv7 bv8 bv9 bv10 bv11 bv12 bv13 bv14 bv15 bv16 bv17 bv18 : Int) (bv19 bv20 bv21 bv22 bv23 bv24 bv25 bv26 bv27 bv28 bv29 bv30 bv31 bv32 bv33 bv34 bv35 bv36 bv37 : Tok) (bv38 bv39 bv40 bv41 bv42 bv43 bv44 bv45 bv46 bv47 bv48 bv49 bv50 bv51 bv52 : Value) (cv0 cv1 cv2 cv3 cv4 cv5 cv6 cv7 cv8 : Int) (cv9 cv10 cv11 cv12 cv13 cv14 cv15 cv16 cv17 : Tok) (cv18 cv19 cv20 cv21 cv22 cv23 cv24 : Value) (i : Nat) (m : Str → Option Value) (news : List (Addr × Obj)) : Prop
  | mk (es : List Ent) (tl : List (Addr × Obj)) (kp st spot : Int) (xs : PX) (n : Nat) (okn ocr : Obj) (tst tcr troom : Tok) (vpl : Value) (o1 o2 o3 o4 o5 o6 o7 : Option Value) (mS : Str → Option Value) (f0 : m = (fun y => if y = Str.ofString "turn" then o1 else if y = Str.ofString "pattern" then o2 else if y = Str.ofString "count" then o3 else if y = Str.ofString "left" then o4 else if y = Str.ofString "is_let" then o5 else if y = Str.ofString "program" then o6 else if y = Str.ofString "fault" then o7 else if y = Str.ofString "known" then some (.ref kd) else if y = Str.ofString "run" then some (.ref rx) else if y = Str.ofString "whole" then some (.int wh twh) else if y = Str.ofString "room" then some (.int (10 * r0) troom) else if y = Str.ofString "crate" then some (.ref cr) else mS y)) (f1 : news = (kd, okn) :: (wt, tupO [.int 0 t00, .int wh twh]) :: (fr, instObj 637 df) :: (df, cfO cv0 cv1 cv2 cv3 cv4 cv5 cv6 cv7 cv8 cv9 cv10 cv11 cv12 cv13 cv14 cv15 cv16 cv17 cv18 cv19 cv20 cv21 cv22 cv23 vpl (.ref wt) cv24) :: (pad, listOf #[] 0) :: (pd, pdO prg w xs n) :: (fl, listOf #[.ref fr] (0 + 1)) :: (rx, instObj 615 rdx) :: (rdx, runO bv0 bv1 bv2 bv3 bv4 bv5 bv6 bv7 bv8 bv9 bv10 bv11 bv12 bv13 bv14 bv15 bv16 bv17 bv18 bv19 bv20 bv21 bv22 bv23 bv24 bv25 bv26 bv27 bv28 bv29 bv30 bv31 bv32 bv33 bv34 bv35 bv36 bv37 bv38 bv39 bv40 (.ref lm) bv41 bv42 bv43 bv44 bv45 bv46 bv47 bv48 (.ref fl) bv49 (.ref pd) (.int st tst) bv50 bv51 bv52) :: (lm, instObj 684 dlm) :: (dlm, limO av0 av1 av2 av3 av4 av5 av6 av7 av8 av9 av10 av11 av12 (.int 100000 av13) av14) :: (rl, listOf ws.toArray 0) :: (cr, ocr) :: tl) (f2 : okn.IsDictOf (PySem.strKind prg w) (es.map entK)) (f3 : ocr.IsDictOf (PySem.strKind prg w) (crK rl spot tcr)) (f4 : XsOk es kp xs) (f5 : (pats es).Nodup) (f6 : (∀ e ∈ es, PatOk e.pat e.cn ∧ EntIn tl e)) (f7 : es.length ≤ i) (f8 : (0 ≤ kp ∧ kp ≤ 40 * (i : Int))) (f9 : (0 ≤ st ∧ st ≤ 10 * (i : Int))) (f10 : spot = 3 + 3 * (i : Int)) (f11 : (∀ p ∈ tl, p.1 ≠ kd)) (f12 : (∀ p ∈ tl, p.1 ≠ df)) (f13 : (∀ p ∈ tl, p.1 ≠ pd)) (f14 : (∀ p ∈ tl, p.1 ≠ rdx)) (f15 : (∀ p ∈ tl, p.1 ≠ cr)) (f16 : (∀ p ∈ tl, p.1 ≠ rx)) (f17 : (∀ p ∈ tl, p.1 ≠ i')) : LInv w i' kd wt fr df pad pd fl rx rdx lm dlm cr rl t00 twh wh r0 ws av0 av1 av2 av3 av4 av5 av6 av7 av8 av9 av10 av11 av12 av13 av14 bv0 bv1 bv2 bv3 bv4 bv5 bv6 bv7 bv8 bv9 bv10 bv11 bv12 bv13 bv14 bv15 bv16 bv17 bv18 bv19 bv20 bv21 bv22 bv23 bv24 bv25 bv26 bv27 bv28 bv29 bv30 bv31 bv32 bv33 bv34 bv35 bv36 bv37 bv38 bv39 bv40 bv41 bv42 bv43 bv44 bv45 bv46 bv47 bv48 bv49 bv50 bv51 bv52 cv0 cv1 cv2 cv3 cv4 cv5 cv6 cv7 cv8 cv9 cv10 cv11 cv12 cv13 cv14 cv15 cv16 cv17 cv18 cv19 cv20 cv21 cv22 cv23 cv24 i m news
noncomputable def Desc : List Nat → Prop
  | a :: b :: r => b < a ∧ Desc (b :: r)
  | _ => True
theorem Desc.tail {d : Nat} {l : List Nat} (h : Desc (d :: l)) : Desc l := by cases l with | nil => trivial | cons b r => exact h.2
theorem Desc.lt {d : Nat} : ∀ {l : List Nat}, Desc (d :: l) → ∀ a ∈ l, a < d
  | [], _, _, h => nomatch h
  | b :: r, h, a, m => by
    rcases List.mem_cons.mp m with rfl | m
    · exact h.1
    · exact Nat.lt_trans (Desc.lt h.2 a m) h.1
theorem ltA_ne {as : List Nat} {a d : Nat} (l : ∀ a ∈ as, a < d) (m : a ∈ as) : a ≠ d := Nat.ne_of_lt (l _ m)
theorem uoff13 {x1 x2 x3 x4 x5 x6 x7 x8 x9 x10 x11 x12 x13 d : Addr} {o1 o2 o3 o4 o5 o6 o7 o8 o9 o10 o11 o12 o13 : Obj} {tl : List (Addr × Obj)} (h : ∀ a ∈ [x1, x2, x3, x4, x5, x6, x7, x8, x9, x10, x11, x12, x13], @LT.lt Nat _ a d) (t : ∀ p ∈ tl, p.1 ≠ d) :
    ∀ p ∈ (x1, o1) :: (x2, o2) :: (x3, o3) :: (x4, o4) :: (x5, o5) :: (x6, o6) :: (x7, o7) :: (x8, o8) :: (x9, o9) :: (x10, o10) :: (x11, o11) :: (x12, o12) :: (x13, o13) :: tl, p.1 ≠ d := by
  intro p hp
  rcases List.mem_append (s := [(x1, o1), (x2, o2), (x3, o3), (x4, o4), (x5, o5), (x6, o6), (x7, o7), (x8, o8), (x9, o9), (x10, o10), (x11, o11), (x12, o12), (x13, o13)]) (t := tl) |>.mp hp with m | m
  · exact Nat.ne_of_lt (h _ (List.mem_map_of_mem (f := Prod.fst) m))
  · exact t p m
local macro_rules | `(tactic| k_ne) => `(tactic| (refine neN ?_; (try dsimp only); first | assumption | exact Ne.symm (by assumption) | exact ltA_ne (by assumption) (by k_mem) | exact Ne.symm (ltA_ne (by assumption) (by k_mem)) | exact lt_ne (by assumption) (by k_mem) | exact Ne.symm (lt_ne (by assumption) (by k_mem)) | omega))
section
variable {w : World} {vw : Program} {lo : List Str} {mean : ExcName → Option Value} {mg mb : Str → Option Value} {h₀ : Heap} {L : Addr} {s : Shared} {E : Value → Shared → Prop} {QF : Flow → Shared → Prop} {fa : Addr} {name qual : Str} {params : Arguments} {body fb : List Stmt} {tgt it : Expr} {pfor : Pos} {scope : Scope} {dV kV doc pm cdv cd ct oc : Value} {an od : Option Addr} {osl : Array (Option Value)}
  {i k : Nat} {m : Str → Option Value} {news : List (Addr × Obj)} {i' kd wt fr df pad pd fl rx rdx lm dlm cr rl : Addr} {t00 twh : Tok} {wh r0 : Int} {ws : List Value} {ns : List Int}
  {av0 av1 av2 av3 av4 : Int} {av5 av6 av7 av8 av9 : Tok} {av10 av11 av12 : Value} {av13 : Tok} {av14 : Value}
  {bv0 bv1 bv2 bv3 bv4 bv5 bv6 bv7 bv8 bv9 bv10 bv11 bv12 bv13 bv14 bv15 bv16 bv17 bv18 : Int} {bv19 bv20 bv21 bv22 bv23 bv24 bv25 bv26 bv27 bv28 bv29 bv30 bv31 bv32 bv33 bv34 bv35 bv36 bv37 : Tok} {bv38 bv39 bv40 bv41 bv42 bv43 bv44 bv45 bv46 bv47 bv48 bv49 bv50 bv51 bv52 : Value}
  {cv0 cv1 cv2 cv3 cv4 cv5 cv6 cv7 cv8 : Int} {cv9 cv10 cv11 cv12 cv13 cv14 cv15 cv16 cv17 : Tok} {cv18 cv19 cv20 cv21 cv22 cv23 cv24 : Value}
theorem law_turn (ho : (pre.heap_1 w.params).lookup 715 = some ⟨oc, od, .func (fnOf name qual params body scope dV kV doc pm an cdv ct), osl⟩) (hfor : body[7]? = some (Stmt.For tgt it fb [] pfor))
  (B : Below callerA h₀ [] h₀) (X : (pre.heap_1 w.params).In h₀) (T : Top vw lo mean mg mb h₀)
  (hInts : IntsAre ws ns) (hns : ns.length ≤ 63) (hr0 : 0 ≤ r0 ∧ r0 < 14) (hwh : 0 ≤ wh ∧ wh < 40) (hik : i ≤ 3) (hpdm : (pd == sysModules) = false) (hkdm : (kd == sysModules) = false)
  (hD : Desc [i', kd, wt, fr, df, pad, pd, fl, rx, rdx, lm, dlm, rl, cr])
  (inv : (LInv w i' kd wt fr df pad pd fl rx rdx lm dlm cr rl t00 twh wh r0 ws av0 av1 av2 av3 av4 av5 av6 av7 av8 av9 av10 av11 av12 av13 av14 bv0 bv1 bv2 bv3 bv4 bv5 bv6 bv7 bv8 bv9 bv10 bv11 bv12 bv13 bv14 bv15 bv16 bv17 bv18 bv19 bv20 bv21 bv22 bv23 bv24 bv25 bv26 bv27 bv28 bv29 bv30 bv31 bv32 bv33 bv34 bv35 bv36 bv37 bv38 bv39 bv40 bv41 bv42 bv43 bv44 bv45 bv46 bv47 bv48 bv49 bv50 bv51 bv52 cv0 cv1 cv2 cv3 cv4 cv5 cv6 cv7 cv8 cv9 cv10 cv11 cv12 cv13 cv14 cv15 cv16 cv17 cv18 cv19 cv20 cv21 cv22 cv23 cv24 (i) (m) (news)))
  (IH : ∀ m' n', (LInv w i' kd wt fr df pad pd fl rx rdx lm dlm cr rl t00 twh wh r0 ws av0 av1 av2 av3 av4 av5 av6 av7 av8 av9 av10 av11 av12 av13 av14 bv0 bv1 bv2 bv3 bv4 bv5 bv6 bv7 bv8 bv9 bv10 bv11 bv12 bv13 bv14 bv15 bv16 bv17 bv18 bv19 bv20 bv21 bv22 bv23 bv24 bv25 bv26 bv27 bv28 bv29 bv30 bv31 bv32 bv33 bv34 bv35 bv36 bv37 bv38 bv39 bv40 bv41 bv42 bv43 bv44 bv45 bv46 bv47 bv48 bv49 bv50 bv51 bv52 cv0 cv1 cv2 cv3 cv4 cv5 cv6 cv7 cv8 cv9 cv10 cv11 cv12 cv13 cv14 cv15 cv16 cv17 cv18 cv19 cv20 cv21 cv22 cv23 cv24 ((i + 1)) (m') (n')) → ItemsRest prg w (callerA.deeper (envOf qual scope L fa cd)) E h₀ (envOf qual scope L fa cd) tgt fb QF s [(i', "range_iterator")] [] (rItems (i + 1) k) m' n') :
  ItemsRest prg w (callerA.deeper (envOf qual scope L fa cd)) E h₀ (envOf qual scope L fa cd) tgt fb QF s [(i', "range_iterator")] [] (.tok (fun t => .int (i : Int) t) :: rItems (i + 1) k) m news := by
  obtain ⟨es, tl, kp, st, spot, xs, n, okn2, ocr2, tst, tcr2, troom, vpl, o1, o2, o3, o4, o5, o6, o7, mS, em, en, hkn2, hcr2, hX, hnd, hes, hel, hkp, hst, hsp, q1, q2, q3, q4, q5, q6, q7⟩ := inv
  have e := ho.symm.trans (by k_is)
  cases e
  have e2 : some _ = some (Stmt.For tgt it fb [] pfor) := hfor
  cases e2
  subst em
  subst en
  have hA1 := Desc.lt hD
  have hA2 := Desc.lt hD.tail
  have hA3 := Desc.lt hD.tail.tail
  have hA4 := Desc.lt hD.tail.tail.tail
  have hA5 := Desc.lt hD.tail.tail.tail.tail
  have hA6 := Desc.lt hD.tail.tail.tail.tail.tail
  have hA7 := Desc.lt hD.tail.tail.tail.tail.tail.tail
  have hA8 := Desc.lt hD.tail.tail.tail.tail.tail.tail.tail
  have hA9 := Desc.lt hD.tail.tail.tail.tail.tail.tail.tail.tail
  have hB1 := Desc.lt hD.tail.tail.tail.tail.tail.tail.tail.tail.tail
  have hB2 := Desc.lt hD.tail.tail.tail.tail.tail.tail.tail.tail.tail.tail
  have hB3 := Desc.lt hD.tail.tail.tail.tail.tail.tail.tail.tail.tail.tail.tail
  have hB4 := Desc.lt hD.tail.tail.tail.tail.tail.tail.tail.tail.tail.tail.tail.tail
  clear hD
  have hsg : KeyAt prg w h₀ sgk 647 := key2 (X _ _ (by k_is))
  refine ItemsRest.tok fun t1 h1 tk1 F1 => ?_
  refine AllObj.cons fun oI hoI => AllObj.nil fun N1 => ?_
  simp only [List.cons_append, List.nil_append] at N1
  k_steps
  (unfold Hold); (k_dflt (apply pat_spec; (case F => k_asm); (case B => k_asm); (case X => k_asm); (case N => k_asm); (case T => k_asm); (case hA => first | exact Around.frames_deeper (Below.stack (by k_asm)) | assumption); (case hf => first | exact rfl | assumption); (case hke => first | exact rfl | assumption); (case hh => first | assumption | exact rfl); (case hdp => ((simp only [depth_deeper, depth_mark, depth_caller, recursionLimit]); omega)); (case hun => ((simp only [units_deeper, units_mark, units_in1, units_caller, cLine]); omega)); (case U => k_updF); (case hd => assumption); (case m2 => k_mem); (case hi => assumption); (case hns => first | assumption | omega); (case hsp => (first | assumption | omega)))); (intro a pat tpa tq2 tq3 cn ocr3 hh3 tk3 hpo hcn F3 N3 hoff hcr3; (try simp only [List.cons_append, List.nil_append, List.append_assoc] at N3); (try k_sweep))
  k_steps
  rename Fr _ _ _ _ => F4
  rename News _ _ _ _ => N4
  replace N4 : News _ _ _ ((i', oI) :: (kd, okn2) :: (wt, tupO [.int 0 t00, .int wh twh]) :: (fr, instObj 637 df) :: (df, cfO cv0 cv1 cv2 cv3 cv4 cv5 cv6 cv7 cv8 cv9 cv10 cv11 cv12 cv13 cv14 cv15 cv16 cv17 cv18 cv19 cv20 cv21 cv22 cv23 vpl (.ref wt) cv24) :: (pad, listOf #[] 0) :: (pd, pdO prg w xs n) :: (fl, listOf #[.ref fr] (0 + 1)) :: (rx, instObj 615 rdx) :: (rdx, runO bv0 bv1 bv2 bv3 bv4 bv5 bv6 bv7 bv8 bv9 bv10 bv11 bv12 bv13 bv14 bv15 bv16 bv17 bv18 bv19 bv20 bv21 bv22 bv23 bv24 bv25 bv26 bv27 bv28 bv29 bv30 bv31 bv32 bv33 bv34 bv35 bv36 bv37 bv38 bv39 bv40 (.ref lm) bv41 bv42 bv43 bv44 bv45 bv46 bv47 bv48 (.ref fl) bv49 (.ref pd) (.int st tst) bv50 bv51 bv52) :: (lm, instObj 684 dlm) :: (dlm, limO av0 av1 av2 av3 av4 av5 av6 av7 av8 av9 av10 av11 av12 (.int 100000 av13) av14) :: (rl, listOf ws.toArray 0) :: (cr, ocr3) :: tl) := News.sub N4 (List.Sublist.subset (by repeat (first | exact List.sublist_append_left _ _ | apply List.Sublist.cons₂)))
  (try clear hoff); (try clear N1); (try clear F1); (try clear N0); (try clear F0)
  have hxn := hX.nodup hnd
  have hxl := hX.len
  unfold Hold
  have hi5 : (i : Int) ≤ 4 := by omega
  refine eval_two (P := fun x => (i < 3 ∧ x = 880 - 10 * r0) ∨ (¬ i < 3 ∧ x = 880)) ?_ fun pl tpl tk7 hpl => ?_
  · have hdone : Done := trivial
    by_cases hi : i < 3
    · k_steps
      exact .inl ⟨hi, rfl⟩
    · k_steps
      exact .inr ⟨hi, rfl⟩
  k_steps
  unfold Hold
  refine eval_two (P := fun x => (i < 3 ∧ x = 10 * r0) ∨ (¬ i < 3 ∧ x = 0)) ?_ fun lf tlf tk8 hlf => ?_
  · have hdone : Done := trivial
    by_cases hi : i < 3
    · k_steps
      exact .inl ⟨hi, rfl⟩
    · k_steps
      exact .inr ⟨hi, rfl⟩
  have hdone : Done := trivial
  have hsum : pl + lf = 880 ∧ 0 ≤ lf ∧ lf ≤ 130 := by omega
  clear hpl hlf
  by_cases hp : pat ∈ pats es
  · obtain ⟨e, he, hpat⟩ := List.mem_map.mp hp
    obtain ⟨hpe, ⟨⟨tk1', tk2', eka⟩, epr, g1, g2, g3, g4, oo1, oo2, oo3, oo4, vv1, kk, vv3, vv4, ed⟩⟩ := hes e he
    have hce : cn = e.cn := by
      obtain ⟨_, _, _, _, _, _, _, _, _, x1⟩ := hpo
      obtain ⟨_, _, _, _, _, _, _, _, _, x2⟩ := hpe
      rw [hpat] at x2
      exact x1.symm.trans x2
    rw [← hce] at ed
    rw [hpat] at eka
    have epr' : (e.pr, (⟨.ref 98, some e.d, .plain, #[]⟩ : Obj)) ∈ tl := epr
    have hv := kv_some hnd he
    have hat := hX.some hnd he
    rw [hpat] at hv hat
    k_steps
    (unfold Hold); (k_dflt (apply pf_known; (case hp => assumption); (case F => k_asm); (case B => k_asm); (case X => k_asm); (case N => k_asm); (case T => k_asm); (case hA => first | exact Around.frames_deeper (Below.stack (by k_asm)) | assumption); (case hf => first | exact rfl | assumption); (case hke => first | exact rfl | assumption); (case hh => first | assumption | exact rfl); (case hdp => ((simp only [depth_deeper, depth_mark, depth_caller, recursionLimit]); omega)); (case hun => ((simp only [units_deeper, units_mark, units_in1, units_caller, cLine]); omega)); (case m1 => k_mem); (case m4 => k_mem); (case m5 => k_mem); (case hks => exact ks_law (by assumption) (by k_asm) (by assumption) (by k_asm) (by assumption) (List.Sublist.subset (by repeat (first | exact List.Sublist.refl _ | exact List.sublist_append_left _ _ | apply List.Sublist.cons)))); (case hnd => assumption); (case hsm => assumption))); (intro h5 tk5 F5 N5; (try dsimp only at N5); (try k_sweep))
    k_steps
    · exact absurd rfl (by assumption)
    rename Obj.IsDictOf _ _ (stored _ _ _) => hk9
    rename Fr _ _ _ _ => F9
    rename News _ _ _ _ => N9
    refine' unr_cons F9 N9 ?uoffk ?urestk
    case uoffk => exact uoff13 hA1 q7
    refine ⟨trivial, IH _ _ ?_⟩
    refine' ⟨es, tl, kp, st, _, xs, n, _, _, _, _, troom, _, _, _, _, _, _, _, _, _, put12 ?p8k ?p9k ?p10k ?p11k ?p12k, rfl, isDict_same hnd he (hpat.symm ▸ hk9), hcr3, hX, hnd, hes, ?w1k, ?w2k, ?w3k, ?w4k, q1, q2, q3, q4, q5, q6, q7⟩
    all_goals first | exact rfl | omega
  · have hv := kv_none hp
    have hat := hX.none hp
    obtain ⟨pp, hpr, hok, hht, hng, hng9, hrw, hplen, hgood, hcnt⟩ := hpo
    by_cases hfit : wh + 10 + min (10 * cn) 400 ≤ lf
    ·
      k_steps
      (unfold Hold); (k_dflt (apply pf_new; (case hpr => assumption); (case hp => assumption); (case F => k_asm); (case B => k_asm); (case X => k_asm); (case N => k_asm); (case T => k_asm); (case hA => first | exact Around.frames_deeper (Below.stack (by k_asm)) | assumption); (case hf => first | exact rfl | assumption); (case hke => first | exact rfl | assumption); (case hh => first | assumption | exact rfl); (case hdp => ((simp only [depth_deeper, depth_mark, depth_caller, recursionLimit]); omega)); (case hun => ((simp only [units_deeper, units_mark, units_in1, units_caller, cLine]); omega)); (case m1 => k_mem); (case m2 => k_mem); (case m3 => k_mem); (case m4 => k_mem); (case m5 => k_mem); (case m6 => k_mem); (case m7 => k_mem); (case m8 => k_mem); (case m9 => k_mem); (case U => k_updF); (case hget => exact XsOk.gets (by assumption)); (case hks => exact ks_law (by assumption) (by k_asm) (by assumption) (by k_asm) (by assumption) (List.Sublist.subset (by repeat (first | exact List.Sublist.refl _ | exact List.sublist_append_left _ _ | apply List.Sublist.cons)))); (case hnd => assumption); (case hxl => (first | assumption | omega)); (case hsm => assumption); (case ne5 => k_ne); (case ne6 => k_ne); (case ne7 => k_ne); (case hlen => (first | assumption | omega)); (case hG => assumption); (case hok => assumption); (case hht => (first | assumption | omega)); (case hrw => (first | assumption | omega)); (case hng => (first | assumption | omega)); (case hst => (first | assumption | omega)); (case hkp => (first | assumption | omega)); (case hcnt => assumption); (case hcn => (first | assumption | omega)); (case hpl => (first | assumption | omega)); (case hwh => (first | assumption | omega)); (case hle => (first | assumption | omega)); (case hsk => exact sgk_ne _))); (intro kt5 a5 d5 t15 t25 g15 g25 g35 g45 x15 x25 x35 x45 v15 kk5 t5 v35 v45 st5 ts5 tkk5 n5 h5 tk5 ek5 est5 F5 N5 O5; (try simp only [List.cons_append, List.nil_append, List.append_assoc] at N5); (try k_sweep))
      k_steps
      · exact absurd (Eq.trans (by assumption) hng) (by assumption)
      rename Obj.IsDictOf _ _ (stored _ _ _) => hk9
      rename Fr _ _ _ _ => F9
      rename News _ _ _ _ => N9
      rename _ = cn => ek9
      rename Off _ _ => O9
      rw [ek9] at N9 O9
      refine' unr_cons F9 N9 ?uofff ?urestf
      case uofff => exact uoff13 hA1 (off_append q7 (off_ne O9 (.head _)))
      refine ⟨trivial, IH _ _ ?_⟩
      refine' ⟨es ++ [(⟨pat, cn, _, _, _⟩ : Ent)], _, kp + pat.length, _, _, _, _, _, _, _, _, troom, _, _, _, _, _, _, _, _, _, put12 ?p8f ?p9f ?p10f ?p11f ?p12f, rfl, isDict_new hp hk9, hcr3, hX.new hnd hp, nodup_new hnd hp, ents_new hes ⟨pp, hpr, hok, hht, hng, hng9, hrw, hplen, hgood, hcnt⟩ entIn_new, (by rw [List.length_append]; simp only [List.length_cons, List.length_nil]; omega), ?w2f, ?w3f, ?w4f, ?o1f, ?o2f, ?o3f, ?o4f, ?o5f, ?o6f, ?o7f⟩
      case o1f => exact off_append q1 (off_ne O9 (by k_mem))
      case o2f => exact off_append q2 (off_ne O9 (by k_mem))
      case o3f => exact off_append q3 (off_ne O9 (by k_mem))
      case o4f => exact off_append q4 (off_ne O9 (by k_mem))
      case o5f => exact off_append q5 (off_ne O9 (by k_mem))
      case o6f => exact off_append q6 (off_ne O9 (by k_mem))
      case o7f => exact off_append q7 (off_ne O9 (by k_mem))
      all_goals first | exact rfl | omega
    ·
      k_steps
      (unfold Hold); (k_dflt (apply pf_die; (case hp => assumption); (case F => k_asm); (case B => k_asm); (case X => k_asm); (case N => k_asm); (case T => k_asm); (case hA => first | exact Around.frames_deeper (Below.stack (by k_asm)) | assumption); (case hf => first | exact rfl | assumption); (case hke => first | exact rfl | assumption); (case hh => first | assumption | exact rfl); (case hdp => ((simp only [depth_deeper, depth_mark, depth_caller, recursionLimit]); omega)); (case hun => ((simp only [units_deeper, units_mark, units_in1, units_caller, cLine]); omega)); (case m1 => k_mem); (case m4 => k_mem); (case m5 => k_mem); (case m6 => k_mem); (case m7 => k_mem); (case m8 => k_mem); (case m9 => k_mem); (case hks => exact ks_law (by assumption) (by k_asm) (by assumption) (by k_asm) (by assumption) (List.Sublist.subset (by repeat (first | exact List.Sublist.refl _ | exact List.sublist_append_left _ _ | apply List.Sublist.cons)))); (case hnd => assumption); (case hsm => assumption); (case hlen => (first | assumption | omega)); (case hcnt => assumption); (case hcn => (first | assumption | omega)); (case hpl => (first | assumption | omega)); (case hwh => (first | assumption | omega)); (case hle => (first | assumption | omega)))); (intro e5 D5 k5 u5 v15 k25 u25 tv5 h5 tk5 FL9; (try dsimp only); refine hold ?_)
      unfold Hold
      refine' caught59 (by k_asm) (by k_asm) (by k_asm) (by k_asm) (by k_asm) FL9 (by k_is) (by k_is) ?_
      intro h' vs9 tk' F' N' hvs9 o19 o29 o39
      (try k_sweep)
      k_steps
      (unfold Hold); (k_dflt (apply kept_spec; (case F => k_asm); (case B => k_asm); (case X => k_asm); (case N => k_asm); (case T => k_asm); (case hA => first | exact Around.frames_deeper (Below.stack (by k_asm)) | assumption); (case hf => first | exact rfl | assumption); (case hke => first | exact rfl | assumption); (case hh => (first | exact .inl rfl | (refine' hok_news ?zqzva ?zqzvb ?zqzvc ?zqzvd; (case zqzva => k_asm); (case zqzvb => k_mem); (case zqzvc => exact rfl); (case zqzvd => assumption)))); (case hdp => ((simp only [depth_deeper, depth_mark, depth_caller, recursionLimit]); omega)); (case hun => ((simp only [units_deeper, units_mark, units_in1, units_caller, cLine]); omega)); (case m1 => k_mem); (case m4 => k_mem); (case m5 => k_mem); (case ne5 => k_ne); (case hks => exact ks_law (by assumption) (by k_asm) (by assumption) (by k_asm) (by assumption) (List.Sublist.subset (by repeat (first | exact List.Sublist.refl _ | exact List.sublist_append_left _ _ | apply List.Sublist.cons)))); (case hnd => assumption); (case hxl => (first | assumption | omega)); (case hsm => assumption); (case hvs => (exact vals_law (by assumption) (by k_asm) (by assumption) (List.Sublist.subset (by repeat (first | exact List.Sublist.refl _ | exact List.sublist_append_left _ _ | apply List.Sublist.cons))) (by assumption) (by assumption))); (case hhx => (first | exact hoff_nil rfl | exact hoff_one (by assumption) (by k_mem) (by k_mem))))); (intro t6 h6 tk6 F6 N6; (try k_sweep))
      k_steps
      · exact absurd (count_same hX) (by assumption)
      (try dsimp only)
      k_steps
      rename Fr _ _ _ _ => F9
      rename News _ _ _ _ => N9
      refine' unr_cons F9 (news_drop2 N9) ?uoffd ?urestd
      case uoffd => exact uoff13 hA1 q7
      refine ⟨trivial, IH _ _ ?_⟩
      refine' ⟨es, tl, kp, st, _, xs, n, _, _, _, _, troom, _, _, _, _, _, _, _, _, _, put12 ?p8d ?p9d ?p10d ?p11d ?p12d, rfl, hkn2, hcr3, hX, hnd, hes, ?w1d, ?w2d, ?w3d, ?w4d, q1, q2, q3, q4, q5, q6, q7⟩
      all_goals first | exact rfl | omega
end

-- L4
theorem good_end {cl : Str → Option Addr} {mean : ExcName → Option Value} {l : List Int} {s₁ : Shared} {L h' tk dr} {m : Str → Option Value} (F : Fr s₁.heap L h' m) (g : s₁.gens = #[]) :
    GoodW PySem.Challenge.rw_qz0116_01.row.claim cl mean [ofPy (PyData.list (l.map PyData.int))] s₁ (.ok (.ret (.bool true))) { heap := h', gens := s₁.gens, drawn := dr, toks := tk, os := s₁.os } := by
  k_steps
theorem ik3 {i k : Nat} {rn : Int} (h : i + (k + 1) = (2 + rn).toNat) (r : 0 ≤ rn ∧ rn < 3) : i ≤ 3 := by omega
theorem lt_step {news : List (Addr × Obj)} {a b : Addr} (l : ∀ p ∈ news, p.1 < a) (h : @LT.lt Nat _ a b) : ∀ p ∈ news, p.1 < b := fun p hp => Nat.lt_trans (l p hp) h
section
variable {w : World} {vw : Program} {lo : List Str} {mean : ExcName → Option Value} {mg mb : Str → Option Value} {A₀ A : Around} {base h₀ : Heap} {env : Env} {outer : List Env} {L : Addr} {m : Str → Option Value} {s : Shared} {Q E : Value → Shared → Prop} {news : List (Addr × Obj)}
  {x dx : Addr} {txt : Str} {t1 t3 t4 t5 : Tok} {i gn dn : Int} {h1 h2 h3 h4 h5 h6 h7 : Int} {k1 k2 k3 k4 k5 k6 k7 : Tok} {v2 v4 v5 v6 v7 : Value}
variable {sl fa : Addr} {ws0 : List Value} {ns : List Int} {name qual : Str} {params : Arguments} {body : List Stmt} {scope : Scope} {dV kV doc pm cdv cd ct oc : Value} {an od : Option Addr} {osl : Array (Option Value)} {QF : Flow → Shared → Prop}
theorem law_body (ho : (pre.heap_1 w.params).lookup 715 = some ⟨oc, od, .func (fnOf name qual params body scope dV kV doc pm an cdv ct), osl⟩)
  (B : Below callerA h₀ [] h₀) (F : Fr h₀ L s.heap (fun x => List.lookup x [(Str.ofString "script", Value.ref sl)].reverse)) (X : (pre.heap_1 w.params).In h₀) (N : News h₀ L s.heap []) (T : Top vw lo mean mg mb h₀)
  (hL : h₀.IsList sl ws0.toArray) (hI : IntsAre ws0 ns) (hlen : ns.length ≤ 63)
  (hE : PassesOwn (model PySem.Challenge.rw_qz0116_01.row.toRowW.1 w) (callerA.deeper (envOf qual scope L fa cd)) (envOf qual scope L fa cd) E)
  (hret : ∀ h' tk' m', Fr h₀ L h' m' → QF (.ret (.bool true)) { s with heap := h', toks := tk' }) :
  wpAny (model PySem.Challenge.rw_qz0116_01.row.toRowW.1 w) (callerA.deeper (envOf qual scope L fa cd)) (execs body (envOf qual scope L fa cd)) QF E s := by
  have e := ho.symm.trans (by k_is)
  cases e
  k_steps
  (unfold Hold); (k_dflt (apply lift_spec; (case F => k_asm); (case B => k_asm); (case X => k_asm); (case N => k_asm); (case T => k_asm); (case hA => first | exact Around.frames_deeper (Below.stack (by k_asm)) | assumption); (case hf => first | exact rfl | assumption); (case hke => first | exact rfl | assumption); (case hh => first | assumption | exact rfl); (case hdp => ((simp only [depth_deeper, depth_mark, depth_caller, recursionLimit]); omega)); (case hun => ((simp only [units_deeper, units_mark, units_in1, units_caller, cLine]); omega)); (case U => k_updF); (case hd => assumption); (case m2 => k_mem); (case hi => assumption); (case hns => first | assumption | omega); (case hsp => (first | assumption | omega)); (case hmany => (first | assumption | omega)))); (intro r0 tr0 tcA ocA hA tkA hr0 FA NA hcA; (try dsimp only at NA); (try k_sweep))
  k_steps
  (unfold Hold); (k_dflt (apply lift_spec; (case F => k_asm); (case B => k_asm); (case X => k_asm); (case N => k_asm); (case T => k_asm); (case hA => first | exact Around.frames_deeper (Below.stack (by k_asm)) | assumption); (case hf => first | exact rfl | assumption); (case hke => first | exact rfl | assumption); (case hh => first | assumption | exact rfl); (case hdp => ((simp only [depth_deeper, depth_mark, depth_caller, recursionLimit]); omega)); (case hun => ((simp only [units_deeper, units_mark, units_in1, units_caller, cLine]); omega)); (case U => k_updF); (case hd => assumption); (case m2 => k_mem); (case hi => assumption); (case hns => first | assumption | omega); (case hsp => (first | assumption | omega)); (case hmany => (first | assumption | omega)))); (intro wh twh tcB ocB hB tkB hwh FB NB hcB; (try dsimp only at NB); (try k_sweep))
  k_steps
  (unfold Hold); (k_dflt (apply limits_spec; (case F => k_asm); (case B => k_asm); (case X => k_asm); (case N => k_asm); (case T => k_asm); (case hA => first | exact Around.frames_deeper (Below.stack (by k_asm)) | assumption); (case hf => first | exact rfl | assumption); (case hke => first | exact rfl | assumption); (case hh => first | assumption | exact rfl); (case hdp => ((simp only [depth_deeper, depth_mark, depth_caller, recursionLimit]); omega)))); (intro lm dlm av0 av1 av2 av3 av4 av5 av6 av7 av8 av9 av10 av11 av12 av13 av14 hC tkC FC NC lC1 lC2; (try k_lt l1'); (try k_sweep))
  have lC3 := lt_step lC1 lC2
  k_steps
  (unfold Hold); (k_dflt (apply run_spec; (case F => k_asm); (case B => k_asm); (case X => k_asm); (case N => k_asm); (case T => k_asm); (case hA => first | exact Around.frames_deeper (Below.stack (by k_asm)) | assumption); (case hf => first | exact rfl | assumption); (case hke => first | exact rfl | assumption); (case hh => first | assumption | exact rfl); (case hdp => ((simp only [depth_deeper, depth_mark, depth_caller, recursionLimit]); omega)))); (intro bv0 bv1 bv2 bv3 bv4 bv5 bv6 bv7 bv8 bv9 bv10 bv11 bv12 bv13 bv14 bv15 bv16 bv17 bv18 bv19 bv20 bv21 bv22 bv23 bv24 bv25 bv26 bv27 bv28 bv29 bv30 bv31 bv32 bv33 bv34 bv35 bv36 bv37 bv38 bv39 bv40 bv41 bv42 bv43 bv44 bv45 bv46 bv47 bv48 bv49 bv50 bv51 bv52 bv53 rx rdx fl pd npd hD tkD FD ND lD1 lD2 lD3 lD4 hpdm; (try k_lt l1'); (try k_sweep))
  have lD5 := lt_step lD1 lD2
  have lD6 := lt_step lD5 lD3
  have lD7 := lt_step lD6 lD4
  have lD8 := Nat.lt_trans lD2 lD3
  have lD9 := Nat.lt_trans lD3 lD4
  have lDa := Nat.lt_trans lD8 lD4
  k_steps
  (unfold Hold); (k_dflt (apply cf_spec; (case F => k_asm); (case B => k_asm); (case X => k_asm); (case N => k_asm); (case T => k_asm); (case hA => first | exact Around.frames_deeper (Below.stack (by k_asm)) | assumption); (case hf => first | exact rfl | assumption); (case hke => first | exact rfl | assumption); (case hh => first | assumption | exact rfl); (case hdp => ((simp only [depth_deeper, depth_mark, depth_caller, recursionLimit]); omega)))); (intro cv0 cv1 cv2 cv3 cv4 cv5 cv6 cv7 cv8 cv9 cv10 cv11 cv12 cv13 cv14 cv15 cv16 cv17 cv18 cv19 cv20 cv21 cv22 cv23 cv24 cv25 cv26 fr df hE5 tkE FE NE lE1 lE2; (try k_lt l1'); (try k_sweep))
  have lE3 := lt_step lE1 lE2
  k_steps
  unfold Hold
  (rename Fr _ _ _ _ => lF')
  with_unfolding_all refine' For_turns lF' ?_ (hE := hE)
  k_steps
  (unfold Hold); (k_dflt (apply lift_spec; (case F => k_asm); (case B => k_asm); (case X => k_asm); (case N => k_asm); (case T => k_asm); (case hA => first | exact Around.frames_deeper (Below.stack (by k_asm)) | assumption); (case hf => first | exact rfl | assumption); (case hke => first | exact rfl | assumption); (case hh => first | assumption | exact rfl); (case hdp => ((simp only [depth_deeper, depth_mark, depth_caller, recursionLimit]); omega)); (case hun => ((simp only [units_deeper, units_mark, units_in1, units_caller, cLine]); omega)); (case U => k_updF); (case hd => assumption); (case m2 => k_mem); (case hi => assumption); (case hns => first | assumption | omega); (case hsp => (first | assumption | omega)); (case hmany => (first | assumption | omega)))); (intro rn trn tcr ocr hG tkG hrn FG NG hcr; (try dsimp only at NG); (try k_sweep))
  k_steps
  unfold Hold
  rename_i cr _ _ _ _ _ rl ws _ _ hInts hC20 hL20 _ _ _ _ _ _ _ _ _ _ pad _ _ _ t00 wt _ _ _ kd _ okn _ hkdm hkn _ _ _ _
  refine' range_turns ?gn1 ?gn2 ?gn3 ?gn4 ?_
  case gn1 => omega
  case gn2 => exact rfl
  case gn3 => k_asm
  case gn4 => k_asm
  intro i' l1
  refine range_ind (fun (i : Nat) (m : Str → Option Value) (news : List (Addr × Obj)) => (LInv w i' kd wt fr df pad pd fl rx rdx lm dlm cr rl t00 twh wh r0 ws av0 av1 av2 av3 av4 av5 av6 av7 av8 av9 av10 av11 av12 av13 av14 bv0 bv1 bv2 bv3 bv4 bv5 bv6 bv7 bv8 bv9 bv10 bv11 bv12 bv13 bv14 bv15 bv16 bv17 bv18 bv19 bv20 bv21 bv22 bv23 bv24 bv25 bv26 bv27 bv28 bv29 bv30 bv31 bv32 bv33 bv34 bv35 bv36 bv37 bv38 bv39 bv40 bv41 bv42 bv43 bv44 bv45 bv46 bv47 bv48 bv49 bv50 bv51 bv52 cv0 cv1 cv2 cv3 cv4 cv5 cv6 cv7 cv8 cv9 cv10 cv11 cv12 cv13 cv14 cv15 cv16 cv17 cv18 cv19 cv20 cv21 cv22 cv23 cv24 (i) (m) (news))) ?ga ?gb _ 0 _ _ (Nat.zero_add _) ?gc
  case gc =>
    refine ⟨[], [], 0, 0, _, [], _, _, _, _, _, _, _, _, _, _, _, _, _, _, _, put7 _ _ _ _ _ _ _ _, rfl, hkn, hcr, .inl ⟨rfl, rfl, rfl⟩, List.nodup_nil, (fun e he => nomatch he), Nat.zero_le _, ⟨by omega, by omega⟩, ⟨by omega, by omega⟩, rfl, ?_, ?_, ?_, ?_, ?_, ?_, ?_⟩ <;> exact (fun p hp => nomatch hp)
  case ga =>
    have hsg : KeyAt prg w h₀ sgk 647 := key2 (X _ _ (by k_is))
    rintro m news ⟨es, tl, kp, st, spot, xs, n, okn2, ocr2, tst, tcr2, troom, vpl, o1, o2, o3, o4, o5, o6, o7, mS, rfl, rfl, hkn2, hcr2, hX, hnd, hes, hel, hkp, hst, hsp, q1, q2, q3, q4, q5, q6, q7⟩
    have hxn := hX.nodup hnd
    have hxl := hX.len
    refine ItemsRest.zero ?_
    k_steps
    (unfold Hold); (k_dflt (apply kept_spec; (case F => k_asm); (case B => k_asm); (case X => k_asm); (case N => k_asm); (case T => k_asm); (case hA => first | exact Around.frames_deeper (Below.stack (by k_asm)) | assumption); (case hf => first | exact rfl | assumption); (case hke => first | exact rfl | assumption); (case hh => (first | exact .inl rfl | (refine' hok_news ?zqzva ?zqzvb ?zqzvc ?zqzvd; (case zqzva => k_asm); (case zqzvb => k_mem); (case zqzvc => exact rfl); (case zqzvd => assumption)))); (case hdp => ((simp only [depth_deeper, depth_mark, depth_caller, recursionLimit]); omega)); (case hun => ((simp only [units_deeper, units_mark, units_in1, units_caller, cLine]); omega)); (case m1 => k_mem); (case m4 => k_mem); (case m5 => k_mem); (case ne5 => k_ne); (case hks => exact ks_law (by assumption) (by k_asm) (by assumption) (by k_asm) (by assumption) (List.Sublist.subset (by repeat (first | exact List.Sublist.refl _ | exact List.sublist_append_left _ _ | apply List.Sublist.cons)))); (case hnd => assumption); (case hxl => (first | assumption | omega)); (case hsm => assumption); (case hvs => (exact vals_law (by assumption) (by k_asm) (by assumption) (List.Sublist.subset (by repeat (first | exact List.Sublist.refl _ | exact List.sublist_append_left _ _ | apply List.Sublist.cons))) (by assumption) (by assumption))); (case hhx => (first | exact hoff_nil rfl | exact hoff_one (by assumption) (by k_mem) (by k_mem))))); (intro t6 h6 tk6 F6 N6; (try k_sweep))
    k_steps
    rw [beq_iff_eq.mpr (count_same hX)]
    exact hret _ _ _ (by k_asm)
  case gb =>
    intro i k m news hik inv IH
    refine law_turn ho rfl B X T hInts (Nat.le_trans hL20 hlen) hr0 hwh (ik3 hik hrn) hpdm hkdm ?_ inv IH
    refine ⟨?_, ?_, ?_, ?_, ?_, ?_, ?_, ?_, ?_, ?_, ?_, ?_, ?_, trivial⟩ <;> first | assumption | exact lt_at (by assumption) (by k_mem)
end

end Mine
end
section
open PySem PySem.W PyProof.Rows PySem.Calls PySem.Spec
namespace Mine
namespace main
theorem tw15649996292582860464 : True := .intro
theorem tw17665120845849184447 : True := .intro
theorem tw2698077643248481384 : True := .intro
theorem tw1409966394225722968 : True := .intro
theorem tw1270039299266317192 : True := .intro
theorem tw17974016328880235120 : True := .intro
theorem tw1632041292262086317 : True := .intro
theorem tw9376575566392132001 : True := .intro
theorem tw16102231251864390963 : True := .intro
theorem tw9302470337196694018 : True := .intro
theorem tw11544348965984651327 : True := .intro
theorem tw6222487380544312443 : True := .intro
theorem tw4026956272090484662 : True := .intro
theorem tw16572128252103988241 : True := .intro
theorem tw451873465583785326 : True := .intro
theorem tw16153842264607907944 : True := .intro
theorem tw13777938177461255882 : True := .intro
theorem tw15768048840197415361 : True := .intro
theorem tw9268297945177815525 : True := .intro
theorem tw9670510015898674028 : True := .intro
theorem tw3045742163950154196 : True := .intro
theorem tw1677766988990989824 : True := .intro
theorem tw15131278010643852716 : True := .intro
theorem tw4261964983698606537 : True := .intro
theorem tw5613160597433933154 : True := .intro
theorem tw4039676971129161736 : True := .intro
theorem tw6801380410627298636 : True := .intro
theorem tw16798622893749714585 : True := .intro
theorem tw7875838824674609581 : True := .intro
theorem tw5532463470591059822 : True := .intro
theorem tw3779293765908593550 : True := .intro
theorem tw12872379398031375081 : True := .intro
theorem tw4681395471914393968 : True := .intro
theorem tw10821422270917381399 : True := .intro
theorem tw11221353774195762014 : True := .intro
theorem tw7698036289167662538 : True := .intro
theorem tw18218335207050127959 : True := .intro
theorem tw11101190512080308003 : True := .intro
theorem tw15734200111481486640 : True := .intro
theorem tw8440099810896429113 : True := .intro
theorem tw15734660467963936456 : True := .intro
theorem tw6545385358150927430 : True := .intro
theorem tw1099256609624015869 : True := .intro
theorem tw13838900630717943254 : True := .intro
theorem tw8466321980469482115 : True := .intro
theorem tw4452170602077327944 : True := .intro
theorem tw1504049600530537962 : True := .intro
theorem tw9730157408454304684 : True := .intro
theorem tw2821470743931037460 : True := .intro
theorem tw6162249291895867263 : True := .intro
theorem tw18442785490491869365 : True := .intro
theorem tw16008252555379753968 : True := .intro
theorem tw11710404883906591787 : True := .intro
theorem tw9272984997812220495 : True := .intro
theorem tw3960113756560652017 : True := .intro
theorem tw5400957986263281647 : True := .intro
theorem tw15624239662980076321 : True := .intro
theorem tw1277820614484962519 : True := .intro
theorem tw14662554035588321541 : True := .intro
theorem tw6697339332421208802 : True := .intro
theorem tw2406621943657119228 : True := .intro
theorem tw17450470499104002142 : True := .intro
theorem tw12361340156312767134 : True := .intro
theorem tw9840939614602229412 : True := .intro
theorem tw16452447596832230105 : True := .intro
theorem tw3454311308915712629 : True := .intro
theorem tw16721930046160240684 : True := .intro
theorem tw6044114016751833949 : True := .intro
theorem tw12455012482086183272 : True := .intro
theorem tw2496676261509829067 : True := .intro
theorem tw3626430660855392483 : True := .intro
theorem tw14793117695081215449 : True := .intro
theorem tw1714950047550659301 : True := .intro
theorem tw12057704586751987240 : True := .intro
theorem tw14907226015203709474 : True := .intro
theorem tw6557543464795787104 : True := .intro
theorem tw7235775444256392728 : True := .intro
theorem tw4500915450034043215 : True := .intro
theorem tw66260789543402106 : True := .intro
theorem tw10094358506670053839 : True := .intro
theorem tw12670839924663504800 : True := .intro
theorem tw2906824675625879941 : True := .intro
theorem tw13642826006792871662 : True := .intro
theorem tw15465920861327815835 : True := .intro
theorem tw9848185148710128376 : True := .intro
theorem tw5436791530062809996 : True := .intro
theorem tw10047389527955405517 : True := .intro
theorem tw2724176850512262202 : True := .intro
theorem tw8652556701797213591 : True := .intro
theorem tw15270170921892066516 : True := .intro
theorem tw5203219222101121401 : True := .intro
theorem tw3848698983108048278 : True := .intro
theorem tw16832360635688203351 : True := .intro
theorem tw5084117380071580128 : True := .intro
theorem tw8663697691656813868 : True := .intro
theorem tw12298629886278197574 : True := .intro
theorem tw834873547066669988 : True := .intro
theorem tw4637267157515435788 : True := .intro
theorem tw5127751686995613262 : True := .intro
theorem tw14639212616227390028 : True := .intro
theorem tw7186131708394509389 : True := .intro
theorem tw14009396871252706886 : True := .intro
theorem tw11982392923317675503 : True := .intro
theorem tw387501639795913443 : True := .intro
theorem tw8729708805864041840 : True := .intro
theorem tw1545906260438175962 : True := .intro
theorem tw5401703158475992631 : True := .intro
theorem tw7268301785047649679 : True := .intro
theorem tw2583023086579268501 : True := .intro
theorem tw7761410557224570781 : True := .intro
theorem tw5665735395497279834 : True := .intro
theorem tw9069182735580402390 : True := .intro
theorem tw7308723440029596264 : True := .intro
theorem tw4900431672193113347 : True := .intro
theorem tw14439473939278146460 : True := .intro
theorem tw6785657489111691699 : True := .intro
theorem tw10609540516017602915 : True := .intro
theorem tw4990475226369331113 : True := .intro
theorem tw6361450105264607166 : True := .intro
theorem tw16320729459185622934 : True := .intro
theorem tw4324958949535026087 : True := .intro
theorem tw6862492499505807319 : True := .intro
theorem tw2538046985915079169 : True := .intro
theorem tw10177057350305019805 : True := .intro
theorem tw11752208632293872130 : True := .intro
theorem tw9563168847844234846 : True := .intro
theorem tw5102693214775723256 : True := .intro
theorem tw11815829001073249272 : True := .intro
theorem tw14457758005677747962 : True := .intro
theorem tw6910295442248876197 : True := .intro
theorem tw6334894449686545209 : True := .intro
theorem tw6112859857366181021 : True := .intro
theorem tw15485851114877660061 : True := .intro
theorem tw13676971244355772609 : True := .intro
theorem tw1157997071576566072 : True := .intro
theorem tw10876375607700338302 : True := .intro
theorem tw17052023290607921161 : True := .intro
theorem tw33456957511925785 : True := .intro
theorem tw16922381011570985944 : True := .intro
theorem tw5585478044538960755 : True := .intro
theorem tw17477492558424962760 : True := .intro
theorem tw302440914744352476 : True := .intro
theorem tw2287757881348798766 : True := .intro
theorem tw13350764725976880583 : True := .intro
theorem tw1178595665728414349 : True := .intro
theorem tw18315214858253571532 : True := .intro
theorem tw8947760058931562597 : True := .intro
theorem tw15017983477296125989 : True := .intro
theorem tw9656510801202774680 : True := .intro
theorem tw15803610866087392283 : True := .intro
theorem tw1678875084529416142 : True := .intro
theorem tw7214478077546791972 : True := .intro
theorem tw13590572293223372214 : True := .intro
theorem tw7411558596216406370 : True := .intro
theorem tw2629084897520917108 : True := .intro
theorem tw18421580907717582127 : True := .intro
theorem tw7293298908176781663 : True := .intro
theorem tw8930851030842425676 : True := .intro
theorem tw16035907590883218939 : True := .intro
theorem tw9508770018378322450 : True := .intro
theorem tw17510229520200029679 : True := .intro
theorem tw1826329307503635854 : True := .intro
theorem tw3613476055612923068 : True := .intro
theorem tw13724616953566380437 : True := .intro
theorem tw13626721169425172152 : True := .intro
theorem tw65644731488775911 : True := .intro
theorem tw221909299271738847 : True := .intro
theorem tw18403998269306519403 : True := .intro
theorem tw13113777628852026922 : True := .intro
theorem tw14646587721710459877 : True := .intro
theorem tw7590696779544312186 : True := .intro
theorem tw14061640607465278742 : True := .intro
theorem tw6741292078354696603 : True := .intro
theorem tw979501456738626862 : True := .intro
theorem tw16965079339398995527 : True := .intro
theorem tw14759895335926876869 : True := .intro
theorem tw12483276189755474720 : True := .intro
theorem tw341453280667917650 : True := .intro
theorem tw2195194259037543316 : True := .intro
theorem tw12252054271945606052 : True := .intro
theorem tw2759098988195820126 : True := .intro
theorem tw15491723280356408159 : True := .intro
theorem tw17336282652733537790 : True := .intro
theorem tw9682133043923132273 : True := .intro
theorem tw9561784451562097942 : True := .intro
theorem tw17679725944135375923 : True := .intro
theorem tw2729793432009153956 : True := .intro
theorem tw4333880214566435006 : True := .intro
theorem tw14909365282108701170 : True := .intro
theorem tw13693970394777133609 : True := .intro
theorem tw16819838333489098493 : True := .intro
theorem tw16008457594558532635 : True := .intro
theorem tw5240536507193477226 : True := .intro
theorem tw12205347405646519318 : True := .intro
theorem tw13355152605343272895 : True := .intro
theorem tw11501822485730972192 : True := .intro
theorem tw8207831470162742035 : True := .intro
theorem tw11403851563620829512 : True := .intro
theorem tw6508729118710982530 : True := .intro
theorem tw11261727412033496967 : True := .intro
theorem tw16136984950599521427 : True := .intro
theorem tw18284262389922463811 : True := .intro
theorem tw5372645768047454471 : True := .intro
theorem tw16629339528299215175 : True := .intro
theorem tw3549514262204291990 : True := .intro
theorem tw6877560268529008848 : True := .intro
theorem tw962032349192862916 : True := .intro
theorem tw16046730324260685337 : True := .intro
theorem tw5649967823195072380 : True := .intro
theorem tw15109750227778091905 : True := .intro
theorem tw17715262827843222689 : True := .intro
theorem tw9897820754763898449 : True := .intro
theorem tw3562595001068472590 : True := .intro
theorem tw14539993770535171780 : True := .intro
theorem tw5240779543111244032 : True := .intro
theorem tw6912675738884088206 : True := .intro
theorem tw6385024630547198690 : True := .intro
theorem tw10896356407431480244 : True := .intro
theorem tw4839478117068044826 : True := .intro
theorem tw9361300454564663673 : True := .intro
theorem tw7074144079889050967 : True := .intro
theorem tw3829396358689915599 : True := .intro
theorem tw17725498274588495791 : True := .intro
theorem tw12927740378394474205 : True := .intro
theorem tw15467891735981029475 : True := .intro
theorem tw17091655785135471103 : True := .intro
theorem tw18302796317244248524 : True := .intro
theorem tw5995161000843957690 : True := .intro
theorem tw17958375852430007124 : True := .intro
theorem tw2524017781993486291 : True := .intro
theorem tw3466206800631347469 : True := .intro
theorem tw12590340796369385619 : True := .intro
theorem tw1306636233014830658 : True := .intro
theorem tw1054321117371714560 : True := .intro
theorem tw5061512775090418087 : True := .intro
theorem tw9512817274939609580 : True := .intro
theorem tw15643365686152983790 : True := .intro
theorem tw13803360072150633466 : True := .intro
theorem tw4475767826048309731 : True := .intro
theorem tw1850612553970854742 : True := .intro
theorem tw1236483940969888574 : True := .intro
theorem tw14635473669698735251 : True := .intro
theorem tw3934531018447913466 : True := .intro
theorem tw15079240505294077160 : True := .intro
theorem tw52199770228462824 : True := .intro
theorem tw2702614204127132176 : True := .intro
theorem tw10665089971535097683 : True := .intro
theorem tw13270728482189477470 : True := .intro
theorem tw6660377722381337597 : True := .intro
theorem tw2225956059507018244 : True := .intro
theorem tw15365013842991253249 : True := .intro
theorem tw8467378866343419333 : True := .intro
theorem tw13876859957761632879 : True := .intro
theorem tw11857135199678951331 : True := .intro
theorem tw4126091431370883743 : True := .intro
theorem tw5571399437266216444 : True := .intro
theorem tw7846812961960373227 : True := .intro
theorem tw7173623326730630234 : True := .intro
theorem tw3796207824708393856 : True := .intro
theorem tw832900586485598795 : True := .intro
theorem tw16952715711813285254 : True := .intro
theorem tw12343854547171428336 : True := .intro
theorem tw2007339730380871907 : True := .intro
theorem tw3557749057250611081 : True := .intro
theorem tw3027586509356016917 : True := .intro
theorem tw4651154628705390771 : True := .intro
theorem tw9190990891756207365 : True := .intro
theorem tw7751025194823839400 : True := .intro
theorem tw4458048076830672230 : True := .intro
theorem tw9265829497004654079 : True := .intro
theorem tw14788915703135433725 : True := .intro
theorem tw7083192437325867461 : True := .intro
theorem tw1429040668314091153 : True := .intro
theorem tw10625486282989778954 : True := .intro
theorem tw13348322127785295214 : True := .intro
theorem tw9155575984036265788 : True := .intro
theorem tw15595112118272840620 : True := .intro
theorem tw13962693860625380366 : True := .intro
theorem tw6635558491612396129 : True := .intro
theorem tw6655696309031964122 : True := .intro
theorem tw10391951854915411234 : True := .intro
theorem tw8118072479153026202 : True := .intro
theorem tw10642606787283503386 : True := .intro
theorem tw12839114828313443825 : True := .intro
theorem tw31828345220925962 : True := .intro
theorem tw9274054859765456524 : True := .intro
theorem tw656089360051881306 : True := .intro
theorem tw18325589031809861271 : True := .intro
theorem tw10204856939554784155 : True := .intro
theorem tw6053611964639427726 : True := .intro
theorem tw4038153913678941442 : True := .intro
theorem tw12702744160499308131 : True := .intro
theorem tw12915833801598196605 : True := .intro
theorem tw11181722664286889309 : True := .intro
theorem tw3905226178654972811 : True := .intro
theorem tw17297283025540448806 : True := .intro
theorem tw2190695567426971638 : True := .intro
theorem tw17402982504261768225 : True := .intro
theorem tw17201416709059790184 : True := .intro
theorem tw3491332818749588091 : True := .intro
theorem tw2566753976717531306 : True := .intro
theorem tw15984706205718930553 : True := .intro
theorem tw10114013102757674387 : True := .intro
theorem tw9360745474812902239 : True := .intro
theorem tw7439787175107056256 : True := .intro
theorem tw14510055921401542917 : True := .intro
theorem tw9483120023164983764 : True := .intro
theorem tw5418533224930618480 : True := .intro
theorem tw765107192605250810 : True := .intro
theorem tw7113585516715319716 : True := .intro
theorem tw11595355409239048105 : True := .intro
theorem tw11987853993630220354 : True := .intro
theorem tw14218914174604095658 : True := .intro
theorem tw13503263706703578961 : True := .intro
theorem tw16950194794029067938 : True := .intro
theorem tw15554039934745177238 : True := .intro
theorem tw223528310411579522 : True := .intro
theorem tw14161005256144132680 : True := .intro
theorem tw2647654807098235363 : True := .intro
theorem tw11135027115929721415 : True := .intro
theorem tw17146568849442343683 : True := .intro
theorem tw18431692314602308842 : True := .intro
theorem tw11785714552879321826 : True := .intro
theorem tw3137596982192898869 : True := .intro
theorem tw73751810991705359 : True := .intro
theorem tw17057053908230417247 : True := .intro
theorem tw1587290215689348708 : True := .intro
theorem tw7380652910202371479 : True := .intro
theorem tw5871769198996169552 : True := .intro
theorem tw10825838108423173272 : True := .intro
theorem tw6161133996638707016 : True := .intro
theorem tw1130211791997205004 : True := .intro
theorem tw18063282731904131703 : True := .intro
theorem tw4365514962571936147 : True := .intro
theorem tw3627144658338631552 : True := .intro
theorem tw5243159528196176124 : True := .intro
theorem tw12273490649430754879 : True := .intro
theorem tw4189750870438640210 : True := .intro
theorem tw10234815189450012239 : True := .intro
theorem tw1390771862084280389 : True := .intro
theorem tw14106445559736802775 : True := .intro
theorem tw17272174723667511238 : True := .intro
theorem tw18190005008629794160 : True := .intro
theorem tw4573282807186111410 : True := .intro
theorem tw5473700226181020891 : True := .intro
theorem tw10159738436595150677 : True := .intro
theorem tw16480584520131690045 : True := .intro
theorem tw12431561837914552411 : True := .intro
theorem tw12941917028564957548 : True := .intro
theorem tw8627561154394265716 : True := .intro
theorem tw6075091234017535682 : True := .intro
theorem tw8557395850702784662 : True := .intro
theorem tw2433702464844828792 : True := .intro
theorem tw5518243967957118194 : True := .intro
theorem tw12885673836220544336 : True := .intro
theorem tw12922898485456448571 : True := .intro
theorem tw10140136200207757160 : True := .intro
theorem tw2279707942289718827 : True := .intro
theorem tw15303317825217679618 : True := .intro
theorem tw1453356044741674121 : True := .intro
theorem tw4585930131862741453 : True := .intro
theorem tw4072190877284726289 : True := .intro
theorem tw4650958065196391918 : True := .intro
theorem tw9681375758050803366 : True := .intro
theorem tw10199874654664476236 : True := .intro
theorem tw12900284412222446716 : True := .intro
theorem tw452746233719593009 : True := .intro
theorem tw1156462466702112376 : True := .intro
theorem tw10334261112615635914 : True := .intro
theorem tw9381277316556691805 : True := .intro
theorem tw4044139247061151142 : True := .intro
theorem tw14064073609400967072 : True := .intro
theorem tw2110754180369666209 : True := .intro
theorem tw2921958311620399285 : True := .intro
theorem tw6449824600675878752 : True := .intro
theorem tw8211959896082780389 : True := .intro
theorem tw5160751907100791332 : True := .intro
theorem tw16411370214107742406 : True := .intro
theorem tw3583811862363856187 : True := .intro
theorem tw4812270449578504274 : True := .intro
theorem tw7153082081811710619 : True := .intro
theorem tw2544328076492683441 : True := .intro
theorem tw16641786646906312760 : True := .intro
theorem tw13293747886898857621 : True := .intro
theorem tw7514964652732493775 : True := .intro
theorem tw961187720498965250 : True := .intro
theorem tw8079908401900000222 : True := .intro
theorem tw1628013610222277130 : True := .intro
theorem tw5781596087445459943 : True := .intro
theorem tw7298748307773712898 : True := .intro
theorem tw13591255225166038476 : True := .intro
theorem tw5665406974723832613 : True := .intro
theorem tw14097447854668400296 : True := .intro
theorem tw17708487481403421675 : True := .intro
theorem tw9121559901702372667 : True := .intro
theorem tw9756827057097773860 : True := .intro
theorem tw15342904991969174519 : True := .intro
theorem tw10924716458440934090 : True := .intro
theorem tw11120327062377616369 : True := .intro
theorem tw12093647306153771053 : True := .intro
theorem tw12646911602827044314 : True := .intro
theorem tw3706830351922483016 : True := .intro
theorem tw3394367416137920725 : True := .intro
theorem tw1118068078248606362 : True := .intro
theorem tw9369988214560726041 : True := .intro
theorem tw14080665800827857628 : True := .intro
theorem tw11251407683458634364 : True := .intro
theorem tw3299218664060906527 : True := .intro
theorem tw15060185592220127646 : True := .intro
theorem tw917386388269078853 : True := .intro
theorem tw15955573374722617477 : True := .intro
theorem tw1496695287857109588 : True := .intro
theorem tw15928290008803537013 : True := .intro
theorem tw9994787619460420439 : True := .intro
theorem tw716429049611869786 : True := .intro
theorem tw7974275031393228247 : True := .intro
theorem tw12885385263037960081 : True := .intro
theorem tw6389877041954997217 : True := .intro
theorem tw750237026923860459 : True := .intro
theorem tw12732289081945773324 : True := .intro
theorem tw7904437144335635152 : True := .intro
theorem tw14313897822631088780 : True := .intro
theorem tw13132915859168520264 : True := .intro
theorem tw16451033083921036709 : True := .intro
theorem tw8748973510418095054 : True := .intro
theorem tw17644181745481072423 : True := .intro
theorem tw8484041278411425421 : True := .intro
theorem tw10864377008497418100 : True := .intro
theorem tw6981815665589151136 : True := .intro
theorem tw13547569757486424058 : True := .intro
theorem tw14492832472218066102 : True := .intro
theorem tw10455743928339290457 : True := .intro
theorem tw9406782406253462049 : True := .intro
theorem tw1615045767204293396 : True := .intro
theorem tw9417822746687237092 : True := .intro
theorem tw3532412968194664532 : True := .intro
theorem tw12564604832814323664 : True := .intro
theorem tw13406003279186336099 : True := .intro
theorem tw10665469846841522134 : True := .intro
theorem tw11092141859048813250 : True := .intro
theorem tw645136716886899192 : True := .intro
theorem tw3314904115985164895 : True := .intro
theorem tw2744014450722944760 : True := .intro
theorem tw4156125974679941130 : True := .intro
theorem tw12543713266681445118 : True := .intro
theorem tw7332330508316399935 : True := .intro
theorem tw10298723112805639129 : True := .intro
theorem tw12027323910402764344 : True := .intro
theorem tw11487549891475536569 : True := .intro
theorem tw9808303207383738048 : True := .intro
theorem tw18238007617527299592 : True := .intro
theorem tw11001617756164336837 : True := .intro
theorem tw11476092923266045095 : True := .intro
theorem tw5677329702179833609 : True := .intro
theorem tw6855474311058116810 : True := .intro
theorem tw6657087868060814 : True := .intro
theorem tw7647378279178456250 : True := .intro
theorem tw10877679251791092727 : True := .intro
theorem tw8834365191522931223 : True := .intro
theorem tw17767330081159143506 : True := .intro
theorem tw7332552209862256014 : True := .intro
theorem tw11374851513655246148 : True := .intro
theorem tw1886080085820668685 : True := .intro
theorem tw3994622017586750766 : True := .intro
theorem tw6183352029847204284 : True := .intro
theorem tw6596593509180878263 : True := .intro
theorem tw5797031442667253490 : True := .intro
theorem tw8260724100714396741 : True := .intro
theorem tw18134284020713443437 : True := .intro
theorem tw15410482203810522393 : True := .intro
theorem tw18031918436515192882 : True := .intro
theorem tw11086099901593105684 : True := .intro
theorem tw7691172733374981047 : True := .intro
theorem tw453184122279072053 : True := .intro
theorem tw6519269512792494810 : True := .intro
theorem tw14060465935940456498 : True := .intro
theorem tw15356762974548107741 : True := .intro
theorem tw17871620999419790863 : True := .intro
theorem tw15616401959046598769 : True := .intro
theorem tw14722489848711283861 : True := .intro
theorem tw10750994468655217958 : True := .intro
theorem tw16689149305811164139 : True := .intro
theorem tw15136431859952498927 : True := .intro
theorem tw14562738103837258888 : True := .intro
theorem tw11692516046256081784 : True := .intro
theorem tw18120430973489738927 : True := .intro
theorem tw1980160206288974728 : True := .intro
theorem tw11962923498438245051 : True := .intro
theorem tw17403364634526059139 : True := .intro
theorem tw5378808338967829844 : True := .intro
theorem tw6511744376749373798 : True := .intro
theorem tw12608185968620612914 : True := .intro
theorem tw48596604365144762 : True := .intro
theorem tw10463206416058312583 : True := .intro
theorem tw7093617532817203218 : True := .intro
theorem tw6674386428176565332 : True := .intro
theorem tw10663580350406149668 : True := .intro
theorem tw5517759331935216279 : True := .intro
theorem tw13157206579259725088 : True := .intro
theorem tw4766233809647381661 : True := .intro
theorem tw471287901995484742 : True := .intro
theorem tw12518504611687188807 : True := .intro
theorem tw9515011664573035354 : True := .intro
theorem tw17699438841360665129 : True := .intro
theorem tw8707812797481193996 : True := .intro
theorem tw1319676515408343850 : True := .intro
theorem tw6565609875121592624 : True := .intro
theorem tw18287795668848337631 : True := .intro
theorem tw3864431920445960829 : True := .intro
theorem tw6696893160125735727 : True := .intro
theorem tw2714283472998740243 : True := .intro
theorem tw15510692781650021527 : True := .intro
theorem tw18418235949754561950 : True := .intro
theorem tw9189880136782149556 : True := .intro
theorem tw1098248734344127483 : True := .intro
theorem tw11349898740250378076 : True := .intro
theorem tw8952462522180670554 : True := .intro
theorem tw11716418206903941319 : True := .intro
theorem tw8844999433837080629 : True := .intro
theorem tw10231336680788121439 : True := .intro
theorem tw15514936471743626214 : True := .intro
theorem tw17268439761433841065 : True := .intro
theorem tw13995172100960836882 : True := .intro
theorem tw12139096438432415106 : True := .intro
theorem tw9942282790977331292 : True := .intro
theorem tw18178676814319149831 : True := .intro
theorem tw13313126695403321540 : True := .intro
theorem tw11273777480241942364 : True := .intro
theorem tw6542085627976250192 : True := .intro
theorem tw9253799994812790149 : True := .intro
theorem tw14504180641510445567 : True := .intro
theorem tw18332899500509843999 : True := .intro
theorem tw12800608258095302798 : True := .intro
theorem tw13974046611088194958 : True := .intro
theorem tw17453503289922162039 : True := .intro
theorem tw365850788961202214 : True := .intro
theorem tw14798791472264738832 : True := .intro
theorem tw3298483428156984901 : True := .intro
theorem tw9903775340124721222 : True := .intro
theorem tw16676564476587882173 : True := .intro
theorem tw1372806426800153423 : True := .intro
theorem tw17128291446047057950 : True := .intro
theorem tw16251939892948500945 : True := .intro
theorem tw6788695710022549768 : True := .intro
theorem tw12675357926760492328 : True := .intro
theorem tw7623511443260959870 : True := .intro
theorem tw15608450976537380609 : True := .intro
theorem tw13972245371655741198 : True := .intro
theorem tw11409991511011244131 : True := .intro
theorem tw5309058905264134205 : True := .intro
theorem tw6788530277367551627 : True := .intro
theorem tw5842977544298395883 : True := .intro
theorem tw11239335112260394413 : True := .intro
theorem tw10669944970481658594 : True := .intro
theorem tw15558288988949320067 : True := .intro
theorem tw6237627108579964202 : True := .intro
theorem tw10149618387772673413 : True := .intro
theorem tw5396361742852586263 : True := .intro
theorem tw5638201095994319732 : True := .intro
theorem tw15350898050860989542 : True := .intro
theorem tw6690441779611380620 : True := .intro
theorem tw2456247091588846565 : True := .intro
theorem tw6584820252761975732 : True := .intro
theorem tw17864028415675338326 : True := .intro
theorem tw16193401482309157537 : True := .intro
theorem tw11399646045708457374 : True := .intro
theorem tw6880717277089553138 : True := .intro
theorem tw1519927702969063271 : True := .intro
theorem tw15589955886551607785 : True := .intro
theorem tw15580989882048331800 : True := .intro
theorem tw11774690029378154688 : True := .intro
theorem tw12463224122652932544 : True := .intro
theorem tw9925469786538053656 : True := .intro
theorem tw10652611922669240339 : True := .intro
theorem tw6702130215012162313 : True := .intro
theorem tw16320215318167395912 : True := .intro
theorem tw6164561884633627433 : True := .intro
theorem tw7273056430967151046 : True := .intro
theorem tw16305672181175384284 : True := .intro
theorem tw545269030811804461 : True := .intro
theorem tw4817600198373253283 : True := .intro
theorem tw7884331609784382070 : True := .intro
theorem tw13227692790652741651 : True := .intro
theorem tw12077450504624328385 : True := .intro
theorem tw9392487213469676918 : True := .intro
theorem tw18392154025008590481 : True := .intro
theorem tw10652863235454686790 : True := .intro
theorem tw18165044119631177899 : True := .intro
theorem tw11735423636902730196 : True := .intro
theorem tw11712081513822626495 : True := .intro
theorem tw5363903885879670357 : True := .intro
theorem tw1027651156746619712 : True := .intro
theorem tw1150287232629052791 : True := .intro
theorem tw1253437644075932092 : True := .intro
theorem tw13110577991587790113 : True := .intro
theorem tw10169072693733980587 : True := .intro
theorem tw16959884160788844718 : True := .intro
theorem tw3160845607165458772 : True := .intro
theorem tw15225127925928830808 : True := .intro
theorem tw10123989817122485451 : True := .intro
theorem tw16806246253224384389 : True := .intro
theorem tw13260870731297125680 : True := .intro
theorem tw13219505800766818778 : True := .intro
theorem tw1289389943133740499 : True := .intro
theorem tw6907636171062424033 : True := .intro
theorem tw962193829226610041 : True := .intro
theorem tw1645717771770832407 : True := .intro
theorem tw8046773169563483271 : True := .intro
theorem tw11218778669853930896 : True := .intro
theorem tw8127475511531132179 : True := .intro
theorem tw4139100593308808776 : True := .intro
theorem tw13980345723018547825 : True := .intro
theorem tw3370190323706015969 : True := .intro
theorem tw1777545030009416734 : True := .intro
theorem tw3958507339218470045 : True := .intro
theorem tw11410963132546700228 : True := .intro
theorem tw5181119749688162637 : True := .intro
theorem tw10092017014551392330 : True := .intro
theorem tw2341703837736514645 : True := .intro
theorem tw14168887731352723522 : True := .intro
theorem tw12222963475772708484 : True := .intro
theorem tw9470667924834194258 : True := .intro
theorem tw1261021989165538067 : True := .intro
theorem tw8478376212529829071 : True := .intro
theorem tw892681787802806017 : True := .intro
theorem tw6663778134991626487 : True := .intro
theorem tw17438294365789470252 : True := .intro
theorem tw8809968196449919288 : True := .intro
theorem tw12909650291622432550 : True := .intro
theorem tw12748397558918655664 : True := .intro
theorem tw14364048958407549093 : True := .intro
theorem tw9368617206455126095 : True := .intro
theorem tw11646826074482590764 : True := .intro
theorem tw4946776927847147119 : True := .intro
theorem tw5921134243170700561 : True := .intro
theorem tw799486724532869496 : True := .intro
theorem tw10953687544409504101 : True := .intro
theorem tw12751799325998411230 : True := .intro
theorem tw10876229203375891673 : True := .intro
theorem tw4948327476702027199 : True := .intro
theorem tw12653679108036650311 : True := .intro
theorem tw16026485685270457870 : True := .intro
theorem tw5287059835090251167 : True := .intro
theorem tw9498315638749924794 : True := .intro
theorem tw11388154006635350966 : True := .intro
theorem tw2402762420636078793 : True := .intro
theorem tw16218864148678617972 : True := .intro
theorem tw10453263994017694363 : True := .intro
theorem tw14216407083858561409 : True := .intro
theorem tw13465503431842376007 : True := .intro
theorem tw12450111651097656602 : True := .intro
theorem tw14864641218109852296 : True := .intro
theorem tw13154001654789283132 : True := .intro
theorem tw7742616358663508648 : True := .intro
theorem tw16656740534632174751 : True := .intro
theorem tw358491910552652209 : True := .intro
theorem tw5623159541915647742 : True := .intro
theorem tw15387884906608193903 : True := .intro
theorem tw17147588175821073265 : True := .intro
theorem tw1242282695825638017 : True := .intro
theorem tw14666387041718499266 : True := .intro
theorem tw4638281056170512193 : True := .intro
theorem tw49674306023711395 : True := .intro
theorem tw6674893403203295414 : True := .intro
theorem tw18425317256667529438 : True := .intro
theorem tw5396188567872606041 : True := .intro
theorem tw16544489699163171333 : True := .intro
theorem tw9964214247947446159 : True := .intro
theorem tw2173562974560187446 : True := .intro
theorem tw13797323745857372409 : True := .intro
theorem tw8546124895413445307 : True := .intro
theorem tw13989496423458381343 : True := .intro
theorem tw7943094425149488825 : True := .intro
theorem tw330327031418712150 : True := .intro
theorem tw18385570937342765463 : True := .intro
theorem tw6632538468102435922 : True := .intro
theorem tw4310270188432123100 : True := .intro
theorem tw11531331273489700057 : True := .intro
theorem tw16022572192331126682 : True := .intro
theorem tw13110970153573199417 : True := .intro
theorem tw11967333016625521393 : True := .intro
theorem tw4917070330192852093 : True := .intro
theorem tw13077236301305049449 : True := .intro
theorem tw3748114642381145586 : True := .intro
theorem tw4605139254293405059 : True := .intro
theorem tw14859100970857779836 : True := .intro
theorem tw4330594992337426955 : True := .intro
theorem tw6639522245352263942 : True := .intro
theorem tw13597483153833180358 : True := .intro
theorem tw161903638078081290 : True := .intro
theorem tw1142173933681417890 : True := .intro
theorem tw4088224383575840552 : True := .intro
theorem tw1092785777240315536 : True := .intro
theorem tw4413345314126155841 : True := .intro
theorem tw918671981122897330 : True := .intro
theorem tw2852251193174398662 : True := .intro
theorem tw3911810758690780188 : True := .intro
theorem tw3867218068155391060 : True := .intro
theorem tw10813080517026676716 : True := .intro
theorem tw8265370782698574782 : True := .intro
theorem tw15062679425460387418 : True := .intro
theorem tw10044588960856096794 : True := .intro
theorem tw18344032359734412310 : True := .intro
theorem tw6214117541549086881 : True := .intro
theorem tw13148611719377898607 : True := .intro
theorem tw17275675667316583603 : True := .intro
theorem tw17561526911342447988 : True := .intro
theorem tw4491334807805099456 : True := .intro
theorem tw796168687070700412 : True := .intro
theorem tw14235155234550121937 : True := .intro
theorem tw17290568124846718506 : True := .intro
theorem tw1198661942849946583 : True := .intro
theorem tw833945537157984683 : True := .intro
theorem tw17016820405989369747 : True := .intro
theorem tw5831584030425509755 : True := .intro
theorem tw3464709057266567092 : True := .intro
theorem tw15438212644395081984 : True := .intro
theorem tw5837888446457221635 : True := .intro
theorem tw12692632004510240207 : True := .intro
theorem tw7019240024125815769 : True := .intro
theorem tw16508919721030705984 : True := .intro
theorem tw9175052073728820173 : True := .intro
theorem tw8496349624203035976 : True := .intro
theorem tw2704602940660078815 : True := .intro
theorem tw14640416626631428029 : True := .intro
theorem tw588950844065142505 : True := .intro
theorem tw6455149578367423246 : True := .intro
theorem tw854977524454699277 : True := .intro
theorem tw10564528347858357063 : True := .intro
theorem tw10210597933619972095 : True := .intro
theorem tw10992214633131536827 : True := .intro
theorem tw11041547156204584376 : True := .intro
theorem tw17431719831054627609 : True := .intro
theorem tw8090509862211737132 : True := .intro
theorem tw13667920496262714385 : True := .intro
theorem tw16923884221124529275 : True := .intro
theorem tw14672674291997333471 : True := .intro
theorem tw16049902774474827687 : True := .intro
theorem tw2019394398466159022 : True := .intro
theorem tw6541472054586571296 : True := .intro
theorem tw4544244032028310869 : True := .intro
theorem tw16356685582667847594 : True := .intro
theorem tw17695171507069755227 : True := .intro
theorem tw13402765919934010277 : True := .intro
theorem tw2238316416991798583 : True := .intro
theorem tw17118054049896295152 : True := .intro
theorem tw15806524323241146399 : True := .intro
theorem tw104360540948158410 : True := .intro
theorem tw3259492374427675482 : True := .intro
theorem tw13639669503049741792 : True := .intro
theorem tw4556170058708999060 : True := .intro
theorem tw2109518077467251387 : True := .intro
theorem tw6915769261274880522 : True := .intro
theorem tw4152749987461121259 : True := .intro
theorem tw3899540372106597375 : True := .intro
theorem tw13892077903350267210 : True := .intro
theorem tw14976433323712487536 : True := .intro
theorem tw1900339198761634783 : True := .intro
theorem tw1161520513448753826 : True := .intro
theorem tw4075928730494220171 : True := .intro
theorem tw17457438065683690204 : True := .intro
theorem tw13840998063618737420 : True := .intro
theorem tw8026271285508062336 : True := .intro
theorem tw14485764384710986 : True := .intro
theorem tw14327828592025367406 : True := .intro
theorem tw10717781254789130011 : True := .intro
theorem tw2156534451787437564 : True := .intro
theorem tw16512967305710189361 : True := .intro
theorem tw15487141016467250388 : True := .intro
theorem tw9227236948143457391 : True := .intro
theorem tw12470004780890421668 : True := .intro
theorem tw10390462408354793177 : True := .intro
theorem tw5052921045903052337 : True := .intro
theorem tw9369660151273674066 : True := .intro
theorem tw6605519222145581350 : True := .intro
theorem tw3570300971023340979 : True := .intro
theorem tw3074828394017264462 : True := .intro
theorem tw10625986939718819309 : True := .intro
theorem tw800281523700244446 : True := .intro
theorem tw11206504829155453846 : True := .intro
theorem tw9105743323606979411 : True := .intro
theorem tw3822722638913859503 : True := .intro
theorem tw18195925520682101353 : True := .intro
theorem tw10585402374533053906 : True := .intro
theorem tw3027654517558608762 : True := .intro
theorem tw9658885295015712986 : True := .intro
theorem tw11539556534233449701 : True := .intro
theorem tw5376616896121920794 : True := .intro
theorem tw7914526381669153432 : True := .intro
end main
set_option Elab.async true in
theorem main : PySem.Challenge.rw_qz0116_01.Holds := by
  w_on; o_law; o_head (kHook pre.heap_1 [2, 3, 15, 16, 18, 19, 21, 22, 23, 30, 32, 33, 35, 36, 37, 38, 39, 40, 43, 50, 52, 53, 55, 56, 57, 58, 59, 62, 69, 71, 72, 74, 75, 76, 77, 78, 81, 89, 91, 92, 94, 95, 96, 97, 98, 99, 100, 110, 112, 113, 115, 116, 117, 119, 120, 122, 123, 124, 126, 127, 129, 130, 131, 132, 133, 134, 135, 138, 140, 141, 143, 144, 145, 147, 148, 150, 151, 152, 154, 155, 157, 158, 159, 161, 162, 164, 165, 166, 168, 169, 171, 172, 173, 175, 176, 178, 179, 180, 182, 183, 185, 186, 187, 188, 189, 190, 191, 192, 193, 194, 195, 196, 197, 198, 199, 200, 201, 202, 203, 204, 205, 206, 207, 208, 209, 210, 211, 212, 213, 214, 215, 216, 217, 218, 219, 220, 221, 222, 223, 224, 225, 226, 227, 228, 229, 230, 232, 233, 235, 236, 237, 240, 241, 242, 250, 252, 253, 255, 256, 257, 259, 260, 262, 263, 264, 266, 267, 269, 270, 271, 272, 273, 274, 275, 278, 280, 281, 283, 284, 285, 287, 288, 290, 291, 292, 294, 295, 297, 298, 299, 301, 302, 304, 305, 306, 309, 310, 311, 314, 315, 316, 319, 320, 321, 323, 324, 326, 327, 328, 330, 331, 333, 334, 335, 337, 338, 340, 341, 342, 344, 345, 347, 348, 349, 351, 352, 354, 355, 356, 358, 359, 361, 362, 363, 365, 366, 368, 369, 370, 372, 373, 375, 376, 377, 379, 380, 382, 383, 384, 385, 386, 387, 388, 390, 391, 393, 394, 395, 397, 398, 400, 401, 402, 404, 405, 407, 408, 409, 411, 412, 414, 415, 416, 419, 420, 421, 423, 424, 426, 427, 428, 430, 431, 433, 434, 435, 437, 438, 440, 441, 442, 444, 445, 447, 448, 449, 451, 452, 454, 455, 456, 458, 459, 461, 462, 463, 466, 467, 468, 469, 470, 471, 472, 473, 474, 475, 476, 477, 479, 480, 482, 483, 484, 487, 488, 489, 491, 492, 494, 495, 496, 498, 499, 501, 502, 503, 505, 506, 508, 509, 510, 512, 513, 515, 516, 517, 519, 520, 522, 523, 524, 526, 527, 529, 530, 531, 533, 534, 536, 537, 538, 540, 541, 543, 544, 545, 547, 548, 550, 551, 552, 554, 555, 557, 558, 559, 561, 562, 564, 565, 566, 569, 570, 571, 573, 574, 576, 577, 585, 587, 588, 590, 591, 592, 593, 594, 595, 596, 606, 608, 609, 611, 612, 613, 614, 615, 616, 617, 620, 621, 628, 630, 631, 633, 634, 635, 636, 637, 640, 642, 643, 645, 646, 647, 648, 651, 652, 653, 655, 656, 658, 659, 660, 662, 663, 665, 666, 674, 675, 677, 678, 680, 681, 682, 683, 684, 685, 686, 689, 690, 692, 693, 695, 696, 697, 699, 700, 702, 703, 704, 707, 708, 709, 711, 712, 714, 715] (fun _ => by kernel_rfl))
  case hw => w_witness2
  k_go0
  rename World => w
  rename Below _ _ _ _ => KB
  rename Fr _ _ _ _ => KFr
  rename News _ _ _ [] => KN
  rename Frag.In _ _ => KX
  rename Top _ _ _ _ _ _ => KT
  rename Heap.IsList _ _ _ => KL
  rename IntsAre _ _ => KI
  refine' law_body ?fn1 KB KFr KX KN KT KL KI ?fn2 ?fn3 ?fn4
  case fn1 => k_is
  case fn2 => omega
  case fn3 => passes_own
  case fn4 => intro h' tk' m' F'; exact good_end F' (by assumption)
end Mine
end
theorem PySem.Challenge.cw_qz0116_01_holds : PySem.Challenge.rw_qz0116_01.Holds :=
  Mine.main
