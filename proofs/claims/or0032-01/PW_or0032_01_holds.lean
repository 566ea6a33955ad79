import PyProof.Rows.All
import Wide.All
import OpenK.AllK
import Wide.FinOn
import PySem.Challenge.RW_or0032_01
open PySem PySem.W PyProof.Rows
set_option Elab.async false
namespace Mine
set_option maxRecDepth 100000 in
set_option maxHeartbeats 8000000 in
open_top hd for PySem.Challenge.rw_or0032_01

/-- a list's address lies off the rest -/
def OffAll (lf : Addr) (own : List (Addr × Obj)) (c dc : Addr) : Prop := ∀ x, OwnOff ((lf, x) :: own) [c, dc]
theorem OffAll.off {lf c dc : Addr} {own : List (Addr × Obj)} {x : Obj} (h : OffAll lf own c dc) : OwnOff ((lf, x) :: own) [c, dc] := h x
local macro_rules | `(tactic| walk_at "mine enter") => `(tactic| (refine' code_def ?k1 ?k2 ?k3 ?k4 ?k5 ?kA ?kF ?kK ?k6 ?k7 ?k8 ?k9 ?kB ?_ ?c2 ?c3 ?c4 ?c5; (case kA => exact rfl); (case kF => exact rfl); (case kK => assumption); (case k1 => k_asm); (case k2 => k_asm); (case k3 => k_asm); (case k4 => k_asm); (case k5 => k_asm); (case k6 => k_is); (case k7 => k_is); (case k8 => ktr_room); (case k9 => first | exact BindsTo.of_eq rfl | exact binds_K (by k_in) rfl (by k_is) rfl rfl rfl | fail "mine enter: no rule for these arguments"); (case c5 => decide); (case kB => exact locs rfl); (case c2 => exact rfl); (case c3 => exact rfl); (case c4 => exact rfl); k_whole; intro g' L' h' FG' F' N' B' X' T'; (try dsimp only); (try k_lift B'); (try k_fold)))
abbrev curO (h1 h2 h3 : Int) (k1 k2 k3 : Tok) (d : Array UInt8) (td : Tok) (i : Int) (ti : Tok) (e : Int) (te : Tok) : Obj :=
  dictOf [⟨h1, .str (Str.ofString "data") k1, .bytes d td⟩, ⟨h2, .str (Str.ofString "at") k2, .int i ti⟩, ⟨h3, .str (Str.ofString "end") k3, .int e te⟩] 3
/-- the octet at a place that is 0 or more, -1 beyond the end -/
def pk (ks : List Int) (i : Int) : Int := if i < (ks.length : Int) then ks.getD i.toNat 0 else -1
def fig (c : Int) : Bool := decide (48 ≤ c) && decide (c ≤ 57)

section
variable {w : World} {mean : ExcName → Option Value} {mg mb : Str → Option Value} {dp un : Nat} {gd : Option (List Code)} {cn : Str} {cs : Scope} {a : Addr} {ccd : Value} {cl : List (Str × Addr)} {outer : List Env} {A₀ : Around} {base h₀ : Heap} {L : Addr} {m : Str → Option Value} {s : Shared} {Q E : Value → Shared → Prop}
variable {c dc : Addr} {own : List (Addr × Obj)} {h1 h2 h3 : Int} {k1 k2 k3 : Tok} {d : Array UInt8} {td : Tok} {i : Int} {ti te : Tok} {ks : List Int}

set_option maxRecDepth 100000 in
set_option maxHeartbeats 8000000 in
theorem peek_c {k : Int} {tk : Tok}
    (B : Below A₀ base outer h₀) (F : Fr h₀ L s.heap m) (X : (hd.heap_39 w.params).In h₀)
    (N : News h₀ L s.heap ((c, instObj 164 dc) :: (dc, curO h1 h2 h3 k1 k2 k3 d td i ti (ks.length : Int) te) :: own))
    (T : Top hd.view_39 (looseW hd.view_39 [Str.ofString "PostError"]) mean mg mb h₀) (hk : cs.kind = .function)
    (hdp : dp + 1 < recursionLimit) (hu : un + 8 < cLine)
    (hI : KBw.bInts d = ks) (hlen : ks.length ≤ 1000) (h0 : 0 ≤ i + k) (h1000 : i + k ≤ 2000)
    (ret : ∀ (t : Tok) (h' : Heap) (tk' : Nat), Fr h₀ L h' m → News h₀ L h' ((c, instObj 164 dc) :: (dc, curO h1 h2 h3 k1 k2 k3 d td i ti (ks.length : Int) te) :: own) → Q (.int (pk ks (i + k)) t) { s with heap := h', toks := tk' }) :
    wpAny (model PySem.Challenge.rw_or0032_01.row.prog w) (ktrTop dp un gd cn cs L a ccd cl outer) (call (.ref 112) [.ref c, .int k tk]) Q E s := by
  w_top off
  k_with_none
  revert X; k_fill; intro X
  refine wpAny_call ?_
  k_dflt (walk_at "mine enter")
  k_steps
  · have e : ks.getD (i + k).toNat 0 = pk ks (i + k) := by unfold pk; rw [if_pos (by assumption)]
    rw [e]
    exact ret _ _ _ (by k_asm) (by k_asm)
  · have e : (-1 : Int) = pk ks (i + k) := by unfold pk; rw [if_neg (by assumption)]
    rw [e]
    exact ret _ _ _ (by k_asm) (by k_asm)

set_option maxRecDepth 100000 in
set_option maxHeartbeats 8000000 in
theorem peek0_c
    (B : Below A₀ base outer h₀) (F : Fr h₀ L s.heap m) (X : (hd.heap_39 w.params).In h₀)
    (N : News h₀ L s.heap ((c, instObj 164 dc) :: (dc, curO h1 h2 h3 k1 k2 k3 d td i ti (ks.length : Int) te) :: own))
    (T : Top hd.view_39 (looseW hd.view_39 [Str.ofString "PostError"]) mean mg mb h₀) (hk : cs.kind = .function)
    (hdp : dp + 1 < recursionLimit) (hu : un + 8 < cLine)
    (hI : KBw.bInts d = ks) (hlen : ks.length ≤ 1000) (h0 : 0 ≤ i) (h1000 : i ≤ 2000)
    (ret : ∀ (t : Tok) (h' : Heap) (tk' : Nat), Fr h₀ L h' m → News h₀ L h' ((c, instObj 164 dc) :: (dc, curO h1 h2 h3 k1 k2 k3 d td i ti (ks.length : Int) te) :: own) → Q (.int (pk ks i) t) { s with heap := h', toks := tk' }) :
    wpAny (model PySem.Challenge.rw_or0032_01.row.prog w) (ktrTop dp un gd cn cs L a ccd cl outer) (call (.ref 112) [.ref c]) Q E s := by
  w_top off
  k_with_none
  revert X; k_fill; intro X
  refine wpAny_call ?_
  k_dflt (walk_at "mine enter")
  k_steps
  · have e : ks.getD (i + 0).toNat 0 = pk ks i := by unfold pk; rw [if_pos (by omega)]; simp
    rw [e]
    exact ret _ _ _ (by k_asm) (by k_asm)
  · have e : (-1 : Int) = pk ks i := by unfold pk; rw [if_neg (by omega)]
    rw [e]
    exact ret _ _ _ (by k_asm) (by k_asm)

set_option maxRecDepth 100000 in
set_option maxHeartbeats 8000000 in
theorem figure_c {x : Int} {tk : Tok} {news : List (Addr × Obj)}
    (B : Below A₀ base outer h₀) (F : Fr h₀ L s.heap m) (X : (hd.heap_39 w.params).In h₀)
    (N : News h₀ L s.heap news)
    (T : Top hd.view_39 (looseW hd.view_39 [Str.ofString "PostError"]) mean mg mb h₀) (hk : cs.kind = .function)
    (hdp : dp + 1 < recursionLimit) (hu : un + 8 < cLine)
    (ret : ∀ (h' : Heap) (tk' : Nat), Fr h₀ L h' m → News h₀ L h' news → Q (.bool (fig x)) { s with heap := h', toks := tk' }) :
    wpAny (model PySem.Challenge.rw_or0032_01.row.prog w) (ktrTop dp un gd cn cs L a ccd cl outer) (call (.ref 75) [.int x tk]) Q E s := by
  w_top off
  k_with_none
  revert X; k_fill; intro X
  refine wpAny_call ?_
  k_dflt (walk_at "mine enter")
  k_steps
  · have e : decide (x ≤ 57) = fig x := by unfold fig; rw [decide_eq_true (by assumption : 48 ≤ x), Bool.true_and]
    rw [e]
    exact ret _ _ (by k_asm) (by k_asm)
  · have e : decide (48 ≤ x) = fig x := by unfold fig; rw [decide_eq_false (by assumption : ¬ 48 ≤ x), Bool.false_and]
    rw [e]
    exact ret _ _ (by k_asm) (by k_asm)

theorem pk_lo {d : Array UInt8} {ks : List Int} {i : Int} (hI : KBw.bInts d = ks) (h0 : 0 ≤ i) (h : i < (ks.length : Int)) : 0 ≤ pk ks i ∧ pk ks i < 256 := by
  rw [pk, if_pos h]
  have hj : i.toNat < ks.length := by omega
  have e : ks.getD i.toNat 0 = ks[i.toNat] := by simp [List.getD_eq_getElem?_getD, hj]
  rw [e]
  have hm : ks[i.toNat] ∈ KBw.bInts d := by rw [hI]; exact List.getElem_mem hj
  exact KBw.ints_in hm
theorem bytes_beq (b : List UInt8) (x : UInt8) : (b == [x]) = decide (b.map (fun c => (c.toNat : Int)) = [(x.toNat : Int)]) := by
  rw [Bool.eq_iff_iff, beq_iff_eq, decide_eq_true_eq]
  constructor
  · intro h; rw [h]; rfl
  · intro h
    cases b with
    | nil => cases h
    | cons y r =>
      cases r with
      | cons z q => simp at h
      | nil =>
        simp at h
        have : y = x := UInt8.toNat_inj.mp (by omega)
        rw [this]
theorem starts_end {d : Array UInt8} {ks : List Int} {i j : Int} (h0 : 0 ≤ i) (hj : j = i + 1) (hle : j ≤ (ks.length : Int))
    (hK : KBw.bInts (KBy.picked d (some i) (some j)) = List.take (clipAt ks.length j - clipAt ks.length i) (List.drop (clipAt ks.length i) ks)) :
    ((KBy.picked d (some i) (some j)).toList == [46]) = decide (pk ks i = 46) := by
  subst hj
  rw [bytes_beq]
  have e : (KBy.picked d (some i) (some (i + 1))).toList.map (fun c => (c.toNat : Int)) = [pk ks i] := by
    refine Eq.trans hK ?_
    have c1 : clipAt ks.length i = i.toNat := by unfold clipAt; split <;> omega
    have c2 : clipAt ks.length (i + 1) = i.toNat + 1 := by unfold clipAt; split <;> omega
    have hj : i.toNat < ks.length := by omega
    have c3 : i.toNat + 1 - i.toNat = 1 := by omega
    have e2 : ks.getD i.toNat 0 = ks[i.toNat] := by simp [List.getD_eq_getElem?_getD, hj]
    rw [c1, c2, c3, List.drop_eq_getElem_cons hj, pk, if_pos (by omega), e2]
    rfl
  rw [e]
  simp
end
local macro_rules | `(tactic| walk_at "mine sides") => `(tactic| (
  (case kB => k_asm); (case kF => k_asm); (case kX => k_asm); (case kN => k_asm); (case kT => k_asm); (case kk => first | exact rfl | assumption); (case kd => ktr_room); (case ku => ktr_units)))
local macro_rules | `(tactic| walk_at "call ref") => `(tactic| (k_here; (with_reducible show wpAny _ _ (call (Value.ref 112) _) _ _ _); k_dflt (
  refine' peek_c ?kB ?kF ?kX ?kN ?kT ?kk ?kd ?ku ?kI ?kl ?k0 ?k1 ?_; (walk_at "mine sides"); (case kI => assumption); (case kl => omega); (case k0 => omega); (case k1 => omega); intro t' h' tk' F' N'; (try dsimp only); (try k_fold))))
local macro_rules | `(tactic| walk_at "call ref") => `(tactic| (k_here; (with_reducible show wpAny _ _ (call (Value.ref 112) _) _ _ _); k_dflt (
  refine' peek0_c ?kB ?kF ?kX ?kN ?kT ?kk ?kd ?ku ?kI ?kl ?k0 ?k1 ?_; (walk_at "mine sides"); (case kI => assumption); (case kl => omega); (case k0 => omega); (case k1 => omega); intro t' h' tk' F' N'; (try dsimp only); (try k_fold))))
local macro_rules | `(tactic| walk_at "call ref") => `(tactic| (k_here; (with_reducible show wpAny _ _ (call (Value.ref 75) _) _ _ _); k_dflt (
  refine' figure_c ?kB ?kF ?kX ?kN ?kT ?kk ?kd ?ku ?_; (walk_at "mine sides"); intro h' tk' F' N'; (try dsimp only); (try k_fold))))
section
variable {w : World} {mean : ExcName → Option Value} {mg mb : Str → Option Value} {dp un : Nat} {gd : Option (List Code)} {cn : Str} {cs : Scope} {a : Addr} {ccd : Value} {cl : List (Str × Addr)} {outer : List Env} {A₀ : Around} {base h₀ : Heap} {L : Addr} {m : Str → Option Value} {s : Shared} {Q E : Value → Shared → Prop}
variable {c dc : Addr} {own : List (Addr × Obj)} {h1 h2 h3 : Int} {k1 k2 k3 : Tok} {d : Array UInt8} {td : Tok} {i : Int} {ti te : Tok} {ks : List Int}
theorem pk_of (ks : List Int) (i : Int) (h : i < (ks.length : Int)) : pk ks i = ks.getD i.toNat 0 := by unfold pk; rw [if_pos h]

set_option maxRecDepth 100000 in
set_option maxHeartbeats 8000000 in
theorem take_c
    (B : Below A₀ base outer h₀) (F : Fr h₀ L s.heap m) (X : (hd.heap_39 w.params).In h₀)
    (N : News h₀ L s.heap ((c, instObj 164 dc) :: (dc, curO h1 h2 h3 k1 k2 k3 d td i ti (ks.length : Int) te) :: own))
    (O : OwnOff own [c, dc]) (hcd : @LT.lt Nat _ dc c)
    (T : Top hd.view_39 (looseW hd.view_39 [Str.ofString "PostError"]) mean mg mb h₀) (hk : cs.kind = .function)
    (hdp : dp + 2 < recursionLimit) (hu : un + 16 < cLine)
    (hI : KBw.bInts d = ks) (hlen : ks.length ≤ 1000) (h0 : 0 ≤ i) (h1000 : i ≤ 2000) (hpk : 0 ≤ pk ks i)
    (ret : ∀ (t ti' : Tok) (h' : Heap) (tk' : Nat), Fr h₀ L h' m → News h₀ L h' ((c, instObj 164 dc) :: (dc, curO h1 h2 h3 k1 k2 k3 d td (i + 1) ti' (ks.length : Int) te) :: own) → Q (.int (pk ks i) t) { s with heap := h', toks := tk' }) :
    wpAny (model PySem.Challenge.rw_or0032_01.row.prog w) (ktrTop dp un gd cn cs L a ccd cl outer) (call (.ref 119) [.ref c]) Q E s := by
  w_top off
  k_with_none
  revert X; k_fill; intro X
  refine wpAny_call ?_
  k_dflt (walk_at "mine enter")
  k_steps
  exact ret _ _ _ _ (by k_asm) (by k_asm)

set_option maxRecDepth 100000 in
set_option maxHeartbeats 8000000 in
theorem starts_c {tk : Tok}
    (B : Below A₀ base outer h₀) (F : Fr h₀ L s.heap m) (X : (hd.heap_39 w.params).In h₀)
    (N : News h₀ L s.heap ((c, instObj 164 dc) :: (dc, curO h1 h2 h3 k1 k2 k3 d td i ti (ks.length : Int) te) :: own))
    (O : OwnOff own [c, dc]) (hcd : @LT.lt Nat _ dc c)
    (T : Top hd.view_39 (looseW hd.view_39 [Str.ofString "PostError"]) mean mg mb h₀) (hk : cs.kind = .function)
    (hdp : dp + 2 < recursionLimit) (hu : un + 16 < cLine)
    (hI : KBw.bInts d = ks) (hlen : ks.length ≤ 1000) (h0 : 0 ≤ i) (h1000 : i ≤ 1000)
    (ret : ∀ (h' : Heap) (tk' : Nat), Fr h₀ L h' m → News h₀ L h' ((c, instObj 164 dc) :: (dc, curO h1 h2 h3 k1 k2 k3 d td i ti (ks.length : Int) te) :: own) → Q (.bool (decide (pk ks i = 46))) { s with heap := h', toks := tk' }) :
    wpAny (model PySem.Challenge.rw_or0032_01.row.prog w) (ktrTop dp un gd cn cs L a ccd cl outer) (call (.ref 126) [.ref c, .bytes #[46] tk]) Q E s := by
  w_top off
  k_with_none
  revert X; k_fill; intro X
  refine wpAny_call ?_
  k_dflt (walk_at "mine enter")
  k_steps
  · rw [starts_end h0 (by first | rfl | simp) (by assumption) (by assumption)]
    exact ret _ _ (by k_asm) (by k_asm)
  · have e : decide (i + ((#[46] : Array UInt8).size : Int) ≤ (ks.length : Int)) = decide (pk ks i = 46) := by
      have h : ¬ (i + ((#[46] : Array UInt8).size : Int) ≤ (ks.length : Int)) := by assumption
      have h2 : ¬ i < (ks.length : Int) := by
        have e1 : ((#[46] : Array UInt8).size : Int) = 1 := rfl
        rw [e1] at h
        omega
      rw [decide_eq_false h, pk, if_neg h2]
      rfl
    rw [e]
    exact ret _ _ (by k_asm) (by k_asm)
end
local macro_rules | `(tactic| walk_at "call ref") => `(tactic| (k_here; (with_reducible show wpAny _ _ (call (Value.ref 119) _) _ _ _); k_dflt (
  refine' take_c ?kB ?kF ?kX ?kN ?kO ?kc ?kT ?kk ?kd ?ku ?kI ?kl ?k0 ?k1 ?k2 ?_; (walk_at "mine sides"); (case kO => first | assumption | exact OffAll.off (by assumption)); (case kc => assumption); (case kI => assumption); (case kl => omega); (case k0 => omega); (case k1 => omega); (case k2 => omega); intro t' ti' h' tk' F' N'; (try dsimp only); (try k_fold))))
local macro_rules | `(tactic| walk_at "call ref") => `(tactic| (k_here; (with_reducible show wpAny _ _ (call (Value.ref 126) _) _ _ _); k_dflt (
  refine' starts_c ?kB ?kF ?kX ?kN ?kO ?kc ?kT ?kk ?kd ?ku ?kI ?kl ?k0 ?k1 ?_; (walk_at "mine sides"); (case kO => first | assumption | exact OffAll.off (by assumption)); (case kc => assumption); (case kI => assumption); (case kl => omega); (case k0 => omega); (case k1 => omega); intro h' tk' F' N'; (try dsimp only); (try k_fold))))

/-- the number of a run of figures -/
def valOf (fs : List Int) : Int := fs.foldl (fun n c => n * 10 + c - 48) 0
theorem valOf_snoc (fs : List Int) (c : Int) : valOf (fs ++ [c]) = valOf fs * 10 + c - 48 := by
  unfold valOf; rw [List.foldl_append]; rfl
theorem take_snoc (fs : List Int) (j : Nat) (h : j < fs.length) : fs.take (j + 1) = fs.take j ++ [fs.getD j 0] := by
  rw [List.take_add_one]
  simp [List.getD_eq_getElem?_getD, h]
theorem fold_bound : ∀ (fs : List Int) (n : Int), 0 ≤ n → (∀ c ∈ fs, 48 ≤ c ∧ c ≤ 57) → 0 ≤ fs.foldl (fun n c => n * 10 + c - 48) n ∧ fs.foldl (fun n c => n * 10 + c - 48) n + 1 ≤ (n + 1) * (10 : Int) ^ fs.length
  | [], n, h0, _ => ⟨h0, by show n + 1 ≤ (n + 1) * 1; omega⟩
  | c :: r, n, h0, h => by
    have hc := h c (.head _)
    obtain ⟨i1, i2⟩ := fold_bound r (n * 10 + c - 48) (by omega) fun x hx => h x (.tail _ hx)
    refine ⟨i1, Int.le_trans i2 ?_⟩
    rw [List.length_cons, Int.pow_succ, Int.mul_comm ((10 : Int) ^ r.length) 10, ← Int.mul_assoc]
    exact Int.mul_le_mul_of_nonneg_right (by omega) (Int.le_of_lt (Int.pow_pos (by decide)))
theorem valOf_bound (fs : List Int) (h : ∀ c ∈ fs, 48 ≤ c ∧ c ≤ 57) : 0 ≤ valOf fs ∧ valOf fs < (10 : Int) ^ fs.length := by
  have := fold_bound fs 0 (Int.le_refl _) h
  rw [Int.zero_add, Int.one_mul] at this
  exact ⟨this.1, by have := this.2; unfold valOf; omega⟩
/-- what stands at a place: a run of figures, and no figure behind it -/
structure RunAt (ks : List Int) (i : Int) (fs : List Int) : Prop where
  at_ : ∀ j : Nat, j < fs.length → pk ks (i + j) = fs.getD j 0 ∧ 48 ≤ fs.getD j 0 ∧ fs.getD j 0 ≤ 57
  stop : ¬ (48 ≤ pk ks (i + fs.length) ∧ pk ks (i + fs.length) ≤ 57)
  some : 1 ≤ fs.length
  few : fs.length ≤ 10
theorem RunAt.take_bound {ks : List Int} {i : Int} {fs : List Int} (R : RunAt ks i fs) : ∀ j : Nat, j ≤ fs.length → 0 ≤ valOf (fs.take j) ∧ valOf (fs.take j) < 10000000000 := by
  intro j hj
  have h := valOf_bound (fs.take j) fun c hc => by
    obtain ⟨n, hn, rfl⟩ := List.getElem_of_mem hc
    have hn' : n < fs.length := by rw [List.length_take] at hn; omega
    have h2 := (R.at_ n hn').2
    rw [List.getElem_take]
    have e : fs.getD n 0 = fs[n] := by simp [List.getD_eq_getElem?_getD, hn']
    rw [e] at h2
    exact h2
  have hl : (fs.take j).length ≤ 10 := by rw [List.length_take]; have := R.few; omega
  have : (10 : Int) ^ (fs.take j).length ≤ 10 ^ 10 := by
    have h3 : (10 : Nat) ^ (fs.take j).length ≤ 10 ^ 10 := Nat.pow_le_pow_right (by decide) hl
    exact_mod_cast h3
  have e : (10 : Int) ^ 10 = 10000000000 := by decide
  omega
abbrev numM (c : Addr) (i : Int) (ti tn : Tok) (num : Int) : Str → Option Value := fun y => if y = Str.ofString "number" then some (.int num tn) else if y = Str.ofString "first" then some (.int i ti) else if y = Str.ofString "self" then some (.ref c) else none
theorem num_m {c : Addr} {i num : Int} {ti tn : Tok} {m : Str → Option Value} (h : m = fun y => if y = Str.ofString "number" then some (.int num tn) else if y = Str.ofString "first" then some (.int i ti) else ([(Str.ofString "self", Value.ref c)] : List (Str × Value)).reverse.lookup y) : m = numM c i ti tn num := by
  rw [h]
  funext y
  by_cases e1 : y = Str.ofString "number"
  · rw [if_pos e1]; simp only [numM]; rw [if_pos e1]
  · rw [if_neg e1]; simp only [numM]; rw [if_neg e1]
    by_cases e2 : y = Str.ofString "first"
    · rw [if_pos e2, if_pos e2]
    · rw [if_neg e2, if_neg e2]
      by_cases e3 : y = Str.ofString "self"
      · rw [if_pos e3, e3]; rfl
      · rw [if_neg e3]
        have e4 : (y == Str.ofString "self") = false := beq_eq_false_iff_ne.mpr e3
        show List.lookup y [(Str.ofString "self", Value.ref c)] = none
        simp only [List.lookup, e4]
theorem num_m2 {c : Addr} {i n1 n2 : Int} {ti t1 t2 : Tok} : (fun y => if y = Str.ofString "number" then some (.int n1 t1) else numM c i ti t2 n2 y) = numM c i ti t1 n1 := by
  funext y
  by_cases e1 : y = Str.ofString "number"
  · simp only [numM]; rw [if_pos e1, if_pos e1]
  · simp only [numM]; rw [if_neg e1, if_neg e1, if_neg e1]
structure NumJ (c dc : Addr) (own : List (Addr × Obj)) (h1 h2 h3 : Int) (k1 k2 k3 : Tok) (d : Array UInt8) (td : Tok) (i : Int) (ti te : Tok) (ks fs : List Int) (n : Nat) (m : Str → Option Value) (nw : List (Addr × Obj)) (x num : Int) (tn tx : Tok) : Prop where
  hm : m = numM c i ti tn num
  hn : nw = (c, instObj 164 dc) :: (dc, curO h1 h2 h3 k1 k2 k3 d td x tx (ks.length : Int) te) :: own
  lo : i ≤ x
  hi : x ≤ i + (fs.length : Int)
  val : num = valOf (fs.take (x - i).toNat)
  pos : 0 ≤ num
  top : num < 10000000000
  ms : n = (i + (fs.length : Int) - x).toNat
theorem num_start {i : Int} {fs : List Int} : i ≤ i ∧ i ≤ i + (fs.length : Int) ∧ (0 : Int) = valOf (fs.take (i - i).toNat) ∧ (0 : Int) ≤ 0 ∧ (0 : Int) < 10000000000 := by
  have e : (i - i).toNat = 0 := by omega
  rw [e]
  exact ⟨by omega, by omega, rfl, by decide, by decide⟩
theorem num_turn {ks : List Int} {i : Int} {fs : List Int} {n x : Int} (R : RunAt ks i fs) (h1 : i ≤ x) (h2 : x ≤ i + (fs.length : Int)) (h3 : n = valOf (fs.take (x - i).toNat)) (h4 : 48 ≤ pk ks x) (h5 : pk ks x ≤ 57) :
    i ≤ x + 1 ∧ x + 1 ≤ i + (fs.length : Int) ∧ n * 10 + pk ks x - 48 = valOf (fs.take (x + 1 - i).toNat) ∧ 0 ≤ n * 10 + pk ks x - 48 ∧ n * 10 + pk ks x - 48 < 10000000000 := by
  have hx : x = i + ((x - i).toNat : Int) := by omega
  have hlt : (x - i).toNat < fs.length := by
    rcases Nat.lt_or_ge (x - i).toNat fs.length with h | h
    · exact h
    · have e : x = i + (fs.length : Int) := by omega
      rw [e] at h4 h5
      exact absurd ⟨h4, h5⟩ R.stop
  have e1 : (x + 1 - i).toNat = (x - i).toNat + 1 := by omega
  have e2 : pk ks x = fs.getD (x - i).toNat 0 := by
    have := (R.at_ _ hlt).1
    rw [← hx] at this
    exact this
  have e3 : n * 10 + pk ks x - 48 = valOf (fs.take (x + 1 - i).toNat) := by
    rw [e1, take_snoc _ _ hlt, valOf_snoc, e2, h3]
  have b := R.take_bound ((x + 1 - i).toNat) (by omega)
  rw [← e3] at b
  exact ⟨by omega, by omega, e3, b.1, b.2⟩
theorem num_done {ks : List Int} {i : Int} {fs : List Int} {n x : Int} (R : RunAt ks i fs) (h1 : i ≤ x) (h2 : x ≤ i + (fs.length : Int)) (h3 : n = valOf (fs.take (x - i).toNat)) (h4 : ¬ (48 ≤ pk ks x ∧ pk ks x ≤ 57)) :
    x = i + (fs.length : Int) ∧ n = valOf fs := by
  have hx : x = i + ((x - i).toNat : Int) := by omega
  rcases Nat.lt_or_ge (x - i).toNat fs.length with h | h
  · have := R.at_ _ h
    rw [← hx] at this
    rw [this.1] at h4
    exact absurd this.2 h4
  · have e : x = i + (fs.length : Int) := by omega
    have e1 : (x - i).toNat = fs.length := by omega
    rw [e1, List.take_length] at h3
    exact ⟨e, h3⟩

section
variable {w : World} {mean : ExcName → Option Value} {mg mb : Str → Option Value} {dp un : Nat} {gd : Option (List Code)} {cn : Str} {cs : Scope} {a : Addr} {ccd : Value} {cl : List (Str × Addr)} {outer : List Env} {A₀ : Around} {base h₀ : Heap} {L : Addr} {m : Str → Option Value} {s : Shared} {Q E : Value → Shared → Prop}
variable {c dc : Addr} {own : List (Addr × Obj)} {h1 h2 h3 : Int} {k1 k2 k3 : Tok} {d : Array UInt8} {td : Tok} {i : Int} {ti te : Tok} {ks : List Int}
set_option maxRecDepth 100000 in
set_option maxHeartbeats 8000000 in
theorem number_c {fs : List Int}
    (B : Below A₀ base outer h₀) (F : Fr h₀ L s.heap m) (X : (hd.heap_39 w.params).In h₀)
    (N : News h₀ L s.heap ((c, instObj 164 dc) :: (dc, curO h1 h2 h3 k1 k2 k3 d td i ti (ks.length : Int) te) :: own))
    (O : OwnOff own [c, dc]) (hcd : @LT.lt Nat _ dc c)
    (T : Top hd.view_39 (looseW hd.view_39 [Str.ofString "PostError"]) mean mg mb h₀) (hk : cs.kind = .function)
    (hdp : dp + 3 < recursionLimit) (hu : un + 24 < cLine)
    (hI : KBw.bInts d = ks) (hlen : ks.length ≤ 1000) (h0 : 0 ≤ i) (h1000 : i ≤ 1000) (R : RunAt ks i fs)
    (ret : ∀ (t ti' : Tok) (h' : Heap) (tk' : Nat), Fr h₀ L h' m → News h₀ L h' ((c, instObj 164 dc) :: (dc, curO h1 h2 h3 k1 k2 k3 d td (i + (fs.length : Int)) ti' (ks.length : Int) te) :: own) → Q (.int (valOf fs) t) { s with heap := h', toks := tk' }) :
    wpAny (model PySem.Challenge.rw_or0032_01.row.prog w) (ktrTop dp un gd cn cs L a ccd cl outer) (call (.ref 154) [.ref c]) Q E s := by
  w_top off
  k_with_none
  revert X; k_fill; intro X
  have hfew := R.few
  have hsome := R.some
  k_with_none
  (k_with "exec While Compare cons nil" => ((rename Fr _ _ _ _ => lF); (rename News _ _ _ _ => lN); (refine While_inv2 (n₀ := fs.length) (fun n m nw => ∃ x num tn tx, NumJ c dc own h1 h2 h3 k1 k2 k3 d td i ti te ks fs n m nw x num tn tx) lF lN ?start ?turn); (clear lF lN); (case' turn => (rintro n m nw h1' tk1' F' N' ⟨x, num, tn, tx, J⟩; (obtain ⟨rfl, rfl, Jlo, Jhi, Jval, Jpos, Jtop, Jms⟩ := J); (try k_fold))); (case start => exact ⟨i, 0, _, _, ⟨num_m rfl, rfl, by omega, by omega, num_start.2.2.1, by decide, by decide, by omega⟩⟩)))
  refine wpAny_call ?_
  k_dflt (walk_at "mine enter")
  k_steps
  all_goals first
    | (have e := num_done R Jlo Jhi Jval (by omega)
       first
         | (exfalso; omega)
         | (obtain ⟨rfl, rfl⟩ := e; exact ret _ _ _ _ (by k_asm) (by k_asm)))
    | (exfalso; omega)
    | (have e := num_turn R Jlo Jhi Jval (by assumption) (by assumption)
       exact ⟨_, _, _, _, _, rfl, by k_asm, by k_asm, by omega, ⟨_, _, _, _, ⟨num_m2, rfl, e.1, e.2.1, e.2.2.1, e.2.2.2.1, e.2.2.2.2, rfl⟩⟩⟩)
end
local macro_rules | `(tactic| walk_at "call ref") => `(tactic| (k_here; (with_reducible show wpAny _ _ (call (Value.ref 154) _) _ _ _); k_dflt (
  refine' number_c ?kB ?kF ?kX ?kN ?kO ?kc ?kT ?kk ?kd ?ku ?kI ?kl ?k0 ?k1 ?kR ?_; (walk_at "mine sides"); (case kO => first | assumption | exact OffAll.off (by assumption)); (case kc => assumption); (case kI => assumption); (case kR => assumption); (case kl => omega); (case k0 => omega); (case k1 => omega); intro t' ti' h' tk' F' N'; (try dsimp only); (try k_fold))))

section
variable {w : World} {A : Around} {E : Value → Shared → Prop} {R : Result → Shared → Prop} {h : Heap} {g : Array GenState} {d : Drawn} {t : Nat} {os : OsState}
abbrev PROG : Program := PySem.Challenge.rw_or0032_01.row.prog
abbrev tupObj (vs : List Value) : Obj := { cls := .type "tuple", data := .seq vs.toArray }
abbrev excObj (od : Option Addr) (tp : Addr) (tb : Value) : Obj := { cls := .ref 59, dict := od, data := .fields #[.ref tp, tb, .none, .none, .bool false, .none] }

abbrev wfTail : List Value := [.ref 46, .type "Exception", .type "BaseException", .type "object"]
abbrev wfCls : Obj := excClassObj (Str.ofString "WireFault") (Str.ofString "WireFault") 59 58 [.ref 46] wfTail true [] [] false none none (some (.ref 50)) none (some (.str (Str.ofString "WireFault") 236)) (some (.str (Str.ofString "WireFault") 244)) (some (.bool true)) "Exception.__new__"
theorem wf_at (X : (hd.heap_39 w.params).In h) : h.get? 59 = some wfCls := by
  exact X 59 _ rfl

set_option maxHeartbeats 4000000 in
theorem exc_new59 {rest : List Value} (X : (hd.heap_39 w.params).In h)
    (hq : R (.ok (.ret (.ref (h.objs.size + 1)))) ⟨(h.push (tupObj rest)).push (excObj none h.objs.size .none), g, d, t, os⟩) (hrest : rest.length ≤ sizeLine) :
    codeAny (model PySem.Challenge.rw_or0032_01.row.prog w) A (.builtin "Exception.__new__" ⟨.ref 59 :: rest, []⟩) R ⟨h, g, d, t, os⟩ := by
  have F := PySem.F.excBase_Exception
  have hends := F.ends
  have hC := wf_at X
  have hcB : (Value.ref 59 :: wfTail).contains (.type "Exception") = true := by decide +kernel
  have hcA : (Value.ref 59 :: wfTail).contains (.type "AttributeError") = false := by decide +kernel
  have hcN : (Value.ref 59 :: wfTail).contains (.type "NameError") = false := by decide +kernel
  refine codeAny_builtinAt F.entry ?_
  unfold Builtin.«BaseException.__new__»
  refine PySem.wpAt_bind ?_
  show PySem.wpAt _ _ _ (stack >>= _) _ _ _
  refine PySem.wpAt_bind (PySem.wpAt_stack fun p below => PySem.wpAt_of_wpAny ?_)
  wp_walk
  refine PySem.wpAt_of_wpAny ?_
  rw [F.owner]
  repeat (first | with_reducible refine wpAny_madeHere_exc F.canon hC ?_ | with_reducible refine wpAny_loadPart_at hC ?_ | (with_reducible refine wpAny_isSubtype_exc hC ?_; first | rw [hcB] | rw [hcA] | rw [hcN]) | wp_step)
  show R _ _
  rw [Heap.size_push]
  exact hq

set_option maxHeartbeats 4000000 in
/-- the class is called: the object is made, then __init__ of the base is called -/
theorem exc_call59 {rest : List Value} {Q : Value → Shared → Prop} (X : (hd.heap_39 w.params).In h) (hrest : rest.length ≤ sizeLine)
    (hq : codeAny (model PySem.Challenge.rw_or0032_01.row.prog w) (A.under (.builtin "type.__call__" ⟨.ref 59 :: rest, []⟩)) (.call (.ref 36) ⟨.ref (h.objs.size + 1) :: rest, []⟩) (InitBack (h.objs.size + 1) fun r s' => match r with | .ok (.ret v) => Q v s' | .ok _ => False | .error e => E e s') ⟨(h.push (tupObj rest)).push (excObj none h.objs.size .none), g, d, t, os⟩) :
    wpAny (model PySem.Challenge.rw_or0032_01.row.prog w) A (call (.ref 59) rest) Q E ⟨h, g, d, t, os⟩ := by
  w_top off
  k_with_none
  revert X; k_fill; intro X
  have F := PySem.F.excBase_Exception
  have hC := wf_at X
  have call := looks_specialIn (M := model PySem.Challenge.rw_or0032_01.row.prog w) X (v := .ref 59) (name := "__call__") (r := some (.builtin "type.__call__")) (by k_is)
  have typ := looks_instIn (M := model PySem.Challenge.rw_or0032_01.row.prog w) X (v := .ref 59) (base := .type "type") (r := true) (by k_is)
  have hm : Looks (model PySem.Challenge.rw_or0032_01.row.prog w) h (mroOf (.ref 59)) (.ref 59 :: wfTail) := ((Looks.ld (part := none) hC).andThen .now).andThen .now
  have made : Looks (model PySem.Challenge.rw_or0032_01.row.prog w) h (Bind.madeBy (.ref 59)) (some "Exception.__new__") := fun A Q E s k q => by
    obtain ⟨hh, g, d, tk, os⟩ := s
    exact wpAny_madeBy_exc (k _ _ hC) q
  have hi := looks_findIn (M := model PySem.Challenge.rw_or0032_01.row.prog w) X (t := .ref 59) (name := "__init__") (r := some (.ref 36)) (by k_is)
  have hb := fun self => bind_fn (M := model PySem.Challenge.rw_or0032_01.row.prog w) X (f := 36) self (by k_is)
  have self := looks_subIn (M := model PySem.Challenge.rw_or0032_01.row.prog w) X (t := .ref 59) (base := .ref 59) (r := true) (by k_is)
  refine wpAny_call (codeAny_of_tree ?_)
  show wpAny _ _ (callAny (.ref 59) _) _ _ _
  refine nd_load hC ?_
  show wpAny _ _ (callAny.viaDunder (.ref 59) _) _ _ _
  unfold callAny.viaDunder
  refine wpAny_bind (call.at ?_)
  dsimp only
  rw [tc_bind]
  refine wpAny_bind (wpAny_pure (wpAny_bind (wpAny_pure ?_)))
  refine wpAny_pure (a := Fin.again (.call (.builtin "type.__call__") ⟨.ref 59 :: rest, []⟩)) (And.intro rfl ?_)
  refine codeAny_call_builtin_at (Code.quiet_builtin _ (by decide +kernel)) entry_typeCall (check_slot tc_kind tc_split typ (tc_args _ _ _) ?_)
  unfold Builtin.«type.__call__»
  repeat (first | simp only [List.isEmpty_cons, Bool.false_eq_true, if_false] | with_reducible refine wpAny_call ?_ | lk)
  refine codeAny_call_builtin_code (Code.quiet_builtin _ F.quiet) (wpAny_check_new_subU F (bmB := wfTail) (by decide +kernel) .base hC ?_)
  refine exc_new59 X ?_ hrest
  have k : ∀ b o, h.get? b = some o → ((h.push (tupObj rest)).push (excObj none h.objs.size .none)).get? b = some o := fun b o e => Heap.get?_push_of_some _ (Heap.get?_push_of_some _ e)
  have hx : ((h.push (tupObj rest)).push (excObj none h.objs.size .none)).get? (h.objs.size + 1) = some (excObj none h.objs.size .none) := by heap_get
  have t1 : Looks (model PySem.Challenge.rw_or0032_01.row.prog w) ((h.push (tupObj rest)).push (excObj none h.objs.size .none)) (typeOf (.ref (h.objs.size + 1))) (.ref 59) := (Looks.ld hx).andThen .now
  have s1 := self.keeps k
  have i1 := hi.keeps k
  have b1 := (hb (.ref (h.objs.size + 1))).keeps k
  show wpAny _ _ _ _ _ _
  unfold isInstance callSpecial? specialOf
  repeat (first | with_reducible refine wpAny_call ?_ | lk)
  refine codeAny_mono hq fun r s' z => ?_
  rcases r with e | (v | _ | _ | _) <;> first | exact z | exact z.elim | skip
  obtain ⟨rfl, z⟩ := z
  exact wpAny_pure (wpAny_pure z)
end

section
variable {w : World} {A : Around} {E : Value → Shared → Prop} {h : Heap} {g : Array GenState} {d : Drawn} {t : Nat} {os : OsState}
theorem check_init59 {M : Model} {e : Addr} {oe : Obj} {rest : List Value} {Q : Unit → Shared → Prop}
    (hC : h.get? 59 = some wfCls) (he : h.get? e = some oe) (hcls : oe.cls = .ref 59) (hq : Q () ⟨h, g, d, t, os⟩) :
    wpAny M A (checkBuiltinCall "Exception.__init__" ⟨.ref e :: rest, []⟩) Q E ⟨h, g, d, t, os⟩ := by
  have F := PySem.F.excBase_Exception
  have hcB : (Value.ref 59 :: wfTail).contains (.type "Exception") = true := by decide +kernel
  have hshort := F.noStar
  simp only [checkBuiltinCall, F.initKind, F.initSplit, F.initRow]
  repeat (first | (with_reducible refine wpAny_loadPart_at he ?_; rw [hcls]) | with_reducible refine wpAny_loadPart_at hC ?_ | (with_reducible refine wpAny_isSubtype_exc hC ?_; rw [hcB]) | wp_step)
  refine wpAny_onRaise ?_
  rw [show ∀ (a b : String) (n : Nat), Bind.check ⟨.positional, "*", "Exception", .self, [⟨"args", .varPos, false⟩]⟩ a b n (List.map (fun x => x.fst) ({ pos := Value.ref e :: rest } : Args).kw) = pure () from
    fun a b n => check_star_args _ _ _ _ _ _]
  exact wpAny_pure hq
end
section
variable {w : World} {A : Around} {E : Value → Shared → Prop} {Q : Value → Shared → Prop} {h₀ : Heap} {L : Addr} {m : Str → Option Value} {s : Shared} {rest : List (Addr × Obj)} {e tp : Addr} {tb v : Value}
set_option maxHeartbeats 4000000 in
theorem exc_init_c (F : Fr h₀ L s.heap m) (X : (hd.heap_39 w.params).In h₀) (N : News h₀ L s.heap ((e, excObj none tp tb) :: rest)) (hne : ∀ p ∈ rest, p.1 ≠ e)
    (ret : ∀ h' t, Fr h₀ L h' m → News h₀ L h' ((e, excObj none t tb) :: (t, tupObj [v]) :: rest) → (∀ p ∈ (t, tupObj [v]) :: rest, p.1 ≠ e) → Q .none { s with heap := h' }) :
    wpAny (model PySem.Challenge.rw_or0032_01.row.prog w) A (call (.builtin "Exception.__init__") [.ref e, v]) Q E s := by
  have F' := PySem.F.excBase_Exception
  have X' := X.keeps F.keep
  have he := (N _ (.head _)).1
  obtain ⟨hh, g, d, t, os⟩ := s
  refine wpAny_call (codeAny_call_builtin F'.init.plain F'.initEntry (check_init59 (wf_at X') he rfl ?_))
  unfold Builtin.«BaseException.__init__»
  have he2 : (hh.push (tupObj [v])).get? e = some (excObj none tp tb) := Heap.get?_push_of_some _ he
  have f0 := looks_field (M := model PySem.Challenge.rw_or0032_01.row.prog w) he2 0 (v := .ref tp) rfl
  wp_walk
  show Q .none _
  have lt : @LT.lt Nat _ e hh.objs.size := Heap.lt_size he
  obtain ⟨F2, N2⟩ := news_upd (pre := [(hh.objs.size, tupObj [v])]) (post := rest) (f := Obj.mapFields fun x => x.setIfInBounds 0 (Value.ref hh.objs.size)) (o' := excObj none hh.objs.size tb) (F.push (tupObj [v])) (N.push F (tupObj [v]))
    (fun p hp => by rw [List.mem_singleton.mp hp]; exact Nat.ne_of_gt lt) hne rfl rfl
  exact ret _ _ F2 (fun p hp => N2 p (by
    rcases List.mem_cons.mp hp with rfl | hp
    · exact .tail _ (.head _)
    · rcases List.mem_cons.mp hp with rfl | hp
      · exact .head _
      · exact .tail _ (.tail _ hp))) fun p hp => by
    rcases List.mem_cons.mp hp with rfl | hp
    · exact Nat.ne_of_gt lt
    · exact hne p hp
theorem meta_exception : typeOf (.type "Exception") = pure (.type "type") := by kernel_rfl
open Builtin Builtin.ObjectAttr in
/-- a new key is stored: the name's setting by the library, then the look behind -/
theorem store_in {name : Str} {tk : Tok} {D : Addr} {post : List (Addr × Obj)} {es : List DictEntry} {n : Nat} {Q : Fin → Shared → Prop} {hh : Heap} {g : Array GenState} {d : Drawn} {t : Nat} {os : OsState}
    (F : Fr h₀ L hh m) (N : News h₀ L hh ((D, dictOf es n) :: post)) (h2 : ∀ p ∈ post, p.1 ≠ D) (hs : ∀ e ∈ es, e.key.isStr name = false) (hr : ∀ e ∈ es, e.refKey = false) (hz : es.length ≤ 1000)
    (h : ∀ h', Fr h₀ L h' m → News h₀ L h' ((D, dictOf (es ++ [⟨PyData.keyHash w.params name, .str name t, v⟩]) (n + 1)) :: post) → Q (.done (.ret .none)) ⟨h', g, d, t + 1, os⟩) :
    wpAny (model PySem.Challenge.rw_or0032_01.row.prog w) A (storeInDict D (.str name tk) name v) Q E ⟨hh, g, d, t, os⟩ := by
  unfold storeInDict newKeyGuard
  refine wpAny_bind (wpAny_pure (wpAny_bind (kp_nsSet F N h2 hs hr fun h' F' N' => ?_)))
  refine wpAny_bind (wpAny_lookBehind (N' _ (.head _)).1 (pastItsLine_dict (by rw [List.size_toArray, List.length_append, sizeLine_eq]; show es.length + 1 ≤ _; omega)) ?_)
  exact wpAny_pure (h h' F' N')

open Builtin Builtin.ObjectAttr in
theorem exc_osa {name : Str} {tp : Addr} {od : Option Addr} {oD : Option Obj} {tb v : Value} {Q : Unit → Shared → Prop} {hh : Heap} {g : Array GenState} {d : Drawn} {t : Nat} {os : OsState} (X' : (hd.heap_39 w.params).In hh) (I : InstAt hh e (excObj od tp tb) 59 oD)
    (hn : takerIn (hd.heap_39 w.params) 59 name = some none)
    (h : ∀ b, wpAny (model PySem.Challenge.rw_or0032_01.row.prog w) A.in1 (storeInOwnDict (.ref e) (.ref 59) (.str name t) name v b) (fun fin s' => fin = .done (.ret .none) ∧ Q () s') E ⟨hh, g, d, t + 1, os⟩) :
    wpAny (model PySem.Challenge.rw_or0032_01.row.prog w) A (setAttr (.ref e) name v) Q E ⟨hh, g, d, t, os⟩ := by
  revert X'; k_fill; intro X'
  refine set_plain X' I (by k_is) ?_
  have SF := PySem.F.store_object
  have sub : Looks (model PySem.Challenge.rw_or0032_01.row.prog w) hh (isInstance (.ref e) (.type "object")) true := I.type.andThen (looks_subIn X' (by k_is))
  refine codeAny_call_builtin SF.slot.plain SF.entry (@check_slot (model PySem.Challenge.rw_or0032_01.row.prog w) _ _ _ "object.__setattr__" "object" "__setattr__" (.ref e) [.str name t, v] [] _ SF.kind SF.split sub (SF.args (.ref e) (.str name t) v) ?_)
  have hm : Looks (model PySem.Challenge.rw_or0032_01.row.prog w) hh (mroOf (.ref 59)) (.ref 59 :: wfTail) := ((Looks.ld (part := none) (wf_at X')).andThen .now).andThen .now
  obtain ⟨attr, ha, hr⟩ := Option.bind_eq_some_iff.mp hn
  have L3 : Looks (model PySem.Challenge.rw_or0032_01.row.prog w) hh (storeTaker? attr) none := by
    cases attr with
    | none => exact .now
    | some a =>
      obtain ⟨b, hb, hb'⟩ := Option.map_eq_some_iff.mp hr
      refine (looks_takesIn X' hb).andThen ?_
      cases b
      · exact .now
      · cases hb'
  rw [osa_eq, refuse_eq]
  have L4 := looks_findIn (M := model PySem.Challenge.rw_or0032_01.row.prog w) X' ha
  have L0 := I.type (M := model PySem.Challenge.rw_or0032_01.row.prog w)
  refine wpAny_bind (wpAny_bind (L0.at (wpAny_bind (hm.at ?_))))
  rw [refuseLoop_ref, refuseLoop_ref, PySem.F.store_Exception.passes]
  refine wpAny_pure (wpAny_bind (L0.at (wpAny_bind (L4.at (wpAny_bind (L3.at ?_))))))
  refine wpAny_mono (h attr.isSome) (fun fin s' z => ?_) fun _ _ z => z
  obtain ⟨rfl, z⟩ := z
  exact z

theorem exc_hasDict (X' : (hd.heap_39 w.params).In s.heap) : ∃ cd, Looks (model PySem.Challenge.rw_or0032_01.row.prog w) s.heap (classData 59) cd ∧ cd.hasDict = true := by
  revert X'; k_fill; intro X'
  obtain ⟨cd, hc, hd'⟩ := any_some (show (clsIn (hd.heap_39 w.params) 59).any (·.hasDict) = true from (show hasDictIn (hd.heap_39 w.params) 59 = true from by k_is))
  exact ⟨cd, looks_clsIn X' hc, hd'⟩

theorem news_turn {h : Heap} {a b : Addr × Obj} (N : News h₀ L h (a :: b :: rest)) : News h₀ L h (b :: a :: rest) := fun p hp => N p (by
  rcases List.mem_cons.mp hp with rfl | hp
  · exact .tail _ (.head _)
  · rcases List.mem_cons.mp hp with rfl | hp
    · exact .head _
    · exact .tail _ (.tail _ hp))

open Builtin Builtin.ObjectAttr in
/-- the first attribute: the object gets its dict -/
theorem exc_set_c {name : Str} {tp : Addr} {tb v : Value} {Q : Unit → Shared → Prop} (F : Fr h₀ L s.heap m) (X : (hd.heap_39 w.params).In h₀) (N : News h₀ L s.heap ((e, excObj none tp tb) :: rest)) (hne : ∀ p ∈ rest, p.1 ≠ e)
    (hn : takerIn (hd.heap_39 w.params) 59 name = some none)
    (ret : ∀ h' D i u tk', Fr h₀ L h' m → News h₀ L h' ((e, excObj (some D) tp tb) :: (D, dictOf [⟨i, .str name u, v⟩] 1) :: rest) → (∀ p ∈ rest, p.1 ≠ D) → @LT.lt Nat _ e D → Q () { s with heap := h', toks := tk' }) :
    wpAny (model PySem.Challenge.rw_or0032_01.row.prog w) A (setAttr (.ref e) name v) Q E s := by
  have X' := X.keeps F.keep
  obtain ⟨cd, L5, hd'⟩ := exc_hasDict (s := s) X'
  obtain ⟨hh, g, d, t, os⟩ := s
  have he : hh.get? e = some (excObj none tp tb) := (N _ (.head _)).1
  refine exc_osa X' (oD := none) ⟨he, rfl, rfl, trivial⟩ hn fun b => ?_
  refine wpAny_bind (wpAny_pure (wpAny_bind (wpAny_bind (wpAny_loadPart he (wpAny_bind (L5.at ?_))))))
  rw [hd']
  show wpAny _ _ (alloc emptyDict >>= fun dd => update e (fun o => { o with dict := some dd }) >>= fun _ => pure (some dd)) _ _ _
  have lt : @LT.lt Nat _ e hh.objs.size := Heap.lt_size he
  have N1 := N.push F emptyDict
  obtain ⟨F2, N2⟩ := news_upd (pre := [(hh.objs.size, emptyDict)]) (post := rest) (f := fun o => { o with dict := some hh.objs.size }) (o' := excObj (some hh.objs.size) tp tb) (F.push emptyDict) N1
    (fun p hp => by rw [List.mem_singleton.mp hp]; exact Nat.ne_of_gt lt) hne rfl rfl
  have fresh : ∀ p ∈ (e, excObj (some hh.objs.size) tp tb) :: rest, p.1 ≠ hh.objs.size := fun p hp => by
    rcases List.mem_cons.mp hp with rfl | hp
    · exact Nat.ne_of_lt lt
    · exact Nat.ne_of_lt (Heap.lt_size (N p (.tail _ hp)).1)
  refine wpAny_bind (wpAny_alloc' (wpAny_bind (wpAny_update' (Heap.get?_push_of_some _ he) (wpAny_pure ?_))))
  show wpAny _ _ (storeInDict hh.objs.size (.str name t) name v) _ _ _
  refine store_in (es := []) (n := 0) F2 N2 fresh (fun p hp => nomatch hp) (fun p hp => nomatch hp) (Nat.zero_le _) fun h' F' N' => ⟨rfl, ?_⟩
  refine ret h' hh.objs.size (PyData.keyHash w.params name) (t + 1) _ F' (fun p hp => N' p ?_) (fun p hp => fresh p (.tail _ hp)) lt
  rcases List.mem_cons.mp hp with rfl | hp
  · exact .tail _ (.head _)
  · rcases List.mem_cons.mp hp with rfl | hp
    · exact .head _
    · exact .tail _ (.tail _ hp)

open Builtin Builtin.ObjectAttr in
/-- a further attribute -/
theorem exc_set2_c {name n1 : Str} {i1 : Int} {u1 : Tok} {v1 : Value} {D tp : Addr} {tb v : Value} {Q : Unit → Shared → Prop} (F : Fr h₀ L s.heap m) (X : (hd.heap_39 w.params).In h₀) (N : News h₀ L s.heap ((e, excObj (some D) tp tb) :: (D, dictOf [⟨i1, .str n1 u1, v1⟩] 1) :: rest))
    (hne : ∀ p ∈ rest, p.1 ≠ D) (hlt : @LT.lt Nat _ e D)
    (hn : takerIn (hd.heap_39 w.params) 59 name = some none) (h1 : (Value.str n1 u1).isStr name = false)
    (ret : ∀ h' i u tk', Fr h₀ L h' m → News h₀ L h' ((e, excObj (some D) tp tb) :: (D, dictOf [⟨i1, .str n1 u1, v1⟩, ⟨i, .str name u, v⟩] 2) :: rest) → Q () { s with heap := h', toks := tk' }) :
    wpAny (model PySem.Challenge.rw_or0032_01.row.prog w) A (setAttr (.ref e) name v) Q E s := by
  have X' := X.keeps F.keep
  obtain ⟨cd, L5, hd'⟩ := exc_hasDict (s := s) X'
  obtain ⟨hh, g, d, t, os⟩ := s
  have he : hh.get? e = some (excObj (some D) tp tb) := (N _ (.head _)).1
  have hD : hh.get? D = some (dictOf [⟨i1, .str n1 u1, v1⟩] 1) := (N _ (.tail _ (.head _))).1
  refine exc_osa X' (oD := some (dictOf [⟨i1, .str n1 u1, v1⟩] 1)) ⟨he, rfl, rfl, hD⟩ hn fun b => ?_
  refine wpAny_bind (wpAny_pure (wpAny_bind (wpAny_bind (wpAny_loadPart he (wpAny_bind (L5.at ?_))))))
  rw [hd']
  refine wpAny_pure (a := some D) ?_
  show wpAny _ _ (storeInDict D (.str name t) name v) _ _ _
  have one : ∀ {P : DictEntry → Prop}, P ⟨i1, .str n1 u1, v1⟩ → ∀ x ∈ [(⟨i1, .str n1 u1, v1⟩ : DictEntry)], P x := fun hp x hx => by rw [List.mem_singleton.mp hx]; exact hp
  refine store_in F (post := (e, excObj (some D) tp tb) :: rest) (news_turn N) (fun p hp => ?_) (one h1) (one rfl) (Nat.le_of_ble_eq_true rfl) fun h' F' N' => ⟨rfl, ret h' _ _ _ F' (news_turn N')⟩
  rcases List.mem_cons.mp hp with rfl | hp
  · exact Nat.ne_of_lt hlt
  · exact hne p hp
end
local macro_rules | `(tactic| walk_at "getMethod type:Exception") => `(tactic| (k_here; refine' method_type ?F ?X ?m (by decide +kernel) ?e ?h ?_; (case F => k_asm); (case X => k_asm); (case m => exact meta_exception); (case e => k_dflt k_is); (case h => k_handed)))
local macro_rules | `(tactic| walk_at "call builtin:Exception.__init__") => `(tactic| (k_here; k_dflt (refine' exc_init_c ?kF ?kX ?kN ?kne ?_; (case kF => k_asm); (case kX => k_asm); (case kN => k_asm); (case kne => assumption); k_whole; intro h' t' F' N' Ne'; (try dsimp only); (try k_sweep))))
local macro_rules | `(tactic| walk_at "setAttr ref") => `(tactic| (k_here; k_dflt (refine' exc_set_c ?kF ?kX ?kN ?kne ?kt ?_; (case kF => k_asm); (case kX => k_asm); (case kN => k_asm); (case kne => assumption); (case kt => k_is); k_whole; intro h' D' i' u' tk' F' N' Ne' l'; (try dsimp only); (try k_sweep))))
local macro_rules | `(tactic| walk_at "setAttr ref") => `(tactic| (k_here; k_dflt (refine' exc_set2_c ?kF ?kX ?kN ?kne ?kl ?kt ?k1 ?_; (case kF => k_asm); (case kX => k_asm); (case kN => k_asm); (case kne => assumption); (case kl => assumption); (case kt => k_is); (case k1 => first | exact rfl | decide | decide +kernel); k_whole; intro h' i' u' tk' F' N'; (try dsimp only); (try k_sweep))))

theorem news_fewer {h₀ h : Heap} {L : Addr} {news news' : List (Addr × Obj)} (N : News h₀ L h news) (hs : ∀ p ∈ news', p ∈ news) : News h₀ L h news' := fun p hp => N p (hs p hp)
theorem ne_cons {e D : Addr} {o : Obj} {x : Addr × Obj} {news : List (Addr × Obj)} (l : @LT.lt Nat _ e D) (h : ∀ p ∈ x :: news, p.1 ≠ e) : ∀ p ∈ (D, o) :: news, p.1 ≠ e := fun p hp => by
  rcases List.mem_cons.mp hp with rfl | hp
  · exact Nat.ne_of_gt l
  · exact h p (.tail _ hp)
theorem news_drop34 {h₀ h : Heap} {L : Addr} {a b c d : Addr × Obj} {news : List (Addr × Obj)} (N : News h₀ L h (a :: b :: c :: d :: news)) : News h₀ L h (a :: b :: news) := news_fewer N fun p hp => by
  rcases List.mem_cons.mp hp with rfl | hp
  · exact .head _
  · rcases List.mem_cons.mp hp with rfl | hp
    · exact .tail _ (.head _)
    · exact .tail _ (.tail _ (.tail _ (.tail _ hp)))
section
variable {w : World} {mean : ExcName → Option Value} {mg mb : Str → Option Value} {dp un : Nat} {gd : Option (List Code)} {cn : Str} {cs : Scope} {a : Addr} {ccd : Value} {cl : List (Str × Addr)} {outer : List Env} {A₀ : Around} {base h₀ : Heap} {L : Addr} {m : Str → Option Value} {s : Shared} {Q E : Value → Shared → Prop} {news : List (Addr × Obj)}
set_option maxRecDepth 100000 in
set_option maxHeartbeats 8000000 in
theorem fault_c {first : Int} {what : Str} {tk1 tk2 : Tok}
    (B : Below A₀ base outer h₀) (F : Fr h₀ L s.heap m) (X : (hd.heap_39 w.params).In h₀)
    (N : News h₀ L s.heap news)
    (T : Top hd.view_39 (looseW hd.view_39 [Str.ofString "PostError"]) mean mg mb h₀) (hk : cs.kind = .function)
    (hdp : dp + 2 < recursionLimit) (hu : un + 24 < cLine)
    (ret : ∀ e D tp h' tk' i1 i2 u1 u2 u3 u4, Fr h₀ L h' m → News h₀ L h' ((e, excObj (some D) tp .none) :: (D, dictOf [⟨i1, .str (Str.ofString "what") u1, .str what u2⟩, ⟨i2, .str (Str.ofString "at") u3, .int first u4⟩] 2) :: news) → (∀ p ∈ (D, dictOf [⟨i1, .str (Str.ofString "what") u1, .str what u2⟩, ⟨i2, .str (Str.ofString "at") u3, .int first u4⟩] 2) :: news, p.1 ≠ e) → Q (.ref e) { s with heap := h', toks := tk' }) :
    wpAny (model PySem.Challenge.rw_or0032_01.row.prog w) (ktrTop dp un gd cn cs L a ccd cl outer) (call (.ref 59) [.str what tk1, .int first tk2]) Q E s := by
  w_top off
  k_with_none
  revert X; k_fill; intro X
  refine exc_call59 (X.keeps F.keep) (by size_fits) ?_
  have F1 := (F.push (tupObj [.str what tk1, .int first tk2])).push (excObj none s.heap.objs.size .none)
  have N1 := (N.push F (tupObj [.str what tk1, .int first tk2])).push (F.push _) (excObj none s.heap.objs.size .none)
  rw [Heap.size_push] at N1
  have Ne1 : ∀ p ∈ (s.heap.objs.size, tupObj [.str what tk1, .int first tk2]) :: news, p.1 ≠ s.heap.objs.size + 1 := fun p hp => by
    rcases List.mem_cons.mp hp with rfl | hp
    · exact Nat.ne_of_lt (Nat.lt_succ_self _)
    · exact Nat.ne_of_lt (Nat.lt_succ_of_lt (Heap.lt_size (N p hp).1))
  k_dflt (walk_at "mine enter")
  k_steps
  exact ret _ _ _ _ _ _ _ _ _ _ _ (by k_asm) (news_drop34 (by k_asm)) (ne_cons (by assumption) Ne1)
end
local macro_rules | `(tactic| walk_at "call ref") => `(tactic| (k_here; (with_reducible show wpAny _ _ (call (Value.ref 59) _) _ _ _); k_dflt (
  refine' fault_c ?kB ?kF ?kX ?kN ?kT ?kk ?kd ?ku ?_; (walk_at "mine sides"); intro e' D' tp' h' tk' i1' i2' u1' u2' u3' u4' F' N' Ne'; (try dsimp only); (try k_fold))))

section
/-- an exception of the program's own in flight or held: its dict, its head entry -/
def Fl (B : Heap) (l : List Env) (e D : Addr) (fl : Value) (h : Heap) : Prop :=
  B.StaysIn h ∧ B.get? e = none ∧ h.FunFrames B l ∧ ∃ tp T oT ts, h.get? e = some (excObj (some D) tp (.ref T)) ∧ B.get? T = none ∧ T ≠ e ∧ h.get? T = some oT ∧ oT.data = .fields ts ∧ ts[3]? = some fl
variable {M : Model} {A : Around} {E : Value → Shared → Prop} {s : Shared} {Q : Unit → Shared → Prop} {B : Heap} {env : Env} {outer : List Env} {L e D tp : Addr} {tb head : Value} {hadNext : Bool}
theorem entry_at (hfr : A.frames = some (env :: outer)) (hl : s.heap.FunFrames B (env :: outer)) (hf : env.frame = some L)
    (he : s.heap.get? e = some (excObj (some D) tp tb)) (hkb : B.StaysIn s.heap) (hen : B.get? e = none)
    (h : ∀ h', Fl B (env :: outer) e D (rawInt L) h' → s.heap.UpToSlots h' → Q () { s with heap := h' }) :
    wpAny M A (do let a ← frameOf env; let pl ← entryPlaceOf L hadNext; let b ← EntryCells.newEntry head a .none (rawInt L) .none pl; setField (.ref e) 1 b) Q E s := by
  have notFrame : e ∉ (env :: outer).filterMap (·.frame) := fun hm => by
    obtain ⟨_, o, ho, hnf⟩ := hl.mem hm
    rw [he] at ho
    cases ho
    exact hnf _ rfl
  refine wpAny_bind (wpAny_frameOf_fun hfr hl hf fun h₁ hs₁ => wpAny_bind (wpAny_entryPlaceOf fun pl hpl => ?_))
  unfold EntryCells.newEntry newFields
  refine wpAny_bind (wpAny_newObj_type ?_ (hpl.sizeOk5 _ _ _ _ _))
  generalize hts : ([head, Value.ref L, Value.none, rawInt L, Value.none] ++ (if pl.isEmpty then List.replicate 6 Value.none else pl)).toArray = ts
  have h3 : ts[3]? = some (rawInt L) := by rw [← hts]; simp
  have e1 : h₁.get? e = some (excObj (some D) tp tb) := (hs₁.2.1 e notFrame).trans he
  have eT : h₁.objs.size ≠ e := Nat.ne_of_gt (Heap.lt_size e1)
  have e2 := Heap.get?_push_of_some (h := h₁) ({ cls := .type "traceback", dict := none, data := .fields ts } : Obj) e1
  refine wpAny_setField e2 rfl (by show 1 < 6; decide) (h _ ?_ ?_)
  · have up : ∀ b o, b ≠ e → h₁.get? b = some o → ((h₁.push { cls := .type "traceback", dict := none, data := .fields ts }).update e (Obj.mapFields (·.setIfInBounds 1 (Value.ref h₁.objs.size)))).get? b = some o := fun b o nb hb =>
      (Heap.get?_update_other _ _ (Ne.symm nb)).trans (Heap.get?_push_of_some _ hb)
    have kb : B.StaysIn h₁ := fun b o hb => (hs₁.2.1 b fun hm => by rw [(hl.mem hm).1] at hb; cases hb).trans (hkb b o hb)
    refine ⟨fun b o hb => up b o (fun q => by rw [q, hen] at hb; cases hb) (kb b o hb), hen, hl.of_keeps fun b o hb hnf => ?_, tp, h₁.objs.size, { cls := .type "traceback", dict := none, data := .fields ts }, ts, ?_, kb.fresh, eT, ?_, rfl, h3⟩
    · obtain ⟨sl, hs⟩ := hs₁.2.2 b o hb
      exact ⟨_, up b _ (fun q => by rw [q, he] at hb; cases hb; exact hnf _ rfl) hs, rfl⟩
    · exact Heap.get?_update_self _ e2 rfl
    · exact (Heap.get?_update_other _ _ (Ne.symm eT)).trans (Heap.get?_push_size h₁ rfl)
  · intro b o hb hnf
    obtain ⟨sl, hs⟩ := hs₁.2.2 b o hb
    exact ⟨sl, (Heap.get?_update_other _ _ (fun q : e = b => by rw [← q, he] at hb; cases hb; exact hnf _ rfl)).trans (Heap.get?_push_of_some _ hs)⟩

theorem fl_land {l : List Env} {fl : Value} (hF : Fl B l e D fl s.heap) (h : ∀ h', Fl B l e D .none h' → s.heap.UpToSlots h' → Q () { s with heap := h' }) : wpAny M A (setFlight (.ref e) none) Q E s := by
  obtain ⟨hkb, hen, hl, tp, T, oT, ts, he, hnT, hTe, hT, hdT, h3⟩ := hF
  have z3 : 3 < ts.size := (Array.getElem?_eq_some_iff.mp h3).1
  have other : ∀ b, b ≠ T → (s.heap.update T (Obj.mapFields (·.setIfInBounds 3 Value.none))).get? b = s.heap.get? b := fun b hb => Heap.get?_update_other _ _ (Ne.symm hb)
  have notT : ∀ b o, s.heap.get? b = some o → (∀ vs, o.data ≠ .fields vs) → b ≠ T := fun b o hb hnf q => by
    rw [q, hT] at hb
    cases hb
    exact hnf ts hdT
  unfold setFlight
  refine wpAny_bind (wpAny_field he rfl (x := .ref T) rfl ?_)
  rw [if_pos (show (Value.ref T != Value.none) = true from by simp)]
  refine wpAny_setField hT hdT z3 (h _ ⟨fun b o hb => (other b fun q => by rw [q, hnT] at hb; cases hb).trans (hkb b o hb), hen, hl.of_keeps fun b o hb hnf => ⟨o, (other b (notT b o hb hnf)).trans hb, rfl⟩, tp, T, _, _, (other e (Ne.symm hTe)).trans he, hnT, hTe, Heap.get?_update_self _ hT (Obj.isFreed_of_fields (Obj.data_mapFields hdT _)), Obj.data_mapFields hdT _, by simp [z3]⟩
    fun b o hb hnf => ⟨o.slots, (other b (notT b o hb hnf)).trans hb⟩)

theorem fl_note (hfr : A.frames = some (env :: outer)) (hf : env.frame = some L) (hF : Fl B (env :: outer) e D .none s.heap)
    (h : ∀ h', Fl B (env :: outer) e D (rawInt L) h' → s.heap.UpToSlots h' → Q () { s with heap := h' }) : wpAny M A (noteFrame (.ref e) env) Q E s := by
  obtain ⟨hkb, hen, hl, tp, T, oT, ts, he, hnT, hTe, hT, hdT, h3⟩ := hF
  have z3 : 3 < ts.size := (Array.getElem?_eq_some_iff.mp h3).1
  have other : ∀ b, b ≠ T → (s.heap.update T (Obj.mapFields (·.setIfInBounds 3 Value.none))).get? b = s.heap.get? b := fun b hb => Heap.get?_update_other _ _ (Ne.symm hb)
  have notT : ∀ b o, s.heap.get? b = some o → (∀ vs, o.data ≠ .fields vs) → b ≠ T := fun b o hb hnf q => by
    rw [q, hT] at hb
    cases hb
    exact hnf ts hdT
  unfold noteFrame
  simp only [hf]
  refine wpAny_bind (wpAny_field he rfl (x := .ref T) rfl ?_)
  rw [if_pos (show (Value.ref T != Value.none) = true from by simp)]
  refine wpAny_bind (wpAny_field hT hdT h3 ?_)
  rw [if_neg (show ¬ ((Value.none == rawInt L) = true) from by simp [rawInt])]
  refine wpAny_bind (wpAny_setField hT hdT z3 ?_)
  exact entry_at hfr (hl.of_keeps fun b o hb hnf => ⟨o, (other b (notT b o hb hnf)).trans hb, rfl⟩) hf ((other e (Ne.symm hTe)).trans he) (fun b o hb => (other b fun q => by rw [q, hnT] at hb; cases hb).trans (hkb b o hb)) hen
    fun h' hF' hsm => h h' hF' (Heap.UpToSlots.trans (fun b o hb hnf => ⟨o.slots, (other b (notT b o hb hnf)).trans hb⟩) hsm)

theorem fl_note0 (hfr : A.frames = some (env :: outer)) (hf : env.frame = some L) (hl : s.heap.FunFrames B (env :: outer))
    (he : s.heap.get? e = some (excObj (some D) tp .none)) (hkb : B.StaysIn s.heap) (hen : B.get? e = none)
    (h : ∀ h', Fl B (env :: outer) e D (rawInt L) h' → s.heap.UpToSlots h' → Q () { s with heap := h' }) : wpAny M A (noteFrame (.ref e) env) Q E s := by
  unfold noteFrame
  simp only [hf]
  refine wpAny_bind (wpAny_field he rfl (x := .none) rfl ?_)
  rw [if_neg (by decide)]
  exact entry_at hfr hl hf he hkb hen h
theorem Fl.less (hF : Fl B (env :: outer) e D .none s.heap) : Fl B outer e D .none s.heap :=
  let ⟨a, b, ⟨_, _, c⟩, d⟩ := hF
  ⟨a, b, c, d⟩
end
section
/-- in flight from a frame whose ground is G, with the ledger news -/
def Flies (base G : Heap) (l : List Env) (e D : Addr) (news : List (Addr × Obj)) (h : Heap) : Prop :=
  ∃ B, base.StaysIn B ∧ (∀ b o, G.get? b = some o → b ∉ l.filterMap (·.frame) → B.get? b = some o) ∧ (∀ q ∈ news, B.get? q.1 = some q.2 ∧ G.get? q.1 = none ∧ base.get? q.1 = none) ∧ Fl B l e D .none h
variable {M : Model} {A : Around} {E : Value → Shared → Prop} {s' : Shared} {base g g₂ h : Heap} {outer : List Env} {L a e D tp : Addr} {m : Str → Option Value} {name : Str} {scope : Scope} {cd : Value} {Q : Unit → Shared → Prop} {news : List (Addr × Obj)}
theorem leave_first (K : Below A base outer g) (F : Fr g L s'.heap m) (N : News g L s'.heap ((e, excObj (some D) tp .none) :: news)) (hne : ∀ q ∈ news, q.1 ≠ e)
    (hQ : ∀ h', Flies base g outer e D news h' → g.UpToSlots h' → Q () { s' with heap := h' }) (hk : scope.kind = .function) :
    wpAny M (A.deeper (envOf name scope L a cd)) (leaving (envOf name scope L a cd) (.ref e)) Q E s' := by
  have K' := K.push (name := name) (a := a) (cd := cd) F hk
  have he := (N _ (.head _)).1
  have eNone : g.get? e = none := (N _ (.head _)).2.2
  have inF : ∀ env ∈ (envOf name scope L a cd :: outer), ∀ b, env.frame = some b → b ∈ e :: (envOf name scope L a cd :: outer).filterMap (·.frame) := fun env he b hb => .tail _ (List.mem_filterMap.mpr ⟨env, he, hb⟩)
  have frameOnly : ∀ b, b ∈ (envOf name scope L a cd :: outer).filterMap (·.frame) → ∀ o, s'.heap.get? b = some o → ∀ vs, o.data ≠ .fields vs := fun b hb o ho => by
    obtain ⟨_, o', ho', hnf⟩ := K'.frames.mem hb
    rw [ho] at ho'
    cases ho'
    exact hnf
  have st : base.StaysIn (hideAll s'.heap (e :: (envOf name scope L a cd :: outer).filterMap (·.frame))) := fun b o q => hideAll_get _ (K'.stays b o q) fun hm => by
    rcases List.mem_cons.mp hm with rfl | hm
    · rw [K.stays b o q] at eNone; cases eNone
    · rw [(K'.frames.mem hm).1] at q; cases q
  have sg : ∀ b o, g.get? b = some o → b ∉ outer.filterMap (·.frame) → (hideAll s'.heap (e :: (envOf name scope L a cd :: outer).filterMap (·.frame))).get? b = some o := fun b o q nm => hideAll_get _ (F.keep b o q) fun hm => by
    rcases List.mem_cons.mp hm with rfl | hm
    · rw [q] at eNone; cases eNone
    · rcases kts_mem hm with z | z
      · rw [z, kts_self F] at q; cases q
      · exact nm z
  have hl : ∀ q ∈ news, (hideAll s'.heap (e :: (envOf name scope L a cd :: outer).filterMap (·.frame))).get? q.1 = some q.2 ∧ g.get? q.1 = none ∧ base.get? q.1 = none := fun q hq => by
    obtain ⟨n1, n2, n3⟩ := N q (.tail _ hq)
    refine ⟨hideAll_get _ n1 fun hm => ?_, n3, fresh_of_stays K.stays n3⟩
    rcases List.mem_cons.mp hm with z | hm
    · exact hne q hq z
    · rcases kts_mem hm with z | z
      · exact n2 z
      · obtain ⟨o, ho, _⟩ := (K.frames.mem z).2
        rw [n3] at ho; cases ho
  have hb : (hideAll s'.heap (e :: (envOf name scope L a cd :: outer).filterMap (·.frame))).StaysIn s'.heap := fun b o q => of_hideAll _ q
  have eB : (hideAll s'.heap (e :: (envOf name scope L a cd :: outer).filterMap (·.frame))).get? e = none := hideAll_none _ (.head _)
  unfold leaving
  refine wpAny_bind (fl_note0 (B := hideAll s'.heap (e :: (envOf name scope L a cd :: outer).filterMap (·.frame))) K'.stack rfl (funFrames_hide K'.frames inF) he hb eB fun h₁ F₁ U₁ => ?_)
  refine fl_land F₁ fun h₂ F₂ U₂ => ?_
  exact hQ h₂ ⟨_, st, sg, hl, Fl.less (s := { s' with heap := h₂ }) F₂⟩ (((Heap.UpToSlots.of_keeps F.keep).trans U₁).trans U₂)

theorem leave_on (K : Below A base outer g) (F : Fr g L g₂ m) (R : Flies base g₂ (envOf name scope L a cd :: outer) e D news s'.heap) (hsm : g₂.UpToSlots s'.heap)
    (hQ : ∀ h', Flies base g outer e D news h' → g.UpToSlots h' → Q () { s' with heap := h' }) :
    wpAny M (A.deeper (envOf name scope L a cd)) (leaving (envOf name scope L a cd) (.ref e)) Q E s' := by
  obtain ⟨B, hB, hBG, hl, hfl⟩ := R
  unfold leaving
  refine wpAny_bind (fl_note (Around.frames_deeper K.stack) rfl hfl fun h₁ F₁ U₁ => ?_)
  refine fl_land F₁ fun h₂ F₂ U₂ => ?_
  exact hQ h₂ ⟨B, hB, fun b o q nm => hBG b o (F.keep b o q) (fun hm => by
      rcases kts_mem hm with z | z
      · rw [z, kts_self F] at q; cases q
      · exact nm z), fun q hq => ⟨(hl q hq).1, kts_none F.keep (hl q hq).2.1, (hl q hq).2.2⟩, Fl.less (s := { s' with heap := h₂ }) F₂⟩ (((Heap.UpToSlots.of_keeps F.keep).trans hsm).trans (U₁.trans U₂))
end

section
variable {prog : Program} {w : World} {A : Around} {env : Env} {E : Value → Shared → Prop} {s : Shared} {Q : Flow → Shared → Prop}
/-- what a raise wants of its value -/
def Thrown (E : Value → Shared → Prop) (v : Value) (s₁ : Shared) : Prop := ∃ e od tp, v = .ref e ∧ s₁.heap.get? 59 = some wfCls ∧ s₁.heap.get? e = some (excObj od tp .none) ∧ E (.ref e) s₁
theorem thrown_of {h₀ : Heap} {L e D tp : Addr} {m : Str → Option Value} {rest : List (Addr × Obj)} (F : Fr h₀ L s.heap m) (X : (hd.heap_39 w.params).In h₀) (N : News h₀ L s.heap ((e, excObj (some D) tp .none) :: rest)) (k : E (.ref e) s) : Thrown E (.ref e) s :=
  ⟨e, some D, tp, rfl, wf_at (X.keeps F.keep), (N _ (.head _)).1, k⟩
theorem raise_stmt {x : Sem Value} (hh : A.handled = none) (h : wpAny (model prog w) A x (Thrown E) E s) : wpAny (model prog w) A (raiseStmt env (some x) none) Q E s := by
  have hcB : (Value.ref 59 :: wfTail).contains (.type "BaseException") = true := by decide +kernel
  unfold raiseStmt
  refine wpAny_bind (wpAny_mono h (fun v s₁ h₁ => ?_) fun _ _ x => x)
  obtain ⟨e, od, tp, rfl, hC, he, hE⟩ := h₁
  obtain ⟨hp, g, d, tk, os⟩ := s₁
  repeat (first | with_reducible refine wpAny_loadPart_at he ?_ | with_reducible refine wpAny_loadPart_at hC ?_ | (with_reducible refine wpAny_isSubtype_exc hC ?_; rw [hcB]) | wp_step)
  exact wpAny_raiseNew_none hh hE
theorem raise_own {x : Expr} {pos : Pos} (hh : A.handled = none) (h : wpAny (model prog w) A (eval x env) (Thrown E) E s) : wpAny (model prog w) A (exec (.Raise (some x) none pos) env) Q E s := by
  rw [arm_exec_Raise]
  first
    | exact wpAny_bind (wpAny_standAt (raise_stmt hh (wpAny_bind (wpAny_mono h (fun v s₃ h₃ => wpAny_bind (wpAny_standAt (wpAny_pure h₃))) fun _ _ x => x))))
    | (simp only [evalOpt, Option.map]; exact wpAny_bind (wpAny_standAt (raise_stmt hh (wpAny_bind (wpAny_mono h (fun v s₃ h₃ => wpAny_bind (wpAny_standAt (wpAny_pure h₃))) fun _ _ x => x)))))
end
section
variable {w : World} {A₀ : Around} {E : Value → Shared → Prop} {s' : Shared} {base G h₀ : Heap} {L a e D : Addr} {dct : Obj} {m mg mb : Str → Option Value} {name : Str} {scope : Scope} {cd : Value}
  {n : Str} {b₀ : Stmt} {suite : List Stmt} {pos : Pos} {rest : List ExceptHandler} {Q : Flow → Shared → Prop} {tt : Expr} {p : Program} {loose : List Str} {mean : ExcName → Option Value}
theorem flies_fr {B h : Heap} {fl : Value} (F : Fr h₀ L G m) (hBG : ∀ b o, G.get? b = some o → b ∉ [envOf name scope L a cd].filterMap (·.frame) → B.get? b = some o) (hF : Fl B [envOf name scope L a cd] e D fl h) (hsm : G.UpToSlots h) : Fr h₀ L h m :=
  ⟨hsm.ns F.ns, fun b o q => hF.1 b o (hBG b o (F.keep b o q) (fun hm => by
    rcases kts_mem hm with z | z
    · rw [z, kts_self F] at q; cases q
    · simp at z)), F.above⟩
theorem flies_news {B h : Heap} {fl : Value} (F : Fr h₀ L G m) (hBG : ∀ b o, G.get? b = some o → b ∉ [envOf name scope L a cd].filterMap (·.frame) → B.get? b = some o) (hD : B.get? D = some dct) (hDG : G.get? D = none) (hF : Fl B [envOf name scope L a cd] e D fl h) :
    ∃ tp tb, News h₀ L h [(e, excObj (some D) tp tb), (D, dct)] := by
  obtain ⟨hkb, hen, ⟨_, ⟨L', o, hf, hnL, ho, hnf⟩, _⟩, tp, T, oT, ts, he, _⟩ := hF
  obtain rfl : L = L' := Option.some.inj hf
  refine ⟨tp, .ref T, fun q hq => ?_⟩
  rcases List.mem_cons.mp hq with rfl | hq
  · refine ⟨he, fun z : e = L => ?_, ?_⟩
    · rw [z, ho] at he
      cases he
      exact hnf _ rfl
    · cases z : h₀.get? e with
      | none => rfl
      | some o' =>
        have := hBG e o' (F.keep _ _ z) (fun hm => by
          rcases kts_mem hm with y | y
          · rw [y, kts_self F] at z; cases z
          · simp at y)
        rw [hen] at this; cases this
  · rw [List.mem_singleton.mp hq]
    refine ⟨hkb _ _ hD, fun z : D = L => ?_, kts_none F.keep hDG⟩
    rw [z, hnL] at hD; cases hD

theorem caught_own (K : Below A₀ base [] h₀) (F : Fr h₀ L G m) (R : Flies base G [envOf name scope L a cd] e D [(D, dct)] s'.heap) (hsm : G.UpToSlots s'.heap) (X₀ : (hd.heap_39 w.params).In h₀) (TB : Top p loose mean mg mb h₀)
    (T : KtsTest PySem.Challenge.rw_or0032_01.row.prog w (hd.heap_39 w.params) p loose mg mb name scope L a cd (.ref 59) tt true)
    (k : ∀ h' tp tb tk, Fr h₀ L h' (fun y => if y = n then some (.ref e) else m y) → News h₀ L h' [(e, excObj (some D) tp tb), (D, dct)] →
      wpAny (model PySem.Challenge.rw_or0032_01.row.prog w) ((A₀.deeper (envOf name scope L a cd)).mark (some (.ref e))) (execs (b₀ :: suite) (envOf name scope L a cd))
        (fun f s₄ => wpAny (model PySem.Challenge.rw_or0032_01.row.prog w) (A₀.deeper (envOf name scope L a cd)) (do bindName (envOf name scope L a cd) n .none; unbindBehindTheSuite (envOf name scope L a cd) n pos) (fun _ s₅ => Q f s₅) E s₄)
        (AsSuiteRaised (model PySem.Challenge.rw_or0032_01.row.prog w) ((A₀.deeper (envOf name scope L a cd)).mark (some (.ref e))) (envOf name scope L a cd) n pos (notedBy (model PySem.Challenge.rw_or0032_01.row.prog w) ((A₀.deeper (envOf name scope L a cd)).mark (some (.ref e))) (envOf name scope L a cd) (cameBackBy (model PySem.Challenge.rw_or0032_01.row.prog w) (A₀.deeper (envOf name scope L a cd)) (envOf name scope L a cd) E)))
        { s' with heap := h', toks := tk })
    (hk : scope.kind = .function) (hlo : (envOf name scope L a cd).kindOf n = some .local) :
    wpAny (model PySem.Challenge.rw_or0032_01.row.prog w) (A₀.deeper (envOf name scope L a cd)) (noteFrame (.ref e) (envOf name scope L a cd))
      (fun _ s₂ => wpAny (model PySem.Challenge.rw_or0032_01.row.prog w) (A₀.deeper (envOf name scope L a cd)) (setFlight (.ref e) none) (fun _ s₃ =>
        wpAny (model PySem.Challenge.rw_or0032_01.row.prog w) (A₀.deeper (envOf name scope L a cd)) (handleBy (.ref e) (envOf name scope L a cd) (.ExceptHandler (some tt) (some n) (b₀ :: suite) pos :: rest)) Q E s₃) E s₂) E s' := by
  obtain ⟨B, hB, hBG, hl, hfl⟩ := R
  obtain ⟨hD, hDG, _⟩ := hl _ (.head _)
  refine fl_note (Around.frames_deeper K.stack) rfl hfl fun h₁ F₁ U₁ => ?_
  refine fl_land F₁ fun h₂ F₂ U₂ => ?_
  have hsm₂ := hsm.trans (U₁.trans U₂)
  have LT : Looks (model PySem.Challenge.rw_or0032_01.row.prog w) h₂ (typeOf (.ref e)) (.ref 59) := by
    obtain ⟨_, _, _, tp, T, oT, ts, he, _⟩ := F₂
    exact (Looks.ld he).andThen .now
  refine wpAny_handleBy_cons (codeAny_handlers_test (T _ _ _ _ h₀ e m (flies_fr F hBG F₂ hsm₂) X₀ (topRead_of TB) LT fun h₅ kp => ?_)) (by intro q; cases q)
  have F₅ : Fl B [envOf name scope L a cd] e D .none h₅ := by
    obtain ⟨f1, f2, f3, tp, T, oT, ts, he, hnT, hTe, hT, hdT, h3⟩ := F₂
    exact ⟨fun b o q => kp b o (f1 b o q), f2, f3.of_keeps fun b o q _ => ⟨o, kp b o q, rfl⟩, tp, T, oT, ts, kp _ _ he, hnT, hTe, kp _ _ hT, hdT, h3⟩
  have hsm₅ : G.UpToSlots h₅ := hsm₂.trans (Heap.UpToSlots.of_keeps kp)
  refine codeAny_handlers_suite_as ?_
  refine fl_land F₅ fun h₆ F₆ U₆ => ?_
  obtain ⟨tp, tb, N₆⟩ := flies_news F hBG hD hDG F₆
  refine stN (flies_fr F hBG F₆ (hsm₅.trans U₆)) N₆ (fun h₇ F₇ N₇ => ?_) hk hlo
  exact k h₇ tp tb _ F₇ N₇
end

section
variable {w : World} {A : Around} {E : Value → Shared → Prop} {Q : Value → Shared → Prop} {h₀ : Heap} {L : Addr} {m : Str → Option Value} {s : Shared} {rest : List (Addr × Obj)} {e tp D : Addr} {tb v : Value} {od : Obj} {name : Str} {expr : Bool}
theorem ga_kind : builtinKind "BaseException.__getattribute__" = some .slot := by decide +kernel
theorem ga_split : splitId "BaseException.__getattribute__" = some ("BaseException", "__getattribute__") := by decide +kernel
set_option maxHeartbeats 400000 in
open Builtin Builtin.ObjectAttr in
theorem exc_get_c (F : Fr h₀ L s.heap m) (X : (hd.heap_39 w.params).In h₀) (N : News h₀ L s.heap ((e, excObj (some D) tp tb) :: (D, od) :: rest))
    (hf : findObj (hd.heap_39 w.params) 59 (some od) name = some (.value v)) (hh : handedIn v = true)
    (h : Q v { s with toks := s.toks + 1 }) : wpAny (model PySem.Challenge.rw_or0032_01.row.prog w) A (getAttr (.ref e) name expr) Q E s := by
  w_top off
  k_with_none
  revert X; k_fill; intro X
  have X' := X.keeps F.keep
  have he := (N _ (.head _)).1
  have hD := (N _ (.tail _ (.head _))).1
  have I : InstAt s.heap e (excObj (some D) tp tb) 59 (some od) := ⟨he, rfl, rfl, hD⟩
  obtain ⟨hh', g, d, t, os⟩ := s
  have L0 := I.type (M := model PySem.Challenge.rw_or0032_01.row.prog w)
  have L1 := looks_find (M := model PySem.Challenge.rw_or0032_01.row.prog w) X' I hf
  have L2 := looks_findIn (M := model PySem.Challenge.rw_or0032_01.row.prog w) X' (t := .ref 59) (name := "__getattribute__") (r := some (.builtin "BaseException.__getattribute__")) (by k_is)
  have L3 := looks_findIn (M := model PySem.Challenge.rw_or0032_01.row.prog w) X' (t := .ref 59) (name := "__getattr__") (r := none) (by k_is)
  have L4 : Looks (model PySem.Challenge.rw_or0032_01.row.prog w) hh' (isInstance (.ref e) (.type "BaseException")) true := L0.andThen (looks_subIn X' (by k_is))
  dsimp only at L0 L1 L2 L3 L4 he hD
  have f3 := PySem.F.attr_Exception.ga.bind (.ref e)
  have hx0 : (expr && onTheHeap (Value.builtin "BaseException.__getattribute__")) = false := by cases expr <;> rfl
  have hx2 : (Value.builtin "BaseException.__getattribute__" == Value.builtin "object.__getattribute__") = false := by decide +kernel
  have hx1 : (onTheHeap (Value.ref 59) && Value.builtin "BaseException.__getattribute__" == Value.builtin "object.__getattribute__") = false := by rw [hx2]; rfl
  unfold getAttr getAttrBy
  refine wpAny_bind (wpAny_mkText (wpAny_holding (wpAny_bind (L0.at (wpAny_bind (L2.at ?_))))))
  dsimp only
  rw [hx1, if_neg Bool.false_ne_true]
  unfold getAttrByItsOwn hookBefore callGetattribute
  rw [hx0]
  rw [if_pos (show onTheHeap (Value.ref 59) = true from rfl), if_neg Bool.false_ne_true]
  unfold boundAndCalled
  rw [f3]
  refine wpAny_bind (L3.at (wpAny_bind (wpAny_attempt (wpAny_holding (wpAny_bind (wpAny_pure ?_))))))
  refine wpAny_call (codeAny_call_builtin PySem.F.attr_Exception.ga.plain PySem.F.entry_bexc_ga (@check_slot (model PySem.Challenge.rw_or0032_01.row.prog w) _ _ ⟨hh', g, d, t + 1, os⟩ "BaseException.__getattribute__" "BaseException" "__getattribute__" (.ref e) [.str name t] [] _ ga_kind ga_split L4 (PySem.F.args_bexc_ga (.ref e) (.str name t)) ?_))
  unfold Builtin.«object.__getattribute__»
  repeat lk
  show wpAny _ _ (handedOut v) _ _ _
  rw [handedOut_of hh]; exact wpAny_pure h
end
local macro_rules | `(tactic| walk_at "getAttr ref") => `(tactic| (k_here; k_dflt (refine' exc_get_c ?kF ?kX ?kN ?kf ?kh ?_; (case kF => k_asm); (case kX => k_asm); (case kN => k_asm); (case kf => exact rfl); (case kh => exact rfl); k_whole; (try dsimp only))))
local macro_rules | `(tactic| walk_at "exec Raise some none") => `(tactic| (k_here; k_dflt (refine' raise_own ?kh ?_; (case kh => exact rfl))))
local macro_rules | `(tactic| walk_at "Thrown") => `(tactic| (k_here; k_dflt (refine' thrown_of ?kF ?kX ?kN ?_; (case kF => k_asm); (case kX => k_asm); (case kN => k_asm); k_whole)))
local macro_rules | `(tactic| walk_at "leaving ref") => `(tactic| (k_here; k_dflt (refine' leave_first ?kK ?kF ?kN ?kne ?_ ?hk; (case kK => k_asm); (case kF => k_asm); (case kN => k_asm); (case kne => assumption); (case hk => exact rfl); k_whole; intro h' R' U'; (try dsimp only))))
local macro_rules | `(tactic| walk_at "leaving ref") => `(tactic| (k_here; k_dflt (refine' leave_on ?kK ?kF ?kR ?kU ?_; (case kR => assumption); (case kK => k_asm); (case kF => k_asm); (case kU => assumption); k_whole; intro h' R' U'; (try dsimp only))))

def good (fs : List Int) : Bool := (decide (fs.length = 1) || decide (fs.getD 0 0 ≠ 48)) && decide (1 ≤ valOf fs) && decide (valOf fs ≤ 4294967295)
theorem good_iff {fs : List Int} : good fs = true ↔ (fs.length = 1 ∨ fs.getD 0 0 ≠ 48) ∧ 1 ≤ valOf fs ∧ valOf fs ≤ 4294967295 := by
  unfold good
  simp only [Bool.and_eq_true, Bool.or_eq_true, decide_eq_true_eq, and_assoc]
theorem good_not {fs : List Int} (h : ¬ ((fs.length = 1 ∨ fs.getD 0 0 ≠ 48) ∧ 1 ≤ valOf fs ∧ valOf fs ≤ 4294967295)) : good fs = false := Bool.eq_false_iff.mpr fun g => h (good_iff.mp g)
abbrev faultD (i1 i2 : Int) (u1 u2 u3 u4 : Tok) (x : Int) : Obj := dictOf [⟨i1, .str (Str.ofString "what") u1, .str (Str.ofString "no number of a section") u2⟩, ⟨i2, .str (Str.ofString "at") u3, .int x u4⟩] 2
theorem flies_head {base G : Heap} {l : List Env} {e D : Addr} {x : Addr × Obj} {news : List (Addr × Obj)} {h : Heap} (R : Flies base G l e D (x :: news) h) : Flies base G l e D [x] h :=
  let ⟨B, a, b, c, d⟩ := R
  ⟨B, a, b, fun q hq => c q (by rw [List.mem_singleton.mp hq]; exact .head _), d⟩
section
variable {w : World} {mean : ExcName → Option Value} {mg mb : Str → Option Value} {dp un : Nat} {gd : Option (List Code)} {cn : Str} {cs : Scope} {a : Addr} {ccd : Value} {cl : List (Str × Addr)} {outer : List Env} {A₀ : Around} {base h₀ : Heap} {L : Addr} {m : Str → Option Value} {s : Shared} {Q E : Value → Shared → Prop}
variable {c dc : Addr} {own : List (Addr × Obj)} {h1 h2 h3 : Int} {k1 k2 k3 : Tok} {d : Array UInt8} {td : Tok} {i : Int} {ti te : Tok} {ks : List Int}
set_option maxRecDepth 100000 in
set_option maxHeartbeats 8000000 in
theorem take_number_c {fs : List Int} {tk : Tok}
    (B : Below A₀ base outer h₀) (F : Fr h₀ L s.heap m) (X : (hd.heap_39 w.params).In h₀)
    (N : News h₀ L s.heap ((c, instObj 164 dc) :: (dc, curO h1 h2 h3 k1 k2 k3 d td i ti (ks.length : Int) te) :: own))
    (O : OwnOff own [c, dc]) (hcd : @LT.lt Nat _ dc c)
    (T : Top hd.view_39 (looseW hd.view_39 [Str.ofString "PostError"]) mean mg mb h₀) (hk : cs.kind = .function)
    (hdp : dp + 6 < recursionLimit) (hu : un + 48 < cLine)
    (hI : KBw.bInts d = ks) (hlen : ks.length ≤ 1000) (h0 : 0 ≤ i) (h1000 : i < (ks.length : Int)) (R : RunAt ks i fs)
    (ret : good fs = true → ∀ (t ti' : Tok) (h' : Heap) (tk' : Nat), Fr h₀ L h' m → News h₀ L h' ((c, instObj 164 dc) :: (dc, curO h1 h2 h3 k1 k2 k3 d td (i + (fs.length : Int)) ti' (ks.length : Int) te) :: own) → Q (.int (valOf fs) t) { s with heap := h', toks := tk' })
    (exc : good fs = false → ∀ (e D : Addr) (g h' : Heap) (tk' : Nat) (i1 i2 : Int) (u1 u2 u3 u4 : Tok), Fr h₀ L g m → Flies base g (envX cn cs L a ccd cl :: outer) e D [(D, faultD i1 i2 u1 u2 u3 u4 i)] h' → g.UpToSlots h' → E (.ref e) { s with heap := h', toks := tk' }) :
    wpAny (model PySem.Challenge.rw_or0032_01.row.prog w) (ktrTop dp un gd cn cs L a ccd cl outer) (call (.ref 68) [.ref c, .int 1 tk]) Q E s := by
  w_top off
  k_with_none
  revert X; k_fill; intro X
  have hfew := R.few
  have hsome := R.some
  have e0 : ks.getD i.toNat 0 = fs.getD 0 0 := by
    have := (R.at_ 0 hsome).1
    rw [show i + ((0 : Nat) : Int) = i by omega, pk_of ks i h1000] at this
    exact this
  k_with_none
  refine wpAny_call ?_
  k_dflt (walk_at "mine enter")
  k_steps
  all_goals first
    | exact ret (good_iff.mpr ⟨by first | (left; omega) | (right; rw [← e0]; assumption), by assumption, by assumption⟩) _ _ _ _ (by k_asm) (by k_asm)
    | (exfalso; omega)
    | exact exc (good_not fun z => by (rw [← e0] at z; omega)) _ _ _ _ _ _ _ _ _ _ _ (by k_asm) (flies_head (by assumption)) (by assumption)
end
local macro_rules | `(tactic| walk_at "call ref") => `(tactic| (k_here; (with_reducible show wpAny _ _ (call (Value.ref 68) _) _ _ _); k_dflt (
  refine' take_number_c ?kB ?kF ?kX ?kN ?kO ?kc ?kT ?kk ?kd ?ku ?kI ?kl ?k0 ?k1 ?kR ?_ ?_; (walk_at "mine sides"); (case kO => first | assumption | exact OffAll.off (by assumption)); (case kc => assumption); (case kI => assumption); (case kR => assumption); (case kl => omega); (case k0 => omega); (case k1 => omega);
  rotate_left; (intro gd' e' D' g' h' tk' i1' i2' u1' u2' u3' u4' F' R' U'; (try dsimp only); (try k_fold)); rotate_left; (intro gd' t' ti' h' tk' F' N'; (try dsimp only); (try k_fold)))))

/-- what stands behind a number: points with runs behind them, then neither -/
def Tail (ks : List Int) : Int → List (List Int) → Prop
  | p, [] => ¬ (pk ks p = 46 ∧ fig (pk ks (p + 1)) = true)
  | p, f :: r => pk ks p = 46 ∧ RunAt ks (p + 1) f ∧ Tail ks (p + 1 + (f.length : Int)) r
def endT : Int → List (List Int) → Int
  | p, [] => p
  | p, f :: r => endT (p + 1 + (f.length : Int)) r
def badT : Int → List (List Int) → Option Int
  | _, [] => none
  | p, f :: r => if good f = true then badT (p + 1 + (f.length : Int)) r else some (p + 1)
def PathAt (ks : List Int) (i : Int) : List (List Int) → Prop
  | [] => fig (pk ks i) = false
  | f :: r => RunAt ks i f ∧ Tail ks (i + (f.length : Int)) r
def pathEnd (i : Int) : List (List Int) → Int
  | [] => i
  | f :: r => endT (i + (f.length : Int)) r
def pathBad (i : Int) : List (List Int) → Option Int
  | [] => none
  | f :: r => if good f = true then badT (i + (f.length : Int)) r else some i
theorem pk_lt {ks : List Int} {i : Int} (h : 0 ≤ pk ks i) : i < (ks.length : Int) := by
  unfold pk at h
  split at h
  · assumption
  · omega
theorem run_fig {ks : List Int} {i : Int} {f : List Int} (R : RunAt ks i f) : fig (pk ks i) = true := by
  have := R.at_ 0 R.some
  rw [show i + ((0 : Nat) : Int) = i by omega] at this
  unfold fig
  rw [this.1]
  rw [decide_eq_true this.2.1, decide_eq_true this.2.2]; rfl
theorem run_lt {ks : List Int} {i : Int} {f : List Int} (R : RunAt ks i f) : i < (ks.length : Int) ∧ i + (f.length : Int) ≤ (ks.length : Int) := by
  have h0 := R.at_ 0 R.some
  have hs := R.some
  have h1 := R.at_ (f.length - 1) (by omega)
  have a := pk_lt (ks := ks) (i := i + ((0 : Nat) : Int)) (by omega)
  have b := pk_lt (ks := ks) (i := i + ((f.length - 1 : Nat) : Int)) (by omega)
  omega
section
variable {w : World} {A : Around} {E Q : Value → Shared → Prop} {h₀ : Heap} {L : Addr} {m : Str → Option Value} {s : Shared} {c dc : Addr} {o1 o2 : Obj} {own : List (Addr × Obj)}
theorem new_list_c (F : Fr h₀ L s.heap m) (N : News h₀ L s.heap ((c, o1) :: (dc, o2) :: own)) (O : OwnOff own [c, dc])
    (h : ∀ lf h', Fr h₀ L h' m → News h₀ L h' ((c, o1) :: (dc, o2) :: (lf, listOf ([] : List Value).toArray 0) :: own) → OwnOff own [c, dc, lf] → OffAll lf own c dc → @LT.lt Nat _ c lf → @LT.lt Nat _ dc lf → Q (.ref lf) { s with heap := h' }) :
    wpAny (model PySem.Challenge.rw_or0032_01.row.prog w) A (newList []) Q E s := by
  have lc : @LT.lt Nat _ c s.heap.objs.size := Heap.lt_size (N _ (.head _)).1
  have ld : @LT.lt Nat _ dc s.heap.objs.size := Heap.lt_size (N _ (.tail _ (.head _))).1
  refine newList_N F N fun h' F' N' => h _ h' F' (fun p hp => N' p ?_) ?_ ?_ lc ld
  · rcases List.mem_cons.mp hp with rfl | hp
    · exact .tail _ (.head _)
    · rcases List.mem_cons.mp hp with rfl | hp
      · exact .tail _ (.tail _ (.head _))
      · rcases List.mem_cons.mp hp with rfl | hp
        · exact .head _
        · exact .tail _ (.tail _ (.tail _ hp))
  · intro p hp b hb
    have lp : @LT.lt Nat _ p.1 s.heap.objs.size := Heap.lt_size (N p (.tail _ (.tail _ hp))).1
    rcases List.mem_cons.mp hb with rfl | hb
    · exact O p hp _ (.head _)
    · rcases List.mem_cons.mp hb with rfl | hb
      · exact O p hp _ (.tail _ (.head _))
      · rw [List.mem_singleton.mp hb]; exact Nat.ne_of_lt lp
  · intro x p hp b hb
    rcases List.mem_cons.mp hp with rfl | hp
    · rcases List.mem_cons.mp hb with rfl | hb
      · exact Nat.ne_of_gt lc
      · rw [List.mem_singleton.mp hb]; exact Nat.ne_of_gt ld
    · exact O p hp b hb
end

abbrev pathM0 (c lf : Addr) : Str → Option Value := fun y => if y = Str.ofString "found" then some (.ref lf) else if y = Str.ofString "cursor" then some (.ref c) else none
structure PathJ (c dc lf : Addr) (own : List (Addr × Obj)) (h1 h2 h3 : Int) (k1 k2 k3 : Tok) (d : Array UInt8) (td te : Tok) (ks : List Int) (all : List Int) (en : Int) (bad : Option Int) (n : Nat) (m : Str → Option Value) (nw : List (Addr × Obj)) (x : Int) (tx : Tok) (vs : List Value) (nn : Nat) (ds : List Int) (rem : List (List Int)) : Prop where
  hm : m = pathM0 c lf
  hn : nw = (c, instObj 164 dc) :: (dc, curO h1 h2 h3 k1 k2 k3 d td x tx (ks.length : Int) te) :: (lf, listOf vs.toArray nn) :: own
  vals_ : IntsAre vs ds
  few : vs.length + rem.length ≤ 100
  lo : 0 ≤ x
  hi : x ≤ (ks.length : Int)
  tail : Tail ks x rem
  all_ : ds ++ rem.map valOf = all
  en_ : endT x rem = en
  bad_ : badT x rem = bad
  ms : n = rem.length
theorem news_drop4 {h₀ h : Heap} {L : Addr} {a b c d : Addr × Obj} {news : List (Addr × Obj)} (N : News h₀ L h (a :: b :: c :: d :: news)) : News h₀ L h (a :: b :: c :: news) := news_fewer N fun p hp => by
  rcases List.mem_cons.mp hp with rfl | hp
  · exact .head _
  · rcases List.mem_cons.mp hp with rfl | hp
    · exact .tail _ (.head _)
    · rcases List.mem_cons.mp hp with rfl | hp
      · exact .tail _ (.tail _ (.head _))
      · exact .tail _ (.tail _ (.tail _ (.tail _ hp)))
theorem news_pushed_ {h₀ h : Heap} {L lf : Addr} {a b : Addr × Obj} {vs : List Value} {v : Value} {nn : Nat} {own : List (Addr × Obj)} (N : News h₀ L h (a :: b :: (lf, listOf (vs.toArray.push v) nn) :: own)) : News h₀ L h (a :: b :: (lf, listOf (vs ++ [v]).toArray nn) :: own) := by rwa [List.push_toArray] at N
theorem ints_snoc {vs : List Value} {ds : List Int} {z : Int} {t : Tok} (h : IntsAre vs ds) : IntsAre (vs ++ [.int z t]) (ds ++ [z]) := by
  induction h with
  | nil => exact .cons _ _ .nil
  | cons z t _ ih => exact .cons _ _ ih
theorem pathBad_ok {i : Int} {f : List Int} {r : List (List Int)} (h : good f = true) : badT (i + (f.length : Int)) r = pathBad i (f :: r) := (if_pos h).symm
theorem pathBad_no {i : Int} {f : List Int} {r : List (List Int)} (h : good f = false) : pathBad i (f :: r) = some i := if_neg (by rw [h]; exact Bool.false_ne_true)
theorem badT_ok {i : Int} {f : List Int} {r : List (List Int)} {b : Option Int} (h : good f = true) (e : badT i (f :: r) = b) : badT (i + 1 + (f.length : Int)) r = b := e ▸ (if_pos h).symm
theorem badT_no {i : Int} {f : List Int} {r : List (List Int)} {b : Option Int} (h : good f = false) (e : badT i (f :: r) = b) : b = some (i + 1) := e ▸ if_neg (by rw [h]; exact Bool.false_ne_true)
theorem path_m {c lf : Addr} {m : Str → Option Value} (h : m = fun y => if y = Str.ofString "found" then some (.ref lf) else ([(Str.ofString "cursor", Value.ref c)] : List (Str × Value)).reverse.lookup y) : m = pathM0 c lf := by
  rw [h]
  funext y
  by_cases e1 : y = Str.ofString "found"
  · simp only [pathM0]; rw [if_pos e1, if_pos e1]
  · simp only [pathM0]; rw [if_neg e1, if_neg e1]
    by_cases e2 : y = Str.ofString "cursor"
    · rw [if_pos e2, e2]; rfl
    · rw [if_neg e2]
      have e4 : (y == Str.ofString "cursor") = false := beq_eq_false_iff_ne.mpr e2
      show List.lookup y [(Str.ofString "cursor", Value.ref c)] = none
      simp only [List.lookup, e4]
section
variable {w : World} {mean : ExcName → Option Value} {mg mb : Str → Option Value} {dp un : Nat} {gd : Option (List Code)} {cn : Str} {cs : Scope} {a : Addr} {ccd : Value} {cl : List (Str × Addr)} {outer : List Env} {A₀ : Around} {base h₀ : Heap} {L : Addr} {m : Str → Option Value} {s : Shared} {Q E : Value → Shared → Prop}
variable {c dc : Addr} {own : List (Addr × Obj)} {h1 h2 h3 : Int} {k1 k2 k3 : Tok} {d : Array UInt8} {td : Tok} {i : Int} {ti te : Tok} {ks : List Int}
set_option maxRecDepth 100000 in
set_option maxHeartbeats 8000000 in
theorem take_path_c {fss : List (List Int)}
    (B : Below A₀ base outer h₀) (F : Fr h₀ L s.heap m) (X : (hd.heap_39 w.params).In h₀)
    (N : News h₀ L s.heap ((c, instObj 164 dc) :: (dc, curO h1 h2 h3 k1 k2 k3 d td i ti (ks.length : Int) te) :: own))
    (O : OwnOff own [c, dc]) (hcd : @LT.lt Nat _ dc c)
    (T : Top hd.view_39 (looseW hd.view_39 [Str.ofString "PostError"]) mean mg mb h₀) (hk : cs.kind = .function)
    (hdp : dp + 10 < recursionLimit) (hu : un + 80 < cLine)
    (hI : KBw.bInts d = ks) (hlen : ks.length ≤ 999) (h0 : 0 ≤ i) (h1000 : i ≤ (ks.length : Int)) (hfss : fss.length ≤ 90) (P : PathAt ks i fss)
    (ret : pathBad i fss = none → ∀ (tup : Addr) (vs : List Value) (ti' : Tok) (h' : Heap) (tk' : Nat), IntsAre vs (fss.map valOf) → Fr h₀ L h' m → News h₀ L h' ((tup, tupObj vs) :: (c, instObj 164 dc) :: (dc, curO h1 h2 h3 k1 k2 k3 d td (pathEnd i fss) ti' (ks.length : Int) te) :: own) → Q (.ref tup) { s with heap := h', toks := tk' })
    (exc : ∀ x, pathBad i fss = some x → ∀ (e D : Addr) (g h' : Heap) (tk' : Nat) (i1 i2 : Int) (u1 u2 u3 u4 : Tok), Fr h₀ L g m → Flies base g (envX cn cs L a ccd cl :: outer) e D [(D, faultD i1 i2 u1 u2 u3 u4 x)] h' → g.UpToSlots h' → E (.ref e) { s with heap := h', toks := tk' }) :
    wpAny (model PySem.Challenge.rw_or0032_01.row.prog w) (ktrTop dp un gd cn cs L a ccd cl outer) (call (.ref 82) [.ref c]) Q E s := by
  w_top off
  k_with_none
  revert X; k_fill; intro X
  k_with_none
  k_with "newList" => (k_here; k_dflt (refine' new_list_c ?kF ?kN ?kO ?_; (case kF => k_asm); (case kN => k_asm); (case kO => assumption); k_whole; intro lf h' F' N' O' OA' l1 l2; (try dsimp only); (try k_sweep)))
  cases fss with
  | nil =>
    have hf : fig (pk ks i) = false := P
    refine wpAny_call ?_
    k_dflt (walk_at "mine enter")
    k_steps
    exact ret rfl _ [] _ _ _ .nil (by k_asm) (news_drop4 (by k_asm))
  | cons f r =>
    obtain ⟨R, hT⟩ := P
    have hfig := run_fig R
    have hlt := run_lt R
    have hsome := R.some
    have hr : r.length ≤ 89 := by rw [List.length_cons] at hfss; omega
    (k_with "exec While BoolOp cons nil" => ((rename Fr _ _ _ _ => lF); (rename News _ _ _ _ => lN); (refine While_inv2 (n₀ := r.length) (fun n m nw => ∃ x tx vs nn ds rem, PathJ c dc lf own h1 h2 h3 k1 k2 k3 d td te ks ((f :: r).map valOf) (pathEnd i (f :: r)) (pathBad i (f :: r)) n m nw x tx vs nn ds rem) lF lN ?start ?turn); (clear lF lN); (case start => exact ⟨_, _, [_], _, [valOf f], r, ⟨path_m rfl, rfl, .cons _ _ .nil, (by simp; omega), by omega, by omega, hT, rfl, rfl, pathBad_ok (by assumption), rfl⟩⟩); (case' turn => (rintro n m nw h1' tk1' F' N' ⟨x, tx, vs, nn, ds, rem, J⟩; (obtain ⟨rfl, rfl, Jvals, Jfew, Jlo, Jhi, Jt, Jall, Jen, Jbad, Jms⟩ := J); (have Jlen := IntsAre.length Jvals); rcases rem with _ | ⟨f2, r2⟩; (try k_fold); rotate_left; (obtain ⟨h46, R2, T2⟩ := Jt); (have hlt2 := run_lt R2); (have hfig2 := run_fig R2); (have hs2 := R2.some); (rw [List.length_cons] at Jfew Jms); (try k_fold); rotate_right))))
    refine wpAny_call ?_
    k_dflt (walk_at "mine enter")
    k_steps
    all_goals first
      | (exfalso; exact Jt ⟨by assumption, by assumption⟩)
      | exact exc _ (pathBad_no (by assumption)) _ _ _ _ _ _ _ _ _ _ _ (by k_asm) (by assumption) (by assumption)
      | exact exc _ (badT_no (by assumption) Jbad) _ _ _ _ _ _ _ _ _ _ _ (by k_asm) (by assumption) (by assumption)
      | (have e : x = pathEnd i (f :: r) := Jen
         rw [← e] at ret
         exact ret Jbad.symm _ _ _ _ _ (by rw [← Jall]; simpa using Jvals) (by k_asm) (news_drop4 (by k_asm)))
      | exact ⟨_, _, _, _, r2.length, rfl, by k_asm, news_pushed_ (by k_asm), by omega, ⟨_, _, _, _, ds ++ [valOf f2], r2, ⟨rfl, rfl, ints_snoc Jvals, by rw [List.length_append]; simp; omega, by omega, by omega, T2, by rw [← Jall]; simp, Jen, badT_ok (by assumption) Jbad, rfl⟩⟩⟩
end
local macro_rules | `(tactic| walk_at "call ref") => `(tactic| (k_here; (with_reducible show wpAny _ _ (call (Value.ref 82) _) _ _ _); k_dflt (
  refine' take_path_c ?kB ?kF ?kX ?kN ?kO ?kc ?kT ?kk ?kd ?ku ?kI ?kl ?k0 ?k1 ?k2 ?kP ?_ ?_; (walk_at "mine sides"); (case kO => first | assumption | exact OffAll.off (by assumption)); (case kc => assumption); (case kI => assumption); (case kP => assumption); (case kl => omega); (case k0 => omega); (case k1 => omega); (case k2 => omega);
  rotate_left; (intro x' hx' e' D' g' h' tk' i1' i2' u1' u2' u3' u4' F' R' U'; (try dsimp only); (try k_fold)); rotate_left; (intro hb' tup' vs' ti' h' tk' hv' F' N'; (try dsimp only); (try k_fold)))))

section
variable {w : World} {mean : ExcName → Option Value} {mg mb : Str → Option Value} {dp un : Nat} {gd : Option (List Code)} {cn : Str} {cs : Scope} {a : Addr} {ccd : Value} {cl : List (Str × Addr)} {outer : List Env} {A₀ : Around} {base h₀ : Heap} {L : Addr} {m : Str → Option Value} {s : Shared} {Q E : Value → Shared → Prop}
variable {ta ca : Addr} {own : List (Addr × Obj)} {at_ : Int} {tat : Tok} {nt nc : Nat} {vs : List Value} {ns : List Int} {k : Int} {tk : Tok}
set_option maxRecDepth 100000 in
set_option maxHeartbeats 8000000 in
theorem draw_c
    (B : Below A₀ base outer h₀) (F : Fr h₀ L s.heap m) (X : (hd.heap_39 w.params).In h₀)
    (N : News h₀ L s.heap ((ta, listOf [Value.ref ca, .int at_ tat].toArray nt) :: (ca, listOf vs.toArray nc) :: own))
    (hlt : @LT.lt Nat _ ca ta) (O : OwnOff own [ta, ca])
    (T : Top hd.view_39 (looseW hd.view_39 [Str.ofString "PostError"]) mean mg mb h₀) (hk : cs.kind = .function)
    (hdp : dp + 2 < recursionLimit) (hu : un + 16 < cLine)
    (hI : IntsAre vs ns) (hn1 : 1 ≤ ns.length) (hn2 : ns.length ≤ 30) (h0 : 0 ≤ at_) (h1000 : at_ ≤ 100) (hk1 : 1 ≤ k) (hk2 : k ≤ 9)
    (ret : ∀ (r : Int) (t tat' : Tok) (nt' : Nat) (h' : Heap) (tk' : Nat), 0 ≤ r → r < k → Fr h₀ L h' m → News h₀ L h' ((ta, listOf [Value.ref ca, .int (at_ + 1) tat'].toArray nt') :: (ca, listOf vs.toArray nc) :: own) → Q (.int r t) { s with heap := h', toks := tk' }) :
    wpAny (model PySem.Challenge.rw_or0032_01.row.prog w) (ktrTop dp un gd cn cs L a ccd cl outer) (call (.ref 177) [.ref ta, .int k tk]) Q E s := by
  w_top off
  k_with_none
  revert X; k_fill; intro X
  have hv := hI.length
  k_with_none
  refine wpAny_call ?_
  k_dflt (walk_at "mine enter")
  k_steps
  exact ret _ _ _ _ _ _ (Int.fmod_nonneg_of_pos _ (by omega)) (Int.fmod_lt_of_pos _ (by omega)) (by k_asm) (by k_asm)
/-- the first draw: the ledger is cut down to the tape -/
theorem draw0_c
    (B : Below A₀ base outer h₀) (F : Fr h₀ L s.heap m) (X : (hd.heap_39 w.params).In h₀)
    (N : News h₀ L s.heap ((ta, listOf [Value.ref ca, .int 0 tat].toArray nt) :: (ca, listOf vs.toArray nc) :: own))
    (hlt : @LT.lt Nat _ ca ta)
    (T : Top hd.view_39 (looseW hd.view_39 [Str.ofString "PostError"]) mean mg mb h₀) (hk : cs.kind = .function)
    (hdp : dp + 2 < recursionLimit) (hu : un + 16 < cLine)
    (hI : IntsAre vs ns) (hn1 : 1 ≤ ns.length) (hn2 : ns.length ≤ 30) (hk1 : 1 ≤ k) (hk2 : k ≤ 9)
    (ret : ∀ (r : Int) (t tat' : Tok) (nt' : Nat) (h' : Heap) (tk' : Nat), 0 ≤ r → r < k → Fr h₀ L h' m → News h₀ L h' [(ta, listOf [Value.ref ca, .int 1 tat'].toArray nt'), (ca, listOf vs.toArray nc)] → OwnOff [] [ta, ca] → Q (.int r t) { s with heap := h', toks := tk' }) :
    wpAny (model PySem.Challenge.rw_or0032_01.row.prog w) (ktrTop dp un gd cn cs L a ccd cl outer) (call (.ref 177) [.ref ta, .int k tk]) Q E s :=
  draw_c (own := []) B F X (news_fewer N fun p hp => by
    rcases List.mem_cons.mp hp with rfl | hp
    · exact .head _
    · rw [List.mem_singleton.mp hp]; exact .tail _ (.head _)) hlt (fun p hp => nomatch hp) T hk hdp hu hI hn1 hn2 (Int.le_refl _) (by decide) hk1 hk2
    fun r t tat' nt' h' tk' l1 l2 F' N' => ret r t tat' nt' h' tk' l1 l2 F' N' (fun p hp => nomatch hp)
end
local macro_rules | `(tactic| walk_at "call ref") => `(tactic| (k_here; (with_reducible show wpAny _ _ (call (Value.ref 177) _) _ _ _); (fail_if_success (rename OwnOff _ _ => ox)); k_dflt (
  refine' draw0_c ?kB ?kF ?kX ?kN ?kl ?kT ?kk ?kd ?ku ?kI ?k1 ?k2 ?k3 ?k4 ?_; (walk_at "mine sides"); (case kl => first | assumption | (refine ltN ?_; omega)); (case kI => first | assumption | exact IntsAre.cons _ _ .nil); (case k1 => first | omega | decide); (case k2 => first | omega | decide); (case k3 => omega); (case k4 => omega); intro r' t' tat' nt' h' tk' r1' r2' F' N' O'; (try dsimp only); (try k_fold))))
local macro_rules | `(tactic| walk_at "call ref") => `(tactic| (k_here; (with_reducible show wpAny _ _ (call (Value.ref 177) _) _ _ _); (rename OwnOff _ _ => ox); k_dflt (
  refine' draw_c ?kB ?kF ?kX ?kN ?kl ?kO ?kT ?kk ?kd ?ku ?kI ?k1 ?k2 ?k3 ?k4 ?k5 ?k6 ?_; (walk_at "mine sides"); (case kl => first | assumption | (refine ltN ?_; omega)); (case kO => first | assumption | exact OffAll.off (by assumption)); (case kI => first | assumption | exact IntsAre.cons _ _ .nil); (case k1 => first | omega | decide); (case k2 => first | omega | decide); (case k3 => omega); (case k4 => omega); (case k5 => omega); (case k6 => omega); intro r' t' tat' nt' h' tk' r1' r2' F' N'; (try dsimp only); (try k_fold))))

/-- the numbers that the law draws from, as figures -/
def menuI : List (List Int) := [[49], [50], [52, 48], [52, 50, 57, 52, 57, 54, 55, 50, 57, 53], [52, 50, 57, 52, 57, 54, 55, 50, 57, 54], [48], [48, 49], [57, 57], [55]]
def dueOf (f : List Int) : Int := if good f = true then valOf f else 0
/-- figures with points between -/
def joinD (fss : List (List Int)) : List Int := (fss.map fun f => (46 : Int) :: f).flatten.drop 1
def wrongOf (i : Int) (fss : List (List Int)) : Int := (pathBad i fss).getD (-1)
theorem joinD_nil : joinD [] = [] := rfl
theorem joinD_one (f : List Int) : joinD [f] = f := by simp [joinD]
theorem joinD_cons (f : List Int) (r : List (List Int)) : joinD (f :: r) = f ++ (r.map fun f => (46 : Int) :: f).flatten := by simp [joinD]
theorem joinD_snoc {fss : List (List Int)} (f : List Int) (h : fss ≠ []) : joinD (fss ++ [f]) = joinD fss ++ [46] ++ f := by
  cases fss with
  | nil => exact absurd rfl h
  | cons g r => rw [List.cons_append, joinD_cons, joinD_cons]; simp
theorem endT_snoc (f : List Int) : ∀ (r : List (List Int)) (p : Int), endT p (r ++ [f]) = endT p r + 1 + (f.length : Int)
  | [], p => rfl
  | g :: r, p => endT_snoc f r _
theorem badT_snoc (f : List Int) : ∀ (r : List (List Int)) (p : Int), badT p (r ++ [f]) = (match badT p r with | some x => some x | none => if good f = true then none else some (endT p r + 1))
  | [], p => rfl
  | g :: r, p => by
    show (if good g = true then badT (p + 1 + (g.length : Int)) (r ++ [f]) else some (p + 1)) = _
    show _ = (match (if good g = true then badT (p + 1 + (g.length : Int)) r else some (p + 1)) with | some x => some x | none => if good f = true then none else some (endT (p + 1 + (g.length : Int)) r + 1))
    by_cases h : good g = true
    · rw [if_pos h, if_pos h]; exact badT_snoc f r _
    · rw [if_neg h, if_neg h]
theorem pathEnd_snoc {i : Int} (f : List Int) {fss : List (List Int)} (h : fss ≠ []) : pathEnd i (fss ++ [f]) = pathEnd i fss + 1 + (f.length : Int) := by
  cases fss with
  | nil => exact absurd rfl h
  | cons g r => exact endT_snoc f r _
theorem pathBad_snoc {i : Int} (f : List Int) {fss : List (List Int)} (h : fss ≠ []) : pathBad i (fss ++ [f]) = (match pathBad i fss with | some x => some x | none => if good f = true then none else some (pathEnd i fss + 1)) := by
  cases fss with
  | nil => exact absurd rfl h
  | cons g r =>
    show (if good g = true then badT (i + (g.length : Int)) (r ++ [f]) else some i) = (match (if good g = true then badT (i + (g.length : Int)) r else some i) with | some x => some x | none => if good f = true then none else some (endT (i + (g.length : Int)) r + 1))
    by_cases hg : good g = true
    · rw [if_pos hg, if_pos hg]; exact badT_snoc f r _
    · rw [if_neg hg, if_neg hg]
theorem joinD_len (i : Int) : ∀ fss : List (List Int), i + ((joinD fss).length : Int) = pathEnd i fss := by
  have tailLen : ∀ (r : List (List Int)) (p : Int), p + (((r.map fun f => (46 : Int) :: f).flatten).length : Int) = endT p r := by
    intro r
    induction r with
    | nil => intro p; simp [endT]
    | cons f r ih =>
      intro p
      show _ = endT (p + 1 + (f.length : Int)) r
      rw [← ih]
      simp
      omega
  intro fss
  cases fss with
  | nil => simp [joinD_nil, pathEnd]
  | cons f r =>
    rw [joinD_cons]
    show _ = endT (i + (f.length : Int)) r
    rw [← tailLen]
    simp
    omega
/-- where a wrong number stands, if one does: at its place or behind -/
theorem badT_ge : ∀ (r : List (List Int)) (p x : Int), badT p r = some x → p < x
  | f :: r, p, x, h => by
    have h' : (if good f = true then badT (p + 1 + (f.length : Int)) r else some (p + 1)) = some x := h
    by_cases g : good f = true
    · rw [if_pos g] at h'
      have := badT_ge r _ _ h'
      omega
    · rw [if_neg g] at h'
      cases h'
      omega
theorem pathBad_ge {i x : Int} {fss : List (List Int)} (h : pathBad i fss = some x) : i ≤ x := by
  cases fss with
  | nil => cases h
  | cons f r =>
    have h' : (if good f = true then badT (i + (f.length : Int)) r else some i) = some x := h
    by_cases g : good f = true
    · rw [if_pos g] at h'
      have := badT_ge r _ _ h'
      omega
    · rw [if_neg g] at h'
      cases h'
      omega
theorem wrong_some {i : Int} {fss : List (List Int)} {x : Int} (h : pathBad i fss = some x) : wrongOf i fss = x := by unfold wrongOf; rw [h]; rfl
theorem wrong_none {i : Int} {fss : List (List Int)} (h : pathBad i fss = none) : wrongOf i fss = -1 := by unfold wrongOf; rw [h]; rfl
theorem wrong_neg {i : Int} {fss : List (List Int)} (h0 : 0 ≤ i) (h : wrongOf i fss < 0) : pathBad i fss = none := by
  cases e : pathBad i fss with
  | none => rfl
  | some x => have := pathBad_ge e; rw [wrong_some e] at h; omega
theorem wrong_pos {i : Int} {fss : List (List Int)} (h : ¬ wrongOf i fss < 0) : pathBad i fss = some (wrongOf i fss) := by
  cases e : pathBad i fss with
  | none => rw [wrong_none e] at h; omega
  | some x => rw [wrong_some e]
/-- one more number: what is then wrong -/
theorem wrong_snoc {i : Int} {fss : List (List Int)} (f : List Int) (h0 : 0 ≤ i) (h : fss ≠ []) : wrongOf i (fss ++ [f]) = if good f = true then wrongOf i fss else if wrongOf i fss < 0 then pathEnd i fss + 1 else wrongOf i fss := by
  have e := pathBad_snoc (i := i) f h
  cases e2 : pathBad i fss with
  | none =>
    rw [e2] at e
    rw [wrong_none e2]
    by_cases g : good f = true
    · rw [if_pos g] at e ⊢; exact wrong_none e
    · rw [if_neg g] at e ⊢; rw [if_pos (by omega)]; exact wrong_some e
  | some x =>
    rw [e2] at e
    have := pathBad_ge e2
    rw [wrong_some e, wrong_some e2]
    by_cases g : good f = true
    · rw [if_pos g]
    · rw [if_neg g, if_neg (by omega)]
theorem wrong_first {i : Int} (f : List Int) : wrongOf i [f] = if good f = true then -1 else i := by
  unfold wrongOf
  show ((if good f = true then none else some i : Option Int)).getD (-1) = _
  by_cases g : good f = true
  · rw [if_pos g, if_pos g]; rfl
  · rw [if_neg g, if_neg g]; rfl

structure LS where
  b : Array UInt8
  tb : Tok
  wr : Int
  tw : Tok
  vs : List Value
  nd : Nat
  at_ : Int
  tat : Tok
  nt : Nat
  fss : List (List Int)
structure LawInv (pre : List Int) (j : Nat) (c : LS) : Prop where
  len : c.fss.length = j
  menu : ∀ f ∈ c.fss, f ∈ menuI
  octs : KBw.bInts c.b = pre ++ joinD c.fss
  wrong : c.wr = wrongOf (pre.length : Int) c.fss
  due : IntsAre c.vs (c.fss.map dueOf)
  lo : 0 ≤ c.at_
  hi : c.at_ ≤ 10 + 3 * (j : Int)
abbrev lawLed (ta ca du : Addr) (cvs : List Value) (nc : Nat) (c : LS) : List (Addr × Obj) := [(ta, listOf [Value.ref ca, .int c.at_ c.tat].toArray c.nt), (ca, listOf cvs.toArray nc), (du, listOf c.vs.toArray c.nd)]
abbrev lawPs (c : LS) : List (Str × Value) := [(Str.ofString "octets", .bytes c.b c.tb), (Str.ofString "wrong", .int c.wr c.tw)]
section
variable {w : World} {A : Around} {E : Value → Shared → Prop} {s : Shared} {env : Env} {h₀ : Heap} {body : List Stmt} {Q : Flow → Shared → Prop} {m₀ : Str → Option Value} {ta ca du r : Addr} {cvs : List Value} {nc nt nd : Nat} {a₀ kk : Int} {tat t₀ u₀ v₀ tb tw : Tok} {b : Array UInt8} {pre : List Int}
abbrev LawJ (ta ca du : Addr) (cvs : List Value) (nc : Nat) (m₀ : Str → Option Value) (pre : List Int) (ks : List Int) : (Str → Option Value) → List (Addr × Obj) → Prop := KstS (lawLed ta ca du cvs nc) lawPs (fun _ => True) (Str.ofString "turn") [Str.ofString "figures"] m₀ (fun l c => LawInv pre l.length c) ks
theorem law_for (hh : A.handled = none) (hr : IsRange s.heap r 0 kk 1 t₀ u₀ v₀) (hk0 : 0 ≤ kk) (hk5 : kk < 6) (F : Fr h₀ env.locals s.heap m₀)
    (N : News h₀ env.locals s.heap [(ta, listOf [Value.ref ca, .int a₀ tat].toArray nt), (ca, listOf cvs.toArray nc), (du, listOf ([] : List Value).toArray nd)])
    (ho : m₀ (Str.ofString "octets") = some (.bytes b tb)) (hw : m₀ (Str.ofString "wrong") = some (.int (-1) tw)) (hpre : KBw.bInts b = pre) (hlt : @LT.lt Nat _ ca ta) (htd : @LT.lt Nat _ ta du) (hcd : @LT.lt Nat _ ca du) (h0 : 0 ≤ a₀) (h1 : a₀ ≤ 10)
    (turn : ∀ (c : LS) (ks : List Int) (k : Int) t (u : Str → Option Value) h tk own, k = (ks.length : Int) → (ks.length : Int) < kk → OwnOff own [ta, ca, du] → OffAll du own ta ca → LawInv pre ks.length c →
      Fr h₀ env.locals h (fun y => if y = Str.ofString "turn" then some (.int k t) else if y = Str.ofString "octets" then some (.bytes c.b c.tb) else if y = Str.ofString "wrong" then some (.int c.wr c.tw) else if ([Str.ofString "figures"] : List Str).contains y then u y else m₀ y) →
      News h₀ env.locals h ((ta, listOf [Value.ref ca, .int c.at_ c.tat].toArray c.nt) :: (ca, listOf cvs.toArray nc) :: (du, listOf c.vs.toArray c.nd) :: own) →
      wpAny (model PySem.Challenge.rw_or0032_01.row.prog w) A (execs body env) (InvPostN h₀ env.locals (LawJ ta ca du cvs nc m₀ pre (ks ++ [k])) own [ta, ca, du] { s with heap := h, toks := tk } Q) E { s with heap := h, toks := tk })
    (done : ∀ (c : LS) (u : Str → Option Value) h tk, LawInv pre kk.toNat c → Fr h₀ env.locals h (fun y => if y = Str.ofString "turn" then u y else if y = Str.ofString "octets" then some (.bytes c.b c.tb) else if y = Str.ofString "wrong" then some (.int c.wr c.tw) else if ([Str.ofString "figures"] : List Str).contains y then u y else m₀ y) →
      News h₀ env.locals h [(ta, listOf [Value.ref ca, .int c.at_ c.tat].toArray c.nt), (ca, listOf cvs.toArray nc), (du, listOf c.vs.toArray c.nd)] → Q .next { s with heap := h, toks := tk }) :
    wpAny (model PySem.Challenge.rw_or0032_01.row.prog w) A (pyIter (.ref r)) (fun it s₂ => LoopAtV PySem.Challenge.rw_or0032_01.row.prog w A h₀ env (Str.ofString "turn") body Q E it s₂) E s := by
  refine kst_range (n := kk.toNat) (lawLed ta ca du cvs nc) lawPs (fun _ => True) [Str.ofString "figures"] (fun l c => LawInv pre l.length c) ⟨b, tb, -1, tw, [], nd, a₀, tat, nt, []⟩ hh hr (small_one (by omega) (by omega) (by omega) (by omega)) ?_ F N trivial ?_ ?_ ?_ ?_
  · rw [rangeSize_nat, Int.sub_zero]
  · intro p hp
    rcases List.mem_cons.mp hp with rfl | hp
    · exact ho
    · rw [List.mem_singleton.mp hp]; exact hw
  · exact ⟨rfl, fun f hf => (nomatch hf), by rw [hpre, joinD_nil, List.append_nil], rfl, .nil, h0, by show a₀ ≤ 10 + 3 * ((0 : Nat) : Int); omega⟩
  · intro c ks k t u h tk own hk hl hoff _ hp F' N'
    refine turn c ks k t u h tk own (by omega) (by omega) hoff (fun x p hp b hb => ?_) hp F' N'
    rcases List.mem_cons.mp hp with rfl | hp
    · rcases List.mem_cons.mp hb with rfl | hb
      · exact Nat.ne_of_gt htd
      · rw [List.mem_singleton.mp hb]; exact Nat.ne_of_gt hcd
    · refine hoff p hp b ?_
      rcases List.mem_cons.mp hb with rfl | hb
      · exact .head _
      · rw [List.mem_singleton.mp hb]; exact .tail _ (.head _)
  · intro c u h tk _ hp F' N'
    rw [rangeKs_length] at hp
    exact done c u h tk hp F' N'
theorem law_end {L : Addr} {m' : Str → Option Value} {own : List (Addr × Obj)} {s₁ : Shared} {h' : Heap} {tk : Nat} {ks : List Int} (c : LS)
    (F : Fr h₀ L h' m') (N : News h₀ L h' ((ta, listOf [Value.ref ca, .int c.at_ c.tat].toArray c.nt) :: (ca, listOf cvs.toArray nc) :: (du, listOf c.vs.toArray c.nd) :: own))
    (ho : m' (Str.ofString "octets") = some (.bytes c.b c.tb)) (hw : m' (Str.ofString "wrong") = some (.int c.wr c.tw))
    (hr : ∀ z, z ≠ Str.ofString "turn" → (∀ p ∈ lawPs c, z ≠ p.1) → ([Str.ofString "figures"] : List Str).contains z = false → m' z = m₀ z) (hp : LawInv pre ks.length c) :
    InvEndN h₀ L (LawJ ta ca du cvs nc m₀ pre ks) own [ta, ca, du] s₁ { s₁ with heap := h', toks := tk } := by
  refine kst_end c F N (fun p hp => ?_) (fun p hp => .tail _ (.tail _ (.tail _ hp))) rfl trivial (fun p hp => ?_) hr hp
  · rcases List.mem_cons.mp hp with rfl | hp
    · exact .head _
    · rcases List.mem_cons.mp hp with rfl | hp
      · exact .tail _ (.head _)
      · rw [List.mem_singleton.mp hp]; exact .tail _ (.tail _ (.head _))
  · rcases List.mem_cons.mp hp with rfl | hp
    · exact ho
    · rw [List.mem_singleton.mp hp]; exact hw
theorem news_cut {h : Heap} {L : Addr} {tu : Addr} {o oa oc od : Obj} {own : List (Addr × Obj)} (N : News h₀ L h ((tu, o) :: (du, od) :: (ta, oa) :: (ca, oc) :: own)) : News h₀ L h [(ta, oa), (ca, oc), (du, od)] := news_fewer N fun p hp => by
  rcases List.mem_cons.mp hp with rfl | hp
  · exact .tail _ (.tail _ (.head _))
  · rcases List.mem_cons.mp hp with rfl | hp
    · exact .tail _ (.tail _ (.tail _ (.head _)))
    · rw [List.mem_singleton.mp hp]; exact .tail _ (.head _)
theorem offAll_nil (h1 : @LT.lt Nat _ ta du) (h2 : @LT.lt Nat _ ca du) : OffAll du [] ta ca := fun x p hp b hb => by
  rw [List.mem_singleton.mp hp]
  rcases List.mem_cons.mp hb with rfl | hb
  · exact Nat.ne_of_gt h1
  · rw [List.mem_singleton.mp hb]; exact Nat.ne_of_gt h2
theorem news_cut2 {h : Heap} {L : Addr} {tu : Addr} {o oa oc od : Obj} {own : List (Addr × Obj)} (N : News h₀ L h ((tu, o) :: (du, od) :: (ta, oa) :: (ca, oc) :: own)) (h1 : @LT.lt Nat _ ta du) (h2 : @LT.lt Nat _ ca du) : News h₀ L h [(ta, oa), (ca, oc), (du, od)] ∧ OffAll du [] ta ca := ⟨news_cut N, offAll_nil h1 h2⟩
end
local macro_rules | `(tactic| walk_at "call type:range") => `(tactic| (k_here; (rename Fr _ _ _ _ => F'); (rename News _ _ _ _ => N'); (with_unfolding_all refine range1_rows F' N' ?_; intro _ _ _ _ _ _ _ _ _)))
local macro_rules | `(tactic| walk_at "exec For Name Call cons nil") => `(tactic| (k_here; (with_reducible rename News _ _ _ [(_, _), (_, _), (_, _), (_, _)] => lN'); k_dflt (obtain ⟨nN', OA'⟩ := news_cut2 lN' (by (refine ltN ?_; omega)) (by (refine ltN ?_; omega))); clear lN'))
theorem menu_len {f : List Int} (h : f ∈ menuI) : 1 ≤ f.length ∧ f.length ≤ 10 := by
  have : ∀ g ∈ menuI, 1 ≤ g.length ∧ g.length ≤ 10 := by decide
  exact this f h
theorem flat_len : ∀ r : List (List Int), (∀ f ∈ r, f ∈ menuI) → ((r.map fun f => (46 : Int) :: f).flatten).length ≤ 11 * r.length
  | [], _ => Nat.le_refl _
  | f :: r, h => by
    have := flat_len r fun g hg => h g (.tail _ hg)
    have := menu_len (h f (.head _))
    simp only [List.map_cons, List.flatten_cons, List.length_append, List.length_cons]
    omega
theorem inv_len {pre : List Int} {j : Nat} {c : LS} (I : LawInv pre j c) (hp : pre.length ≤ 2) (hj : j ≤ 5) : ∃ OC, KBw.bInts c.b = OC ∧ OC = pre ++ joinD c.fss ∧ OC.length ≤ 57 := by
  refine ⟨_, I.octs, rfl, ?_⟩
  have := flat_len c.fss I.menu
  rw [I.len] at this
  rw [List.length_append, joinD, List.length_drop]
  omega

def bytesOf (f : List Int) : List UInt8 := f.map fun c => UInt8.ofNat c.toNat
def tailsI : List (List Int) := [[], [46], [46, 46, 53], [46, 84, 69, 88, 84], [93], [32, 49], [46, 120, 50]]
theorem menu_bytes {f : List Int} (h : f ∈ menuI) : KBw.bInts (bytesOf f).toArray = f := by
  have : ∀ g ∈ menuI, KBw.bInts (bytesOf g).toArray = g := by decide
  exact this f h
theorem tails_bytes {f : List Int} (h : f ∈ tailsI) : KBw.bInts (bytesOf f).toArray = f := by
  have : ∀ g ∈ tailsI, KBw.bInts (bytesOf g).toArray = g := by decide
  exact this f h
section
variable {w : World} {A : Around} {E Q : Value → Shared → Prop} {h₀ : Heap} {L : Addr} {m : Str → Option Value} {s : Shared} {value slice : PySem.Expr} {r : Int} {u : Tok}
theorem num_item_c (F : Fr h₀ L s.heap m) (X : (hd.heap_39 w.params).In h₀) (h0 : 0 ≤ r) (h9 : r < 9) (h : ∀ f t', f ∈ menuI → KBw.bInts (bytesOf f).toArray = f → f.length ≤ 10 → Q (.bytes (bytesOf f).toArray t') s)
    (hs : subscripted slice false (.ref 169) (.int r u) = operate [.ref 169, .int r u] (getItem (.ref 169) (.int r u)) := by with_unfolding_all rfl) :
    wpAny (model PySem.Challenge.rw_or0032_01.row.prog w) A (subscriptTail value slice (.ref 169) (.int r u)) Q E s := by
  have X' := X.keeps F.keep
  have tup : IsTup s.heap 169 [Value.bytes #[49] 398, Value.bytes #[50] 399, Value.bytes #[52, 48] 400, Value.bytes #[52, 50, 57, 52, 57, 54, 55, 50, 57, 53] 401, Value.bytes #[52, 50, 57, 52, 57, 54, 55, 50, 57, 54] 402, Value.bytes #[48] 403, Value.bytes #[48, 49] 404, Value.bytes #[57, 57] 405, Value.bytes #[55] 406].toArray := ⟨_, X' 169 _ rfl, rfl, _, rfl⟩
  have g : ∀ f t', f ∈ menuI → Q (.bytes (bytesOf f).toArray t') s := fun f t' hf => h f t' hf (menu_bytes hf) (menu_len hf).2
  have cases9 : r = 0 ∨ r = 1 ∨ r = 2 ∨ r = 3 ∨ r = 4 ∨ r = 5 ∨ r = 6 ∨ r = 7 ∨ r = 8 := by omega
  rcases cases9 with rfl | rfl | rfl | rfl | rfl | rfl | rfl | rfl | rfl
  · exact item_tupleT tup (by decide) (by decide) (j := 0) rfl rfl (g [49] _ (by decide)) hs
  · exact item_tupleT tup (by decide) (by decide) (j := 1) rfl rfl (g [50] _ (by decide)) hs
  · exact item_tupleT tup (by decide) (by decide) (j := 2) rfl rfl (g [52, 48] _ (by decide)) hs
  · exact item_tupleT tup (by decide) (by decide) (j := 3) rfl rfl (g [52, 50, 57, 52, 57, 54, 55, 50, 57, 53] _ (by decide)) hs
  · exact item_tupleT tup (by decide) (by decide) (j := 4) rfl rfl (g [52, 50, 57, 52, 57, 54, 55, 50, 57, 54] _ (by decide)) hs
  · exact item_tupleT tup (by decide) (by decide) (j := 5) rfl rfl (g [48] _ (by decide)) hs
  · exact item_tupleT tup (by decide) (by decide) (j := 6) rfl rfl (g [48, 49] _ (by decide)) hs
  · exact item_tupleT tup (by decide) (by decide) (j := 7) rfl rfl (g [57, 57] _ (by decide)) hs
  · exact item_tupleT tup (by decide) (by decide) (j := 8) rfl rfl (g [55] _ (by decide)) hs
theorem tail_item_c (F : Fr h₀ L s.heap m) (X : (hd.heap_39 w.params).In h₀) (h0 : 0 ≤ r) (h7 : r < 7) (h : ∀ f t', tailsI[r.toNat]? = some f → KBw.bInts (bytesOf f).toArray = f → f.length ≤ 5 → Q (.bytes (bytesOf f).toArray t') s)
    (hs : subscripted slice false (.ref 170) (.int r u) = operate [.ref 170, .int r u] (getItem (.ref 170) (.int r u)) := by with_unfolding_all rfl) :
    wpAny (model PySem.Challenge.rw_or0032_01.row.prog w) A (subscriptTail value slice (.ref 170) (.int r u)) Q E s := by
  have X' := X.keeps F.keep
  have tup : IsTup s.heap 170 [Value.bytes #[] 408, Value.bytes #[46] 409, Value.bytes #[46, 46, 53] 410, Value.bytes #[46, 84, 69, 88, 84] 411, Value.bytes #[93] 412, Value.bytes #[32, 49] 413, Value.bytes #[46, 120, 50] 414].toArray := ⟨_, X' 170 _ rfl, rfl, _, rfl⟩
  have cases7 : r = 0 ∨ r = 1 ∨ r = 2 ∨ r = 3 ∨ r = 4 ∨ r = 5 ∨ r = 6 := by omega
  rcases cases7 with rfl | rfl | rfl | rfl | rfl | rfl | rfl
  · exact item_tupleT tup (by decide) (by decide) (j := 0) rfl rfl (h [] _ rfl (by decide) (by decide)) hs
  · exact item_tupleT tup (by decide) (by decide) (j := 1) rfl rfl (h [46] _ rfl (by decide) (by decide)) hs
  · exact item_tupleT tup (by decide) (by decide) (j := 2) rfl rfl (h [46, 46, 53] _ rfl (by decide) (by decide)) hs
  · exact item_tupleT tup (by decide) (by decide) (j := 3) rfl rfl (h [46, 84, 69, 88, 84] _ rfl (by decide) (by decide)) hs
  · exact item_tupleT tup (by decide) (by decide) (j := 4) rfl rfl (h [93] _ rfl (by decide) (by decide)) hs
  · exact item_tupleT tup (by decide) (by decide) (j := 5) rfl rfl (h [32, 49] _ rfl (by decide) (by decide)) hs
  · exact item_tupleT tup (by decide) (by decide) (j := 6) rfl rfl (h [46, 120, 50] _ rfl (by decide) (by decide)) hs
variable {f : List Int} {tp d : Addr} {t1 t2 t3 tb : Tok} {news : List (Addr × Obj)}
theorem in_bad_c (hf : f ∈ menuI) (N : News h₀ L s.heap ((tp, tupObj [.bytes #[52, 50, 57, 52, 57, 54, 55, 50, 57, 54] t1, .bytes #[48] t2, .bytes #[48, 49] t3]) :: news)) (h : Q (.bool (!good f)) s) :
    wpAny (model PySem.Challenge.rw_or0032_01.row.prog w) A (compareOp .In (.bytes (bytesOf f).toArray tb) (.ref tp)) Q E s := by
  refine PySem.SeqAt.in_tupleAt (fun y => match y with | .bytes b _ => decide (b.toList = bytesOf f) | _ => false) (items := [Value.bytes #[52, 50, 57, 52, 57, 54, 55, 50, 57, 54] t1, .bytes #[48] t2, .bytes #[48, 49] t3].toArray) ⟨_, (N _ (.head _)).1, rfl, _, rfl⟩ (fun y hy => ?_) ?_
  · have hy' : y ∈ [Value.bytes #[52, 50, 57, 52, 57, 54, 55, 50, 57, 54] t1, .bytes #[48] t2, .bytes #[48, 49] t3] := by simpa using hy
    rcases List.mem_cons.mp hy' with rfl | hy'
    · exact fun _ _ _ _ hq => eqBool_bytes hq
    · rcases List.mem_cons.mp hy' with rfl | hy'
      · exact fun _ _ _ _ hq => eqBool_bytes hq
      · rw [List.mem_singleton.mp hy']
        exact fun _ _ _ _ hq => eqBool_bytes hq
  · have all : ∀ g ∈ menuI, (decide ([52, 50, 57, 52, 57, 54, 55, 50, 57, 54] = bytesOf g) || (decide ([48] = bytesOf g) || (decide ([48, 49] = bytesOf g) || false))) = !good g := by decide
    have e : ([Value.bytes #[52, 50, 57, 52, 57, 54, 55, 50, 57, 54] t1, .bytes #[48] t2, .bytes #[48, 49] t3].toArray).any (fun y => match y with | .bytes b _ => decide (b.toList = bytesOf f) | _ => false) = !good f := by
      rw [← Array.any_toList]
      exact all f hf
    rw [e]
    exact h
abbrev dictKvs (u1 u2 u3 u4 u5 u6 : Tok) : List (List UInt8 × Value) := [([49], .int 1 u1), ([50], .int 2 u2), ([52, 48], .int 40 u3), ([52, 50, 57, 52, 57, 54, 55, 50, 57, 53], .int 4294967295 u4), ([57, 57], .int 99 u5), ([55], .int 7 u6)]
variable {o : Obj} {q1 q2 q3 q4 q5 q6 u1 u2 u3 u4 u5 u6 : Tok}
theorem dict_made_c (F : Fr h₀ L s.heap m) (N : News h₀ L s.heap ((d, o) :: news)) (hlt : ∀ p ∈ news, @LT.lt Nat _ p.1 d) (hdo : o.IsDictOf (bytesKind PySem.Challenge.rw_or0032_01.row.prog w) [])
    (h : ∀ h' o', Fr h₀ L h' m → News h₀ L h' ((d, o') :: news) → o'.IsDictOf (bytesKind PySem.Challenge.rw_or0032_01.row.prog w) (dictKvs u1 u2 u3 u4 u5 u6) → Q (.ref d) { s with heap := h', toks := s.toks + 6 }) :
    KdnMade PySem.Challenge.rw_or0032_01.row.prog w (bytesKind PySem.Challenge.rw_or0032_01.row.prog w) d Q [(.bytes #[49] q1, .int 1 u1), (.bytes #[50] q2, .int 2 u2), (.bytes #[52, 48] q3, .int 40 u3), (.bytes #[52, 50, 57, 52, 57, 54, 55, 50, 57, 53] q4, .int 4294967295 u4), (.bytes #[57, 57] q5, .int 99 u5), (.bytes #[55] q6, .int 7 u6)] s := by
  have hm := N (d, o) (.head _)
  refine ⟨dictKvs u1 u2 u3 u4 u5 u6, ⟨rfl, rfl, rfl, rfl, rfl, rfl, rfl, rfl, rfl, rfl, rfl, rfl, trivial⟩, Heap.dictOf_iff.mpr ⟨o, hm.1, hdo⟩, fun h' hmm hs => ?_⟩
  obtain ⟨o', ho', hd'⟩ := Heap.dictOf_iff.mp hmm
  exact h h' o' (F.change hs hm.2.1 hm.2.2) (News.setIn (own := []) N (fun p hp => nomatch hp) (fun p hp => Nat.ne_of_lt (hlt p hp)) hs ho') hd'
theorem dict_meth_c {pl : Sem Bool} {QM : Value × List Value → Shared → Prop} (N : News h₀ L s.heap ((d, o) :: news)) (hdo : o.IsDictOf (bytesKind PySem.Challenge.rw_or0032_01.row.prog w) (dictKvs u1 u2 u3 u4 u5 u6)) (h : QM (.builtin "dict.get", [.ref d]) s) :
    wpAny (model PySem.Challenge.rw_or0032_01.row.prog w) A (getMethod (.ref d) (Str.ofString "get") pl) QM E s := by
  have hD : s.heap.DictOf (bytesKind PySem.Challenge.rw_or0032_01.row.prog w) d (dictKvs u1 u2 u3 u4 u5 u6) := Heap.dictOf_iff.mpr ⟨o, (N _ (.head _)).1, hdo⟩
  exact getMethod_builtin hD.typeIs PySem.F.plainAttrs_dict PySem.F.slot_dict_get PySem.F.type_dict_get hD.mapOf.noDict h
theorem dict_get_c {t0 : Tok} (hf : f ∈ menuI) (lo : (d == sysModules) = false) (N : News h₀ L s.heap ((d, o) :: news)) (hdo : o.IsDictOf (bytesKind PySem.Challenge.rw_or0032_01.row.prog w) (dictKvs u1 u2 u3 u4 u5 u6))
    (h : ∀ t, Q (.int (dueOf f) t) { s with toks := s.toks + 1 }) :
    wpAny (model PySem.Challenge.rw_or0032_01.row.prog w) A (call (.builtin "dict.get") [.ref d, .bytes (bytesOf f).toArray tb, .int 0 t0]) Q E s := by
  have hD : s.heap.DictOf (bytesKind PySem.Challenge.rw_or0032_01.row.prog w) d (dictKvs u1 u2 u3 u4 u5 u6) := Heap.dictOf_iff.mpr ⟨o, (N _ (.head _)).1, hdo⟩
  refine call_meetsIn PySem.F.slot_dict_get hD.typeIs PySem.F.entry_dict_get (PySem.F.args_dict_get_3 _ _ _) (meets_dict_get_default (bytesKind PySem.Challenge.rw_or0032_01.row.prog w) d (bytesKind_is _ _ (bytesOf f) tb) lo (.int 0 t0)) ⟨_, hD.mapOf, ?_⟩
  have e : ∃ t, (valueAt (dictKvs u1 u2 u3 u4 u5 u6) (bytesOf f)).getD (.int 0 t0) = .int (dueOf f) t := by
    have m9 : f = [49] ∨ f = [50] ∨ f = [52, 48] ∨ f = [52, 50, 57, 52, 57, 54, 55, 50, 57, 53] ∨ f = [52, 50, 57, 52, 57, 54, 55, 50, 57, 54] ∨ f = [48] ∨ f = [48, 49] ∨ f = [57, 57] ∨ f = [55] := by simpa [menuI] using hf
    rcases m9 with rfl | rfl | rfl | rfl | rfl | rfl | rfl | rfl | rfl <;> exact ⟨_, rfl⟩
  obtain ⟨t, e⟩ := e
  rw [e]
  exact h t
end

def Marked : Prop := True
/-- behind the loop of the law -/
def Behind : Prop := True
theorem behind_ : Behind := trivial
/-- the octets' ints as a turn begins; the turn's number -/
def OctNow (OC : List Int) (_k : Int) : Prop := OC.length ≤ 57
section
variable {w : World} {A : Around} {E : Value → Shared → Prop} {h₀ : Heap} {L : Addr} {m : Str → Option Value} {s : Shared}
def Cells (h₀ : Heap) (L : Addr) (m : Str → Option Value) (s : Shared) (v : Value) (s₁ : Shared) : Prop :=
  ∃ (ca : Addr) (vs : List Value) (ns : List Int) (nc : Nat) (h' : Heap) (tk : Nat), v = .ref ca ∧ s₁ = { s with heap := h', toks := tk } ∧ IntsAre vs ns ∧ 1 ≤ ns.length ∧ ns.length ≤ 30 ∧ Fr h₀ L h' m ∧ News h₀ L h' [(ca, listOf vs.toArray nc)]
theorem cells_join {t : Sem Value} {Q : Value → Shared → Prop} (_F : Fr h₀ L s.heap m) (first : wpAny (model PySem.Challenge.rw_or0032_01.row.prog w) A t (Cells h₀ L m s) E s)
    (rest : ∀ (ca : Addr) (vs : List Value) (ns : List Int) (nc : Nat) (h' : Heap) (tk : Nat), Marked → IntsAre vs ns → 1 ≤ ns.length → ns.length ≤ 30 → Fr h₀ L h' m → News h₀ L h' [(ca, listOf vs.toArray nc)] → Q (.ref ca) { s with heap := h', toks := tk }) :
    wpAny (model PySem.Challenge.rw_or0032_01.row.prog w) A t Q E s := by
  refine wpAny_mono first (fun v s₁ h => ?_) fun _ _ x => x
  obtain ⟨ca, vs, ns, nc, h', tk, rfl, rfl, a, b, c, d, e⟩ := h
  exact rest ca vs ns nc h' tk trivial a b c d e
theorem cells_of {ca : Addr} {vs : List Value} {ns : List Int} {nc : Nat} {h' : Heap} {tk : Nat} {news : List (Addr × Obj)} (F : Fr h₀ L h' m) (N : News h₀ L h' ((ca, listOf vs.toArray nc) :: news)) (hI : IntsAre vs ns) (h1 : 1 ≤ ns.length) (h2 : ns.length ≤ 30) : Cells h₀ L m s (.ref ca) { s with heap := h', toks := tk } :=
  ⟨ca, vs, ns, nc, h', tk, rfl, rfl, hI, h1, h2, F, news_fewer N fun p hp => by rw [List.mem_singleton.mp hp]; exact .head _⟩
variable {ta ca : Addr} {cvs : List Value} {nc nt : Nat} {a : Int} {tat : Tok} {own news : List (Addr × Obj)}
def Drawn9 (h₀ : Heap) (L : Addr) (m : Str → Option Value) (ta ca : Addr) (cvs : List Value) (nc : Nat) (a : Int) (own : List (Addr × Obj)) (s : Shared) (v : Value) (s₁ : Shared) : Prop :=
  ∃ (r : Int) (t tat' : Tok) (nt' : Nat) (h' : Heap) (tk : Nat), v = .int r t ∧ s₁ = { s with heap := h', toks := tk } ∧ 0 ≤ r ∧ r < 9 ∧ Fr h₀ L h' m ∧ News h₀ L h' ((ta, listOf [Value.ref ca, .int (a + 1 + 1) tat'].toArray nt') :: (ca, listOf cvs.toArray nc) :: own)
theorem draw9_join {t : Sem Value} {Q : Value → Shared → Prop} (_F : Fr h₀ L s.heap m) (_N : News h₀ L s.heap ((ta, listOf [Value.ref ca, .int a tat].toArray nt) :: (ca, listOf cvs.toArray nc) :: own))
    (first : wpAny (model PySem.Challenge.rw_or0032_01.row.prog w) A t (Drawn9 h₀ L m ta ca cvs nc a own s) E s)
    (rest : ∀ (r : Int) (t tat' : Tok) (nt' : Nat) (h' : Heap) (tk : Nat), 0 ≤ r → r < 9 → Fr h₀ L h' m → News h₀ L h' ((ta, listOf [Value.ref ca, .int (a + 1 + 1) tat'].toArray nt') :: (ca, listOf cvs.toArray nc) :: own) → Q (.int r t) { s with heap := h', toks := tk }) :
    wpAny (model PySem.Challenge.rw_or0032_01.row.prog w) A t Q E s := by
  refine wpAny_mono first (fun v s₁ h => ?_) fun _ _ x => x
  obtain ⟨r, t, tat', nt', h', tk, rfl, rfl, b, c, d, e⟩ := h
  exact rest r t tat' nt' h' tk b c d e
theorem drawn9_of {r : Int} {t tat' : Tok} {nt' : Nat} {h' : Heap} {tk : Nat} (F : Fr h₀ L h' m) (N : News h₀ L h' ((ta, listOf [Value.ref ca, .int (a + 1 + 1) tat'].toArray nt') :: (ca, listOf cvs.toArray nc) :: own)) (h0 : 0 ≤ r) (h1 : r < 9) : Drawn9 h₀ L m ta ca cvs nc a own s (.int r t) { s with heap := h', toks := tk } :=
  ⟨r, t, tat', nt', h', tk, rfl, rfl, h0, h1, F, N⟩
def Dotted (h₀ : Heap) (L : Addr) (m : Str → Option Value) (news : List (Addr × Obj)) (OC : List Int) (k : Int) (s : Shared) (f : Flow) (s₁ : Shared) : Prop :=
  ∃ (b : Array UInt8) (tb : Tok) (h' : Heap) (tk : Nat), f = .next ∧ s₁ = { s with heap := h', toks := tk } ∧ KBw.bInts b = (if 0 < k then OC ++ [46] else OC) ∧ Fr h₀ L h' (fun y => if y = Str.ofString "octets" then some (.bytes b tb) else m y) ∧ News h₀ L h' news
theorem dot_join {t : Sem Flow} {Q : Flow → Shared → Prop} {OC : List Int} {k : Int} (_F : Fr h₀ L s.heap m) (_N : News h₀ L s.heap news) (hl : OctNow OC k)
    (first : wpAny (model PySem.Challenge.rw_or0032_01.row.prog w) A t (Dotted h₀ L m news OC k s) E s)
    (rest : ∀ (b : Array UInt8) (tb : Tok) (OC' : List Int) (h' : Heap) (tk : Nat), Marked → OC' = (if 0 < k then OC ++ [46] else OC) → OC'.length ≤ 58 → KBw.bInts b = OC' → Fr h₀ L h' (fun y => if y = Str.ofString "octets" then some (.bytes b tb) else m y) → News h₀ L h' news → Q .next { s with heap := h', toks := tk }) :
    wpAny (model PySem.Challenge.rw_or0032_01.row.prog w) A t Q E s := by
  refine wpAny_mono first (fun f s₁ h => ?_) fun _ _ x => x
  obtain ⟨b, tb, h', tk, rfl, rfl, c, d, e⟩ := h
  have hl' : OC.length ≤ 57 := hl
  refine rest b tb _ h' tk trivial rfl ?_ c d e
  by_cases hk : 0 < k
  · rw [if_pos hk, List.length_append]; show OC.length + 1 ≤ 58; omega
  · rw [if_neg hk]; omega
theorem dotted_yes {b : Array UInt8} {tb : Tok} {h' : Heap} {tk : Nat} {OC : List Int} {k : Int} (hk : 0 < k) (F : Fr h₀ L h' (fun y => if y = Str.ofString "octets" then some (.bytes b tb) else m y)) (N : News h₀ L h' news) (hb : KBw.bInts b = OC ++ [46]) : Dotted h₀ L m news OC k s .next { s with heap := h', toks := tk } :=
  ⟨b, tb, h', tk, rfl, rfl, by rw [if_pos hk]; exact hb, F, N⟩
theorem dotted_no {b : Array UInt8} {tb : Tok} {h' : Heap} {tk : Nat} {OC : List Int} {k : Int} (hk : ¬ 0 < k) (hm : m (Str.ofString "octets") = some (.bytes b tb)) (F : Fr h₀ L h' m) (N : News h₀ L h' news) (hb : KBw.bInts b = OC) : Dotted h₀ L m news OC k s .next { s with heap := h', toks := tk } := by
  refine ⟨b, tb, h', tk, rfl, rfl, by rw [if_neg hk]; exact hb, ?_, N⟩
  have e : (fun y => if y = Str.ofString "octets" then some (Value.bytes b tb) else m y) = m := by
    funext y
    by_cases hy : y = Str.ofString "octets"
    · rw [if_pos hy, hy, hm]
    · rw [if_neg hy]
  rw [e]
  exact F
end
local macro_rules | `(tactic| walk_at "eval BoolOp") => `(tactic| (k_here; (fail_if_success (rename Marked => mk')); (fail_if_success (with_reducible show wpAny _ _ _ (Cells _ _ _ _) _ _)); (rename Fr _ _ _ _ => lF'); k_dflt (refine' cells_join lF' ?_ ?_); rotate_left; (intro ca vs ns nc h' tk Mk' hI' n1' n2' F' N'; (try dsimp only); (try k_fold)); rotate_left))
local macro_rules | `(tactic| walk_at "Cells") => `(tactic| (k_here; k_dflt (refine' cells_of ?kF ?kN ?kI ?k1 ?k2; (case kF => k_asm); (case kN => k_asm); (case kI => first | assumption | exact IntsAre.cons _ _ .nil); (case k1 => first | omega | decide); (case k2 => first | omega | decide))))
local macro_rules | `(tactic| walk_at "eval IfExp") => `(tactic| (k_here; (fail_if_success (with_reducible rename Behind => bh')); (fail_if_success (with_reducible show wpAny _ _ _ (Drawn9 _ _ _ _ _ _ _ _ _ _) _ _)); (rename OwnOff _ _ => oo'); (rename Fr _ _ _ _ => lF'); (rename News _ _ _ _ => lN'); k_dflt (refine' draw9_join lF' lN' ?_ ?_); rotate_left; (intro r t tat' nt' h' tk r1' r2' F' N'; (try dsimp only); (try k_fold)); rotate_left))
local macro_rules | `(tactic| walk_at "Drawn9") => `(tactic| (k_here; k_dflt (refine' drawn9_of ?kF ?kN ?k1 ?k2; (case kF => k_asm); (case kN => k_asm); (case k1 => omega); (case k2 => omega))))
local macro_rules | `(tactic| walk_at "exec If") => `(tactic| (k_here; (with_reducible rename OctNow _ _ => on'); (fail_if_success (with_reducible show wpAny _ _ _ (Dotted _ _ _ _ _ _ _) _ _)); (rename Fr _ _ _ _ => lF'); (rename News _ _ _ _ => lN'); k_dflt (refine' dot_join lF' lN' on' ?_ ?_); rotate_left; (clear on'; intro b' tb' OC' h' tk' Mk' eO' lO' hb' F' N'; (try dsimp only); (try k_fold)); rotate_left))
local macro_rules | `(tactic| walk_at "Dotted") => `(tactic| (k_here; k_dflt (first
  | (refine' dotted_yes ?k ?F ?N ?b; (case k => assumption); (case F => k_asm); (case N => k_asm); (case b => assumption))
  | (refine' dotted_no ?k ?m ?F ?N ?b; (case k => assumption); (case m => exact rfl); (case F => k_asm); (case N => k_asm); (case b => assumption)))))
local macro_rules | `(tactic| walk_at "subscriptTail") => `(tactic| (k_here; (with_reducible show wpAny _ _ (subscriptTail _ _ (Value.ref 169) (Value.int _ _)) _ _ _); (with_unfolding_all refine' num_item_c ?kF ?kX ?k1 ?k2 ?_; (case kF => k_asm); (case kX => k_asm); (case k1 => omega); (case k2 => omega)); intro f' t' fm' fb' fl'; (try dsimp only)))
local macro_rules | `(tactic| walk_at "subscriptTail") => `(tactic| (k_here; (with_reducible show wpAny _ _ (subscriptTail _ _ (Value.ref 170) (Value.int _ _)) _ _ _); (with_unfolding_all refine' tail_item_c ?kF ?kX ?k1 ?k2 ?_; (case kF => k_asm); (case kX => k_asm); (case k1 => omega); (case k2 => omega)); intro f' t' fm' fb' fl'; (try dsimp only)))
local macro_rules | `(tactic| walk_at "compareOp In bytes ref") => `(tactic| (k_here; k_dflt (refine' in_bad_c ?kf ?kN ?_; (case kf => assumption); (case kN => k_asm))))
local macro_rules | `(tactic| walk_at "eval Dict") => `(tactic| (k_here; k_dflt (refine' kdn_eval (knd := bytesKind PySem.Challenge.rw_or0032_01.row.prog _) ?F ?N ?b ?a ?l ?e ?n ?_; (case F => k_asm); (case N => k_asm); (case b => exact Top.nolimit (by k_asm)); (case a => rfl); (case l => rfl); (case e => exact List.cons_ne_nil _ _); (case n => exact Nat.le_of_ble_eq_true rfl)); intro d' h' o' F' N' lt' lo' hd'; (have l1' := lt'); (k_lt l1')))
local macro_rules | `(tactic| walk_at "KdnMade") => `(tactic| (k_here; k_dflt (refine' dict_made_c ?F ?N ?l ?d ?_; (case F => k_asm); (case N => k_asm); (case l => assumption); (case d => assumption)); intro h' o' F' N' hd'; (try dsimp only)))
local macro_rules | `(tactic| walk_at "getMethod ref") => `(tactic| (k_here; k_dflt (refine' dict_meth_c ?N ?d ?_; (case N => k_asm); (case d => assumption)); (try dsimp only)))
local macro_rules | `(tactic| walk_at "call builtin:dict.get") => `(tactic| (k_here; k_dflt (refine' dict_get_c ?f ?l ?N ?d ?_; (case f => assumption); (case l => assumption); (case N => k_asm); (case d => assumption)); intro t'; (try dsimp only)))

section
variable {w : World} {A : Around} {E Q : Value → Shared → Prop} {h₀ : Heap} {L : Addr} {m : Str → Option Value} {s : Shared} {value slice : PySem.Expr} {r : Int} {t u : Tok} {news : List (Addr × Obj)}
/-- b'ab'[:r] for r of 0, 1, 2: r octets -/
theorem cut_ab_c (F : Fr h₀ L s.heap m) (N : News h₀ L s.heap news) (h0 : 0 ≤ r) (h2 : r < 3)
    (h : ∀ (b : Array UInt8) (pre : List Int) h' t' k, Fr h₀ L h' m → News h₀ L h' news → KBw.bInts b = pre → (pre.length : Int) = r → Q (.bytes b t') { s with heap := h', toks := k })
    (hs : subscripted slice false (.bytes #[97, 98] t) (.ref s.heap.objs.size) = operate [.ref s.heap.objs.size, .bytes #[97, 98] t] (getItem (.bytes #[97, 98] t) (.ref s.heap.objs.size)) := by with_unfolding_all rfl)
    (ht : ∀ r, letTemporaryGo value (.bytes #[97, 98] t) r = pure () := by intro _; with_unfolding_all rfl) :
    wpAny (model PySem.Challenge.rw_or0032_01.row.prog w) A (subscriptTail value slice (.bytes #[97, 98] t) (.ref s.heap.objs.size)) Q E { s with heap := s.heap.push { cls := .type "slice", data := .fields #[.none, .int r u, .none] } } := by
  refine KBc.slice_K (b := #[97, 98]) (ks := [97, 98]) (lo := none) (hi := some r) F N (by decide) (by constructor) (by constructor) (by decide) (fun h' t' k F' N' e => ?_) hs ht
  refine h _ _ h' t' k F' N' e ?_
  have c : clipAt ([97, 98] : List Int).length r = r.toNat := by show clipAt 2 r = _; unfold clipAt; split <;> omega
  show (((([97, 98] : List Int).drop 0).take (clipAt ([97, 98] : List Int).length r - 0)).length : Int) = r
  rw [c, List.length_take]
  show ((min (r.toNat - 0) 2 : Nat) : Int) = r
  omega
theorem due_append_c {ta ca du d D : Addr} {o1 o2 oa oc : Obj} {vs : List Value} {nd : Nat} {own : List (Addr × Obj)} {v : Value} (F : Fr h₀ L s.heap m)
    (N : News h₀ L s.heap ((d, o1) :: (D, o2) :: (ta, oa) :: (ca, oc) :: (du, listOf vs.toArray nd) :: own)) (O : OwnOff own [ta, ca, du])
    (h1 : @LT.lt Nat _ du d) (h2 : @LT.lt Nat _ du D) (h3 : @LT.lt Nat _ ta du) (h4 : @LT.lt Nat _ ca du) (hl : vs.length ≤ 5)
    (h : ∀ h', Fr h₀ L h' m → News h₀ L h' ((ta, oa) :: (ca, oc) :: (du, listOf (vs ++ [v]).toArray (nd + 1)) :: own) → Q .none { s with heap := h' }) :
    wpAny (model PySem.Challenge.rw_or0032_01.row.prog w) A (call (.builtin "list.append") [.ref du, v]) Q E s := by
  have N2 : News h₀ L s.heap ((ta, oa) :: (ca, oc) :: (du, listOf vs.toArray nd) :: own) := news_fewer N fun p hp => .tail _ (.tail _ hp)
  refine append_K F N2 (.tail (Nat.ne_of_lt h3) (.tail (Nat.ne_of_lt h4) (.head fun p hp => O p hp du (.tail _ (.tail _ (.head _)))))) (fun h' F' N' => h h' F' ?_) (by rw [List.size_toArray, sizeLine_eq]; omega)
  rwa [List.push_toArray] at N'
theorem due_len {pre : List Int} {j : Nat} {c : LS} (I : LawInv pre j c) : c.vs.length = j := by rw [I.due.length, List.length_map, I.len]
theorem inv_next {pre ks : List Int} {k : Int} {c : LS} {OC OC' f : List Int} {b' : Array UInt8} {tb' tw' tat' t : Tok} {wr' : Int} {nt' nd' : Nat}
    (I : LawInv pre ks.length c) (hk : k = (ks.length : Int)) (hm : f ∈ menuI) (hO : KBw.bInts c.b = OC) (eO : OC' = if 0 < k then OC ++ [46] else OC) (hb : KBw.bInts b' = OC' ++ f)
    (hw : wr' = if good f = true then c.wr else if c.wr < 0 then (OC'.length : Int) else c.wr) :
    LawInv pre (ks ++ [k]).length ⟨b', tb', wr', tw', c.vs ++ [Value.int (dueOf f) t], nd', c.at_ + 1 + 1, tat', nt', c.fss ++ [f]⟩ := by
  have hl : (ks ++ [k]).length = ks.length + 1 := by simp
  have hO' : OC = pre ++ joinD c.fss := by rw [← hO]; exact I.octs
  have hlen : (OC.length : Int) = pathEnd (pre.length : Int) c.fss := by rw [hO', List.length_append, ← joinD_len]; omega
  rw [hl]
  refine ⟨by simp [I.len], ?_, ?_, ?_, ?_, ?_, ?_⟩
  · intro g hg
    rcases List.mem_append.mp hg with hg | hg
    · exact I.menu g hg
    · rw [List.mem_singleton.mp hg]; exact hm
  · show KBw.bInts b' = pre ++ joinD (c.fss ++ [f])
    rw [hb, eO, hO']
    by_cases h0 : 0 < k
    · have hne : c.fss ≠ [] := fun e => by have := I.len; rw [e] at this; simp at this; omega
      rw [if_pos h0, joinD_snoc f hne]; simp
    · have he : c.fss = [] := List.length_eq_zero_iff.mp (by have := I.len; omega)
      rw [if_neg h0, he, joinD_nil, List.nil_append, joinD_one]; simp
  · show wr' = wrongOf (pre.length : Int) (c.fss ++ [f])
    have hcw := I.wrong
    by_cases h0 : 0 < k
    · have hne : c.fss ≠ [] := fun e => by have := I.len; rw [e] at this; simp at this; omega
      have e2 : (OC'.length : Int) = pathEnd (pre.length : Int) c.fss + 1 := by rw [eO, if_pos h0, List.length_append, ← hlen]; simp
      rw [wrong_snoc f (by omega) hne, hw, e2, hcw]
    · have he : c.fss = [] := List.length_eq_zero_iff.mp (by have := I.len; omega)
      have e2 : (OC'.length : Int) = (pre.length : Int) := by rw [eO, if_neg h0, hlen, he]; rfl
      have e3 : c.wr = -1 := by rw [hcw, he]; rfl
      rw [he, List.nil_append, wrong_first, hw, e2, e3]
      by_cases g : good f = true
      · rw [if_pos g, if_pos g]
      · rw [if_neg g, if_neg g, if_pos (by decide)]
  · show IntsAre (c.vs ++ [Value.int (dueOf f) t]) ((c.fss ++ [f]).map dueOf)
    rw [List.map_append]
    exact ints_snoc I.due
  · show 0 ≤ c.at_ + 1 + 1
    have := I.lo; omega
  · show c.at_ + 1 + 1 ≤ 10 + 3 * ((ks.length + 1 : Nat) : Int)
    have := I.hi; omega
theorem turn_end {m₀ m' : Str → Option Value} {ta ca du : Addr} {cvs : List Value} {nc : Nat} {own : List (Addr × Obj)} {s₁ : Shared} {h' : Heap} {tk : Nat} {pre ks : List Int} {k : Int} {c : LS} {OC OC' f : List Int} {b' : Array UInt8} {tb' tw' tat' t : Tok} {wr' : Int} {nt' nd' : Nat}
    (I : LawInv pre ks.length c) (hk : k = (ks.length : Int)) (hm : f ∈ menuI) (hO : KBw.bInts c.b = OC) (eO : OC' = if 0 < k then OC ++ [46] else OC) (hb : KBw.bInts b' = OC' ++ f)
    (F : Fr h₀ L h' m') (N : News h₀ L h' ((ta, listOf [Value.ref ca, .int (c.at_ + 1 + 1) tat'].toArray nt') :: (ca, listOf cvs.toArray nc) :: (du, listOf (c.vs ++ [Value.int (dueOf f) t]).toArray nd') :: own))
    (ho : m' (Str.ofString "octets") = some (.bytes b' tb')) (hw' : m' (Str.ofString "wrong") = some (.int wr' tw'))
    (hw : wr' = if good f = true then c.wr else if c.wr < 0 then (OC'.length : Int) else c.wr)
    (hr : ∀ z, z ≠ Str.ofString "turn" → z ≠ Str.ofString "octets" → z ≠ Str.ofString "wrong" → z ≠ Str.ofString "figures" → ([Str.ofString "figures"] : List Str).contains z = false → m' z = m₀ z) :
    InvEndN h₀ L (LawJ ta ca du cvs nc m₀ pre (ks ++ [k])) own [ta, ca, du] s₁ { s₁ with heap := h', toks := tk } :=
  law_end ⟨b', tb', wr', tw', c.vs ++ [Value.int (dueOf f) t], nd', c.at_ + 1 + 1, tat', nt', c.fss ++ [f]⟩ F N ho hw'
    (fun z z1 z2 z3 => hr z z1 (z2 _ (.head _)) (z2 _ (.tail _ (.head _))) (fun e => by rw [e] at z3; exact absurd z3 (by decide)) z3)
    (inv_next I hk hm hO eO hb hw)
theorem oct_now {OC : List Int} (k : Int) (h : OC.length ≤ 57) : OctNow OC k := h
end
local macro_rules | `(tactic| walk_at "subscriptTail") => `(tactic| (k_here; (with_reducible show wpAny _ _ (subscriptTail _ (Expr.Slice _ _ none _) (Value.bytes #[97, 98] _) (Value.ref _)) _ _ _); (with_reducible rename Fr _ _ _ _ => F'); (with_reducible rename News _ _ _ _ => N'); (refine cut_ab_c (s := ⟨_, _, _, _, _⟩) F' N' (by omega) (by omega) ?_); intro _ _ _ _ _ _ _ _ _))
local macro_rules | `(tactic| walk_at "call builtin:list.append") => `(tactic| (k_here; k_dflt (refine' due_append_c ?F ?N ?O ?a ?b ?c ?d ?l ?_; (case F => k_asm); (case N => k_asm); (case O => assumption); (case a => (refine ltN ?_; omega)); (case b => (refine ltN ?_; omega)); (case c => (refine ltN ?_; omega)); (case d => (refine ltN ?_; omega)); (case l => omega); intro h' F' N'; (try dsimp only); (try k_fold))))
local macro_rules | `(tactic| walk_at "callWith builtin:list.append") => `(tactic| (k_here; k_dflt (refine callWith_method1 ?_)))
local macro_rules | `(tactic| walk_at "InvEndN") => `(tactic| (k_here; k_dflt (refine' turn_end ?I ?hk ?hm ?hO ?eO ?hb ?F ?N ?ho ?hw' ?hw ?hr; (case I => assumption); (case hk => assumption); (case hm => assumption); (case F => k_asm); (case N => k_asm); (case ho => exact rfl); (case hw' => exact rfl); (case hb => assumption); (case hO => assumption); (case eO => assumption); (case hw => first | exact (if_pos (by assumption)).symm | (rw [if_neg (by first | assumption | exact Bool.eq_false_iff.mp (by assumption))]; first | exact (if_pos (by assumption)).symm | exact (if_neg (by assumption)).symm)); (case hr => (intro z z1 z2 z3 z4 z5; simp only [if_neg z1, if_neg z2, if_neg z3, if_neg z4, z5, Bool.false_eq_true, if_false])))))

theorem fss_len {pre : List Int} {kk : Int} {c : LS} (I : LawInv pre kk.toNat c) (h : kk < 6) : c.fss.length ≤ 5 := by rw [I.len]; omega
section
variable {w : World} {A : Around} {E Q : Value → Shared → Prop} {h₀ : Heap} {L : Addr} {m : Str → Option Value} {s : Shared}
variable {ta ca du l : Addr} {oa oc : Obj} {vs cvs : List Value} {ns : List Int} {nd nl nc nt : Nat} {own : List (Addr × Obj)} {a : Int} {tat : Tok} {fss : List (List Int)}
theorem ne_nil_c (N : News h₀ L s.heap ((l, listOf ([] : List Value).toArray nl) :: (ta, oa) :: (ca, oc) :: (du, listOf vs.toArray nd) :: own)) (hi : IntsAre vs (fss.map dueOf)) (hu : A.units + 64 < cLine)
    (h : ∀ b : Bool, (b = true → fss ≠ []) → (b = false → fss = []) → News h₀ L s.heap ((ta, oa) :: (ca, oc) :: (du, listOf vs.toArray nd) :: own) → Q (.bool b) s) :
    wpAny (model PySem.Challenge.rw_or0032_01.row.prog w) A (compareOp .NotEq (.ref du) (.ref l)) Q E s := by
  have hl : s.heap.IsList du vs.toArray := ⟨_, (N _ (.tail _ (.tail _ (.tail _ (.head _))))).1, rfl, _, rfl⟩
  have hl' : s.heap.IsList l ([] : List Value).toArray := ⟨_, (N _ (.head _)).1, rfl, _, rfl⟩
  refine ne_intsK hl hi hl' IntsAre.nil hu (h _ ?_ ?_ (news_fewer N fun p hp => .tail _ hp))
  · intro hb he
    rw [he] at hb
    exact absurd hb (by decide)
  · intro hb
    cases fss with
    | nil => rfl
    | cons f r => exact absurd hb (by simp)
def DrawnT (h₀ : Heap) (L : Addr) (m : Str → Option Value) (ta ca : Addr) (cvs : List Value) (nc : Nat) (a : Int) (own : List (Addr × Obj)) (fss : List (List Int)) (s : Shared) (v : Value) (s₁ : Shared) : Prop :=
  ∃ (r : Int) (t tat' : Tok) (nt' : Nat) (h' : Heap) (tk : Nat), v = .int r t ∧ s₁ = { s with heap := h', toks := tk } ∧ 0 ≤ r ∧ r < 7 ∧ (fss = [] → 2 ≤ r ∧ r < 5) ∧ Fr h₀ L h' m ∧ News h₀ L h' ((ta, listOf [Value.ref ca, .int (a + 1) tat'].toArray nt') :: (ca, listOf cvs.toArray nc) :: own)
theorem drawT_join {t : Sem Value} {pre : List Int} {j : Nat} {c : LS} (_I : LawInv pre j c) (_F : Fr h₀ L s.heap m) (_N : News h₀ L s.heap ((ta, listOf [Value.ref ca, .int a tat].toArray nt) :: (ca, listOf cvs.toArray nc) :: own))
    (first : wpAny (model PySem.Challenge.rw_or0032_01.row.prog w) A t (DrawnT h₀ L m ta ca cvs nc a own c.fss s) E s)
    (rest : ∀ (r : Int) (t tat' : Tok) (nt' : Nat) (h' : Heap) (tk : Nat), 0 ≤ r → r < 7 → (c.fss = [] → 2 ≤ r ∧ r < 5) → Fr h₀ L h' m → News h₀ L h' ((ta, listOf [Value.ref ca, .int (a + 1) tat'].toArray nt') :: (ca, listOf cvs.toArray nc) :: own) → Q (.int r t) { s with heap := h', toks := tk }) :
    wpAny (model PySem.Challenge.rw_or0032_01.row.prog w) A t Q E s := by
  refine wpAny_mono first (fun v s₁ h => ?_) fun _ _ x => x
  obtain ⟨r, t, tat', nt', h', tk, rfl, rfl, b, c, d, e, f⟩ := h
  exact rest r t tat' nt' h' tk b c d e f
theorem drawnT_of {r : Int} {t tat' : Tok} {nt' : Nat} {h' : Heap} {tk : Nat} (F : Fr h₀ L h' m) (N : News h₀ L h' ((ta, listOf [Value.ref ca, .int (a + 1) tat'].toArray nt') :: (ca, listOf cvs.toArray nc) :: own)) (h0 : 0 ≤ r) (h1 : r < 7) (h2 : fss = [] → 2 ≤ r ∧ r < 5) : DrawnT h₀ L m ta ca cvs nc a own fss s (.int r t) { s with heap := h', toks := tk } :=
  ⟨r, t, tat', nt', h', tk, rfl, rfl, h0, h1, h2, F, N⟩
end
local macro_rules | `(tactic| walk_at "compareOp NotEq ref ref") => `(tactic| (k_here; (with_reducible rename Behind => bh'); k_dflt (refine' ne_nil_c ?N ?i ?u ?_; (case N => k_asm); (case i => exact LawInv.due (by assumption)); (case u => units_room); intro b' b1' b0' N'; (try dsimp only); (try k_fold))))
local macro_rules | `(tactic| walk_at "eval IfExp") => `(tactic| (k_here; (with_reducible rename Behind => bh'); (fail_if_success (with_reducible show wpAny _ _ _ (DrawnT _ _ _ _ _ _ _ _ _ _ _) _ _)); (rename Fr _ _ _ _ => lF'); (rename News _ _ _ _ => lN'); (rename LawInv _ _ _ => lI'); k_dflt (refine' drawT_join lI' lF' lN' ?_ ?_; rotate_left; (intro r t tat' nt' h' tk r1' r2' r3' F' N'; (try dsimp only); (try k_fold)); rotate_left)))
local macro_rules | `(tactic| walk_at "DrawnT") => `(tactic| (k_here; k_dflt (refine' drawnT_of ?kF ?kN ?k1 ?k2 ?k3; (case kF => k_asm); (case kN => k_asm); (case k1 => omega); (case k2 => omega); (case k3 => first | (intro e; exact absurd e (by first | assumption | exact (by assumption : _ → _) (by assumption))) | (intro _; exact ⟨by omega, by omega⟩)))))

theorem pk_app (p q : List Int) (n : Nat) : pk (p ++ q) ((p.length : Int) + (n : Int)) = pk q (n : Int) := by
  unfold pk
  have e : ((p.length : Int) + (n : Int) < ((p ++ q).length : Int)) ↔ ((n : Int) < (q.length : Int)) := by rw [List.length_append]; omega
  by_cases h : (n : Int) < (q.length : Int)
  · rw [if_pos (e.mpr h), if_pos h]
    have t1 : ((p.length : Int) + (n : Int)).toNat = p.length + n := by omega
    have t2 : ((n : Int)).toNat = n := by omega
    rw [t1, t2]
    simp [List.getD_eq_getElem?_getD, List.getElem?_append_right]
  · rw [if_neg (fun z => h (e.mp z)), if_neg h]
theorem pk_app0 (p q : List Int) : pk (p ++ q) (p.length : Int) = pk q 0 := by
  have := pk_app p q 0
  rw [show (p.length : Int) + ((0 : Nat) : Int) = (p.length : Int) by omega] at this
  exact this
theorem pk_cons (x : Int) (q : List Int) : pk (x :: q) 0 = x := by
  unfold pk
  rw [if_pos (by rw [List.length_cons]; omega)]
  rfl
theorem menu_figs {f : List Int} (h : f ∈ menuI) : ∀ j : Nat, j < f.length → 48 ≤ f.getD j 0 ∧ f.getD j 0 ≤ 57 := by
  have : ∀ g ∈ menuI, ∀ j : Fin 10, j.val < g.length → 48 ≤ g.getD j.val 0 ∧ g.getD j.val 0 ≤ 57 := by decide
  intro j hj
  exact this f h ⟨j, by have := (menu_len h).2; omega⟩ hj
theorem run_built {p f rest : List Int} (hf : f ∈ menuI) (hr : ¬ (48 ≤ pk rest 0 ∧ pk rest 0 ≤ 57)) : RunAt (p ++ (f ++ rest)) (p.length : Int) f where
  at_ := fun j hj => by
    refine ⟨?_, menu_figs hf j hj⟩
    rw [pk_app]
    unfold pk
    rw [if_pos (by rw [List.length_append]; omega)]
    have t2 : ((j : Int)).toNat = j := by omega
    rw [t2]
    simp [List.getD_eq_getElem?_getD, List.getElem?_append_left hj]
  stop := by
    have e : pk (p ++ (f ++ rest)) ((p.length : Int) + (f.length : Int)) = pk rest 0 := by
      rw [pk_app]
      exact pk_app0 f rest
    rw [e]
    exact hr
  some := (menu_len hf).1
  few := (menu_len hf).2
theorem tails_head {t : List Int} (h : t ∈ tailsI) : ¬ (48 ≤ pk t 0 ∧ pk t 0 ≤ 57) := by
  have : ∀ g ∈ tailsI, ¬ (48 ≤ pk g 0 ∧ pk g 0 ≤ 57) := by decide
  exact this t h
theorem tails_none {t : List Int} (h : t ∈ tailsI) : ¬ (pk t 0 = 46 ∧ fig (pk t 1) = true) := by
  have : ∀ g ∈ tailsI, ¬ (pk g 0 = 46 ∧ fig (pk g 1) = true) := by decide
  exact this t h
/-- what stands behind a number: the others, then the tail -/
def behindD (r : List (List Int)) (t : List Int) : List Int := (r.map fun f => (46 : Int) :: f).flatten ++ t
theorem behindD_head {r : List (List Int)} {t : List Int} (h : t ∈ tailsI) : ¬ (48 ≤ pk (behindD r t) 0 ∧ pk (behindD r t) 0 ≤ 57) := by
  cases r with
  | nil => exact tails_head h
  | cons f r =>
    have e : pk (behindD (f :: r) t) 0 = 46 := pk_cons 46 _
    rw [e]
    decide
theorem tail_built {t : List Int} (ht : t ∈ tailsI) : ∀ (r : List (List Int)) (p : List Int), (∀ f ∈ r, f ∈ menuI) → Tail (p ++ behindD r t) (p.length : Int) r
  | [], p, _ => by
    show ¬ (pk (p ++ t) (p.length : Int) = 46 ∧ fig (pk (p ++ t) ((p.length : Int) + 1)) = true)
    have e1 := pk_app p t 1
    rw [pk_app0]
    rw [show ((1 : Nat) : Int) = 1 from rfl] at e1
    rw [e1]
    exact tails_none ht
  | f :: r, p, h => by
    have e : behindD (f :: r) t = (46 : Int) :: (f ++ behindD r t) := by simp [behindD]
    have e2 : p ++ behindD (f :: r) t = (p ++ [46]) ++ (f ++ behindD r t) := by rw [e]; simp
    have e3 : p ++ behindD (f :: r) t = (p ++ [46] ++ f) ++ behindD r t := by rw [e]; simp
    have l1 : ((p ++ [46] : List Int).length : Int) = (p.length : Int) + 1 := by rw [List.length_append]; rfl
    have l2 : ((p ++ [46] ++ f : List Int).length : Int) = (p.length : Int) + 1 + (f.length : Int) := by rw [List.length_append]; omega
    refine ⟨?_, ?_, ?_⟩
    · rw [pk_app0, e]; exact pk_cons _ _
    · have := run_built (p := p ++ [46]) (h f (.head _)) (behindD_head (r := r) ht)
      rw [l1, ← e2] at this
      exact this
    · have := tail_built ht r (p ++ [46] ++ f) fun g hg => h g (.tail _ hg)
      rw [l2, ← e3] at this
      exact this
theorem path_built {pre t : List Int} {fss : List (List Int)} (hm : ∀ f ∈ fss, f ∈ menuI) (ht : t ∈ tailsI) (h0 : fss = [] → fig (pk t 0) = false) : PathAt (pre ++ joinD fss ++ t) (pre.length : Int) fss := by
  cases fss with
  | nil =>
    show fig (pk (pre ++ joinD [] ++ t) (pre.length : Int)) = false
    rw [joinD_nil, List.append_nil, pk_app0]
    exact h0 rfl
  | cons f r =>
    have e1 : pre ++ joinD (f :: r) ++ t = pre ++ (f ++ behindD r t) := by rw [joinD_cons]; simp [behindD]
    have e2 : pre ++ joinD (f :: r) ++ t = (pre ++ f) ++ behindD r t := by rw [joinD_cons]; simp [behindD]
    have l2 : ((pre ++ f : List Int).length : Int) = (pre.length : Int) + (f.length : Int) := by rw [List.length_append]; omega
    refine ⟨?_, ?_⟩
    · rw [e1]; exact run_built (hm f (.head _)) (behindD_head ht)
    · have := tail_built ht r (pre ++ f) fun g hg => hm g (.tail _ hg)
      rw [l2, ← e2] at this
      exact this
theorem tail_at {r : Int} {t : List Int} (h : tailsI[r.toNat]? = some t) : t ∈ tailsI := List.mem_of_getElem? h
theorem tail_at0 {r : Int} {t : List Int} (h : tailsI[r.toNat]? = some t) (h2 : 2 ≤ r) (h5 : r < 5) : fig (pk t 0) = false := by
  have c : r = 2 ∨ r = 3 ∨ r = 4 := by omega
  rcases c with rfl | rfl | rfl <;> (cases (Option.some.inj h); decide)
theorem badT_none : ∀ (r : List (List Int)) (p : Int), badT p r = none → ∀ f ∈ r, good f = true
  | g :: r, p, h, f, hf => by
    have h' : (if good g = true then badT (p + 1 + (g.length : Int)) r else some (p + 1)) = none := h
    by_cases hg : good g = true
    · rw [if_pos hg] at h'
      rcases List.mem_cons.mp hf with rfl | hf
      · exact hg
      · exact badT_none r _ h' f hf
    · rw [if_neg hg] at h'; cases h'
theorem pathBad_none {i : Int} {fss : List (List Int)} (h : pathBad i fss = none) : ∀ f ∈ fss, good f = true := by
  cases fss with
  | nil => intro f hf; cases hf
  | cons g r =>
    have h' : (if good g = true then badT (i + (g.length : Int)) r else some i) = none := h
    by_cases hg : good g = true
    · rw [if_pos hg] at h'
      intro f hf
      rcases List.mem_cons.mp hf with rfl | hf
      · exact hg
      · exact badT_none r _ h' f hf
    · rw [if_neg hg] at h'; cases h'
theorem due_val {i : Int} {fss : List (List Int)} (h : pathBad i fss = none) : fss.map valOf = fss.map dueOf :=
  List.map_congr_left fun f hf => by unfold dueOf; rw [if_pos (pathBad_none h f hf)]

theorem off3 {ta ca du c dc : Addr} {oa oc od : Obj} (h1 : @LT.lt Nat _ ta dc) (h2 : @LT.lt Nat _ ca dc) (h3 : @LT.lt Nat _ du dc) (h4 : @LT.lt Nat _ dc c) : OwnOff [(ta, oa), (ca, oc), (du, od)] [c, dc] := by
  have k : ∀ x : Nat, x < dc → ∀ b ∈ [c, dc], x ≠ b := fun x hx b hb => by
    rcases List.mem_cons.mp hb with rfl | hb
    · exact Nat.ne_of_lt (Nat.lt_trans hx h4)
    · rw [List.mem_singleton.mp hb]; exact Nat.ne_of_lt hx
  intro p hp
  rcases List.mem_cons.mp hp with rfl | hp
  · exact k _ h1
  · rcases List.mem_cons.mp hp with rfl | hp
    · exact k _ h2
    · rw [List.mem_singleton.mp hp]; exact k _ h3
section
variable {w : World} {mean : ExcName → Option Value} {mg mb : Str → Option Value} {dp un : Nat} {gd : Option (List Code)} {cn : Str} {cs : Scope} {a : Addr} {ccd : Value} {cl : List (Str × Addr)} {outer : List Env} {A₀ : Around} {base h₀ : Heap} {L : Addr} {m : Str → Option Value} {s : Shared} {Q E : Value → Shared → Prop}
variable {c dc : Addr} {own : List (Addr × Obj)} {h1 h2 h3 : Int} {k1 k2 k3 : Tok} {d : Array UInt8} {td : Tok} {i : Int} {ti te : Tok}
theorem path_law_c {pre OC f : List Int} {lc : LS} {kk r : Int} {own : List (Addr × Obj)}
    (B : Below A₀ base outer h₀) (F : Fr h₀ L s.heap m) (X : (hd.heap_39 w.params).In h₀)
    (N : News h₀ L s.heap ((c, instObj 164 dc) :: (dc, curO h1 h2 h3 k1 k2 k3 d td i ti ((OC.length + f.length : Nat) : Int) te) :: own))
    (O : OwnOff own [c, dc]) (hcd : @LT.lt Nat _ dc c)
    (T : Top hd.view_39 (looseW hd.view_39 [Str.ofString "PostError"]) mean mg mb h₀) (hk : cs.kind = .function)
    (hdp : dp + 10 < recursionLimit) (hu : un + 80 < cLine)
    (I : LawInv pre kk.toNat lc) (hkk : kk < 6) (hI : KBw.bInts d = OC ++ f) (eOC : OC = pre ++ joinD lc.fss) (lOC : OC.length ≤ 57) (hpre : (pre.length : Int) = i) (hf : tailsI[r.toNat]? = some f) (lf : f.length ≤ 5) (h0 : lc.fss = [] → 2 ≤ r ∧ r < 5)
    (ret : lc.wr < 0 → ∀ (tup : Addr) (vs : List Value) (ti' : Tok) (h' : Heap) (tk' : Nat), IntsAre vs (lc.fss.map dueOf) → Fr h₀ L h' m → News h₀ L h' ((tup, tupObj vs) :: (c, instObj 164 dc) :: (dc, curO h1 h2 h3 k1 k2 k3 d td (OC.length : Int) ti' ((OC.length + f.length : Nat) : Int) te) :: own) → Q (.ref tup) { s with heap := h', toks := tk' })
    (exc : 0 ≤ lc.wr → ∀ (e D : Addr) (g h' : Heap) (tk' : Nat) (i1 i2 : Int) (u1 u2 u3 u4 : Tok), Fr h₀ L g m → Flies base g (envX cn cs L a ccd cl :: outer) e D [(D, faultD i1 i2 u1 u2 u3 u4 lc.wr)] h' → g.UpToSlots h' → E (.ref e) { s with heap := h', toks := tk' }) :
    wpAny (model PySem.Challenge.rw_or0032_01.row.prog w) (ktrTop dp un gd cn cs L a ccd cl outer) (call (.ref 82) [.ref c]) Q E s := by
  subst hpre
  have P : PathAt (OC ++ f) (pre.length : Int) lc.fss := by
    rw [eOC]
    exact path_built I.menu (tail_at hf) fun e => tail_at0 hf (h0 e).1 (h0 e).2
  have hlen : (OC ++ f).length = OC.length + f.length := List.length_append
  have hend : pathEnd (pre.length : Int) lc.fss = (OC.length : Int) := by rw [eOC, List.length_append, ← joinD_len]; omega
  have hfs : lc.fss.length ≤ 90 := by rw [I.len]; omega
  rw [← hlen] at N ret
  refine take_path_c B F X N O hcd T hk hdp hu hI (by rw [hlen]; omega) (by omega) (by rw [hlen, eOC, List.length_append]; omega) hfs P ?_ ?_
  · intro hb tup vs ti' h' tk' hv F' N'
    rw [hend] at N'
    rw [due_val hb] at hv
    exact ret (by rw [I.wrong, wrong_none hb]; decide) tup vs ti' h' tk' hv F' N'
  · intro x hx e D g h' tk' i1 i2 u1 u2 u3 u4 F' R U
    have hw : lc.wr = x := by rw [I.wrong, wrong_some hx]
    have hx0 := pathBad_ge hx
    rw [← hw] at R
    exact exc (by omega) e D g h' tk' i1 i2 u1 u2 u3 u4 F' R U
end
local macro_rules | `(tactic| walk_at "call ref") => `(tactic| (k_here; (with_reducible show wpAny _ _ (call (Value.ref 82) _) _ _ _); (with_reducible rename Behind => bh'); k_dflt (
  refine' path_law_c ?kB ?kF ?kX ?kN ?kO ?kc ?kT ?kk ?kd ?ku ?kI ?k0 ?kI2 ?kE ?k1 ?k2 ?k3 ?k4 ?k5 ?_ ?_; (walk_at "mine sides"); (case kO => (refine off3 ?_ ?_ ?_ ?_ <;> (refine ltN ?_; omega))); (case kc => (refine ltN ?_; omega)); (case kI => assumption); (case k0 => omega); (case kI2 => assumption); (case kE => assumption); (case k1 => assumption); (case k2 => assumption); (case k3 => assumption); (case k4 => assumption); (case k5 => assumption);
  rotate_left; (intro hw' e' D' g' h' tk' i1' i2' u1' u2' u3' u4' F' R' U'; (try dsimp only); (try k_fold)); rotate_left; (intro hw' tup' vs' ti' h' tk' hv' F' N'; (try dsimp only); (try k_fold)))))

local macro_rules | `(tactic| walk_at "noteFrame ref") => `(tactic| (k_here; (with_reducible rename Flies _ _ _ _ _ _ _ => flX'); k_dflt (refine' caught_own ?K ?F flX' ?U ?X ?TB ?T ?_ ?hk ?hlo; (case K => assumption); (case F => assumption); (case U => assumption); (case X => k_asm); (case TB => k_asm); (case T => kts_test); (case hk => exact rfl); (case hlo => exact rfl); clear flX'; intro h' tp' tb' tk' F' N'; (try dsimp only); (try k_sweep))))

section
open PySem.SeqAt PySem.Spec PyProof.V
variable {w : World} {A : Around} {E Q : Value → Shared → Prop} {h₀ : Heap} {L : Addr} {m : Str → Option Value} {s : Shared}
variable {tup du D : Addr} {vs us : List Value} {ms : List Int} {nd : Nat} {news rest : List (Addr × Obj)}
theorem reads_tup_ints {h : Heap} {x : Addr} {ns : List Int} (ho : h.get? x = some (tupObj vs)) (hi : IntsAre vs ns) : Reads h (.ref x) (.tuple (ns.map PyData.int)) [] :=
  Reads.tuple ho rfl rfl (by simpa using readsAll_of_ints hi)
theorem shaped_tup (ns : List Int) : shaped (.tuple (ns.map PyData.int)) = true := by
  have h1 := W.depthAll_ints ns
  have h2 : PyData.depth (.tuple (ns.map PyData.int)) ≤ 64 := by simp only [PyData.depth]; omega
  show (PyData.canLay0 (.tuple (ns.map PyData.int)) && decide (PyData.depth (.tuple (ns.map PyData.int)) ≤ 64)) = true
  rw [Bool.and_eq_true]
  exact ⟨by simp only [PyData.canLay0]; exact W.canLayAll0_ints ns, decide_eq_true h2⟩
theorem tup_eq_c (N : News h₀ L s.heap ((D, tupObj vs) :: (tup, tupObj us) :: news)) (h1 : IntsAre us ms) (h2 : IntsAre vs ms) (hu : A.units + 64 < cLine) (h : Q (.bool true) s) :
    wpAny (model PySem.Challenge.rw_or0032_01.row.prog w) A (compareOp .Eq (.ref tup) (.ref D)) Q E s :=
  eq_dataH_same (reads_tup_ints (N _ (.tail _ (.head _))).1 h1) (reads_tup_ints (N _ (.head _)).1 h2) (shaped_tup ms) (shaped_tup ms) hu (by simp only [noMix]; exact noMix_ints ms ms) (by simp only [PySem.Spec.same]; rw [same_ints, decide_eq_true rfl]; exact h)
theorem due_tuple_c {c1 c2 a1 a2 : Addr × Obj} (F : Fr h₀ L s.heap m) (N : News h₀ L s.heap ((tup, tupObj us) :: c1 :: c2 :: a1 :: a2 :: (du, listOf vs.toArray nd) :: rest)) (hl : vs.length ≤ 5)
    (h : ∀ D h', Fr h₀ L h' m → News h₀ L h' ((D, tupObj vs) :: (tup, tupObj us) :: c1 :: c2 :: a1 :: a2 :: (du, listOf vs.toArray nd) :: rest) → Q (.ref D) { s with heap := h' }) :
    wpAny (model PySem.Challenge.rw_or0032_01.row.prog w) A (call (.type "tuple") [.ref du]) Q E s :=
  kde_tupleOf F N ⟨_, (N _ (.tail _ (.tail _ (.tail _ (.tail _ (.tail _ (.head _))))))).1, rfl, _, rfl⟩ (by rw [List.size_toArray]; omega) rfl fun D h' F' N' _ => h D h' F' N'
end
local macro_rules | `(tactic| walk_at "call type:tuple") => `(tactic| (k_here; (with_reducible rename Behind => bh'); k_dflt (refine' due_tuple_c ?F ?N ?l ?_; (case F => k_asm); (case N => k_asm); (case l => omega); intro D' h' F' N'; (try dsimp only); (try k_fold))))
local macro_rules | `(tactic| walk_at "compareOp Eq ref ref") => `(tactic| (k_here; (with_reducible rename Behind => bh'); k_dflt (refine' tup_eq_c ?N ?i ?j ?u ?_; (case N => k_asm); (case i => assumption); (case j => assumption); (case u => units_room); (try dsimp only); (try k_fold))))

local macro_rules | `(tactic| walk_at "pyIter ref") => `(tactic| (k_here; (rename OffAll _ _ _ _ => oa'); (rename Fr _ _ _ _ => lF'); (rename News _ _ _ _ => lN'); (rename IsRange _ _ _ _ _ _ _ _ => lR'); (
  (k_dflt (refine' law_for ?hh lR' ?k0 ?k5 lF' lN' ?ho ?hw ?hp ?l1 ?l2 ?l3 ?a0 ?a1 ?turn ?done));
  (case hh => k_dflt (exact rfl)); (case k0 => omega); (case k5 => omega); (case ho => k_dflt (exact rfl)); (case hw => k_dflt (exact rfl)); (case hp => assumption); (case l1 => (refine ltN ?_; omega)); (case l2 => (refine ltN ?_; omega)); (case l3 => (refine ltN ?_; omega)); (case a0 => omega); (case a1 => omega);
  (case' turn => (clear oa'; intro lc lks lk lt lu lh ltk lown lhk lhl lO lOA lI lF lN; (obtain ⟨lOC, lhOC, leOC, llOC⟩ := inv_len lI (by omega) (by omega)); (have lon := oct_now lk llOC); (have lhi := lI.hi); (have llo := lI.lo); (have ldl := due_len lI); (try dsimp only); (try k_fold)));
  (case' done => (intro lc lu lh ltk lI lF lN; (obtain ⟨lOC, lhOC, leOC, llOC⟩ := inv_len lI (by omega) (by omega)); (have lhi := lI.hi); (have llo := lI.lo); (have ldl := due_len lI); (have lfl := fss_len lI (by omega)); (have ldu := lI.due); (have lbh := behind_); (try dsimp only); (try k_fold))))))

set_option maxRecDepth 100000 in
set_option maxHeartbeats 8000000 in
theorem law_all : PySem.Challenge.rw_or0032_01.Holds := hd (by
  k_with_none
  k_go0
  all_goals (try k_fold)
  k_steps)

end Mine
theorem PySem.Challenge.cw_or0032_01_holds : PySem.Challenge.rw_or0032_01.Holds := by
  exact Mine.law_all
