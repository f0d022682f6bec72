import PyProof.Rows.All
import Wide.All
import OpenK.AllK
import Wide.FinOn
import Lean
import PySem.Challenge.RW_nz0283_01
open PySem PySem.W PyProof.Rows
set_option Elab.async false
set_option linter.all false
set_option maxRecDepth 100000
set_option maxHeartbeats 8000000
local macro_rules | `(tactic| walk_at $k:str) => `(tactic| k_extra $k)
local macro_rules | `(tactic| k_all) => `(tactic| assumption)
/-! HD -/
namespace Mine
open_top hd for PySem.Challenge.rw_nz0283_01
end Mine

/-! HC -/
namespace Mine
open PySem PySem.Spec PySem.Calls PyProof.Rows PyProof.V

/-- a call of the def at f with the values vs, in any caller's frame: it comes back with R t, the caller's frame and ledger as they were -/
def MC (d : Nat) (f : Addr) (vs : List Value) (R : Tok → Value) : Prop :=
  ∀ (w : World) (mean : ExcName → Option Value) (mg mb : Str → Option Value) (dp un : Nat) (gd : Option (List Code)) (cn : Str) (cs : Scope) (a : Addr) (ccd : Value) (cl : List (Str × Addr)) (outer : List Env) (A₀ : Around) (base h₀ : Heap) (L : Addr) (m : Str → Option Value) (news : List (Addr × Obj)) (s : Shared) (Q E : Value → Shared → Prop),
    Below A₀ base outer h₀ → Fr h₀ L s.heap m → (Mine.hd.heap_39 w.params).In h₀ → News h₀ L s.heap news → Top Mine.hd.view_39 (looseW Mine.hd.view_39 [Str.ofString "PostError", Str.ofString "MOST_ZONE"]) mean mg mb h₀ → cs.kind = .function →
    dp + d < recursionLimit → un + 200 + 8 * d < cLine →
    (∀ (t : Tok) (h' : Heap) (tk' : Nat), Fr h₀ L h' m → News h₀ L h' news → Q (R t) { s with heap := h', toks := tk' }) →
    wpAny (model Challenge.rw_nz0283_01.row.prog w) (ktrTop dp un gd cn cs L a ccd cl outer) (call (.ref f) vs) Q E s
/-- as MC, and every object that stood before the call stands as it was -/
def MK (d : Nat) (f : Addr) (vs : List Value) (R : Tok → Value) : Prop :=
  ∀ (w : World) (mean : ExcName → Option Value) (mg mb : Str → Option Value) (dp un : Nat) (gd : Option (List Code)) (cn : Str) (cs : Scope) (a : Addr) (ccd : Value) (cl : List (Str × Addr)) (outer : List Env) (A₀ : Around) (base h₀ : Heap) (L : Addr) (m : Str → Option Value) (s : Shared) (Q E : Value → Shared → Prop),
    Below A₀ base outer h₀ → Fr h₀ L s.heap m → (Mine.hd.heap_39 w.params).In h₀ → Top Mine.hd.view_39 (looseW Mine.hd.view_39 [Str.ofString "PostError", Str.ofString "MOST_ZONE"]) mean mg mb h₀ → cs.kind = .function →
    dp + d < recursionLimit → un + 200 + 8 * d < cLine →
    (∀ (t : Tok) (h' : Heap) (tk' : Nat), Fr h₀ L h' m → (∀ b o, s.heap.get? b = some o → h'.get? b = some o) → Q (R t) { s with heap := h', toks := tk' }) →
    wpAny (model Challenge.rw_nz0283_01.row.prog w) (ktrTop dp un gd cn cs L a ccd cl outer) (call (.ref f) vs) Q E s
theorem MK.mc {d : Nat} {f : Addr} {vs : List Value} {R : Tok → Value} (C : MK d f vs R) : MC d f vs R :=
  fun w mean mg mb dp un gd cn cs a ccd cl outer A₀ base h₀ L m _ s Q E B F X N T hk hd hu ret =>
    C w mean mg mb dp un gd cn cs a ccd cl outer A₀ base h₀ L m s Q E B F X T hk hd hu fun t h' tk' F' k => ret t h' tk' F' (N.grown k)
theorem mk_use {d : Nat} {f : Addr} {vs : List Value} {R : Tok → Value} (C : MK d f vs R)
   {w : World} {mean : ExcName → Option Value} {mg mb : Str → Option Value} {dp un : Nat} {gd : Option (List Code)} {cn : Str} {cs : Scope} {a : Addr} {ccd : Value} {cl : List (Str × Addr)} {outer : List Env} {A₀ : Around} {base h₀ : Heap} {L : Addr} {m : Str → Option Value} {news : List (Addr × Obj)} {s : Shared} {H : Heap} {Q E : Value → Shared → Prop}
    (B : Below A₀ base outer h₀) (F : Fr h₀ L s.heap m) (X : (Mine.hd.heap_39 w.params).In h₀) (N : News h₀ L s.heap news) (T : Top Mine.hd.view_39 (looseW Mine.hd.view_39 [Str.ofString "PostError", Str.ofString "MOST_ZONE"]) mean mg mb h₀) (hk : cs.kind = .function)
    (hd : dp + d < recursionLimit) (hu : un + 200 + 8 * d < cLine) (I : InElt H s.heap)
    (ret : ∀ (t : Tok) (h' : Heap) (tk' : Nat), Fr h₀ L h' m → News h₀ L h' news → InElt H h' → Q (R t) { s with heap := h', toks := tk' }) :
    wpAny (model Challenge.rw_nz0283_01.row.prog w) (ktrTop dp un gd cn cs L a ccd cl outer) (call (.ref f) vs) Q E s :=
  C w mean mg mb dp un gd cn cs a ccd cl outer A₀ base h₀ L m s Q E B F X T hk hd hu fun t h' tk' F' k => ret t h' tk' F' (N.grown k) fun b o e => k b o (I b o e)
theorem mk_ret {h₀ g h' : Heap} {L L' : Addr} {m m' : Str → Option Value} {s : Shared} {Q : Value → Shared → Prop} {R : Tok → Value} {v : Value} {tk' : Nat}
    (hret : ∀ (t : Tok) (h' : Heap) (tk' : Nat), Fr h₀ L h' m → (∀ b o, s.heap.get? b = some o → h'.get? b = some o) → Q (R t) { s with heap := h', toks := tk' }) (t : Tok) (e : v = R t) (F : Fr h₀ L h' m) (G : GSub s.heap g []) (F' : Fr g L' h' m') : Q v { s with heap := h', toks := tk' } := by
  subst e
  exact hret t h' tk' F fun b o e => F'.keep b o (G b o e (by simp))

theorem mk_int {h₀ g h' : Heap} {L L' : Addr} {m m' : Str → Option Value} {s : Shared} {Q : Value → Shared → Prop} {v v' : Int} {t : Tok} {tk' : Nat}
    (hret : ∀ (t : Tok) (h' : Heap) (tk' : Nat), Fr h₀ L h' m → (∀ b o, s.heap.get? b = some o → h'.get? b = some o) → Q (.int v t) { s with heap := h', toks := tk' }) (e : v' = v) (F : Fr h₀ L h' m) (G : GSub s.heap g []) (F' : Fr g L' h' m') : Q (.int v' t) { s with heap := h', toks := tk' } := by
  subst e
  exact mk_ret (R := fun t => .int v' t) hret t rfl F G F'
theorem mk_str {h₀ g h' : Heap} {L L' : Addr} {m m' : Str → Option Value} {s : Shared} {Q : Value → Shared → Prop} {v v' : Str} {t : Tok} {tk' : Nat}
    (hret : ∀ (t : Tok) (h' : Heap) (tk' : Nat), Fr h₀ L h' m → (∀ b o, s.heap.get? b = some o → h'.get? b = some o) → Q (.str v t) { s with heap := h', toks := tk' }) (e : v' = v) (F : Fr h₀ L h' m) (G : GSub s.heap g []) (F' : Fr g L' h' m') : Q (.str v' t) { s with heap := h', toks := tk' } := by
  subst e
  exact mk_ret (R := fun t => .str v' t) hret t rfl F G F'
theorem mk_bool {h₀ g h' : Heap} {L L' : Addr} {m m' : Str → Option Value} {s : Shared} {Q : Value → Shared → Prop} {v v' : Bool} {tk' : Nat}
    (hret : ∀ (t : Tok) (h' : Heap) (tk' : Nat), Fr h₀ L h' m → (∀ b o, s.heap.get? b = some o → h'.get? b = some o) → Q (.bool v) { s with heap := h', toks := tk' }) (e : v' = v) (F : Fr h₀ L h' m) (G : GSub s.heap g []) (F' : Fr g L' h' m') : Q (.bool v') { s with heap := h', toks := tk' } := by
  subst e
  exact mk_ret (R := fun _ => .bool v') hret 0 rfl F G F'


end Mine

/-! L1 -/
namespace Mine
open PySem PySem.Spec PySem.Calls PyProof.Rows PyProof.V

/-! two lists of texts compared -/
theorem canLayAll0_strs : ∀ ns : List Str, (∀ x ∈ ns, PyData.strOk x = true) → PyData.canLayAll0 (ns.map PyData.str) = true
  | [], _ => by simp [PyData.canLayAll0]
  | x :: r, h => by
    simp only [List.map_cons, PyData.canLayAll0, PyData.canLay0, Bool.and_eq_true]
    exact ⟨h x (List.mem_cons_self ..), canLayAll0_strs r fun y hy => h y (List.mem_cons_of_mem _ hy)⟩
theorem depthAll_strs : ∀ ns : List Str, PyData.depthAll (ns.map PyData.str) = 0
  | [] => by simp [PyData.depthAll]
  | x :: r => by simp [PyData.depthAll, PyData.depth, depthAll_strs r]
theorem shaped_strs (ns : List Str) (h : ∀ x ∈ ns, PyData.strOk x = true) : SeqAt.shaped (.list (ns.map PyData.str)) = true := by
  simp [SeqAt.shaped, PyData.canLay0, PyData.depth, canLayAll0_strs ns h, depthAll_strs]
theorem same_nil (ns : List Str) : PySem.Spec.same (.list (ns.map PyData.str)) (.list []) = ns.isEmpty := by
  cases ns with
  | nil => simp [PySem.Spec.same, PySem.Spec.sameAll]
  | cons x r => simp [PySem.Spec.same, PySem.Spec.sameAll]
section
variable {prog : Program} {w : World} {A : Around} {E : Value → Shared → Prop} {s : Shared} {a b : Addr} {xs : List Value} {ns : List Str} {Q : Value → Shared → Prop}
theorem eq_strs_nil (ha : s.heap.IsList a xs.toArray) (hb : s.heap.IsList b #[]) (hi : CarriedAll xs (ns.map PyData.str)) (hn : ∀ x ∈ ns, PyData.strOk x = true) (hu : A.units + 64 < cLine) (h : Q (.bool ns.isEmpty) s) :
    wpAny (model prog w) A (compareOp .Eq (.ref a) (.ref b)) Q E s :=
  eq_dataH_same (reads_newData ha hi) (reads_newData (ys := []) (ds := []) (by simpa using hb) .nil) (shaped_strs ns hn) (by rfl) hu (SeqAt.noMix_of_shape (.list .str) rfl _ _ (list_map_has fun _ => rfl) (by rfl)) (by rw [same_nil]; exact h)
theorem ne_strs_nil (ha : s.heap.IsList a xs.toArray) (hb : s.heap.IsList b #[]) (hi : CarriedAll xs (ns.map PyData.str)) (hn : ∀ x ∈ ns, PyData.strOk x = true) (hu : A.units + 64 < cLine) (h : Q (.bool (!ns.isEmpty)) s) :
    wpAny (model prog w) A (compareOp .NotEq (.ref a) (.ref b)) Q E s :=
  ne_dataH_same (reads_newData ha hi) (reads_newData (ys := []) (ds := []) (by simpa using hb) .nil) (shaped_strs ns hn) (by rfl) hu (SeqAt.noMix_of_shape (.list .str) rfl _ _ (list_map_has fun _ => rfl) (by rfl)) (by rw [same_nil]; exact h)
end
/-- every sign of x is a code point -/
abbrev Pts (x : Str) : Prop := ∀ c ∈ x.cps.toList, c < 1114112
theorem pts_signs {x : Str} (hx : Pts x) (p : Str → Bool) : ∀ y ∈ (signs x).filter p, PyData.strOk y = true := by
  intro y hy
  have hy' := (List.mem_filter.mp hy).1
  unfold signs at hy'
  obtain ⟨c, hc, rfl⟩ := List.mem_map.mp hy'
  simp [PyData.strOk, hx c hc]

def figs (x : Str) : Bool := x.cps.toList.length != 0 && x.cps.toList.all (fun c => 48 ≤ c && c ≤ 57)
end Mine

/-! C1 -/
namespace Mine
open PySem PySem.Spec PySem.Calls PyProof.Rows PyProof.V


theorem lt_one (c d : Nat) : ([c] < [d]) ↔ c < d := by
  constructor
  · intro h
    cases h with
    | rel h => exact h
    | cons h => cases h
  · intro h
    exact List.Lex.rel h
theorem figs_filter (x : Str) : ((signs x).filter (fun a => if (!decide (a.cps.toList < (Str.ofString "0").cps.toList)) = true then !!decide ((Str.ofString "9").cps.toList < a.cps.toList) else !false)).isEmpty = x.cps.toList.all (fun c => 48 ≤ c && c ≤ 57) := by
  have e0 : (Str.ofString "0").cps.toList = [48] := by decide +kernel
  have e9 : (Str.ofString "9").cps.toList = [57] := by decide +kernel
  rw [e0, e9]
  unfold signs
  induction x.cps.toList with
  | nil => simp
  | cons c r ih =>
    simp only [Bool.not_false] at ih
    simp only [List.map_cons, List.filter_cons, List.all_cons, lt_one]
    by_cases h1 : c < 48
    · have : ¬ (48 ≤ c) := by omega
      simp [h1, this]
    · by_cases h2 : 57 < c
      · have : ¬ (c ≤ 57) := by omega
        simp [h1, h2, this]
      · have h3 : 48 ≤ c := by omega
        have h4 : c ≤ 57 := by omega
        have g1 : decide (c < 48) = false := by simpa using h1
        have g2 : decide (57 < c) = false := by simpa using h2
        have g3 : decide (48 ≤ c) = true := by simpa using h3
        have g4 : decide (c ≤ 57) = true := by simpa using h4
        simp only [g1, g2, g3, g4, Bool.not_false, Bool.not_true, if_true, Bool.and_self, Bool.true_and, Bool.false_eq_true, if_false, ih]
theorem ne_empty (x : Str) : (x != Str.ofString "") = (x.cps.toList.length != 0) := by
  have e : Str.ofString "" = ⟨#[]⟩ := by decide +kernel
  rw [e]
  obtain ⟨⟨l⟩⟩ := x
  cases l with
  | nil => rfl
  | cons c r =>
    have : (({ cps := { toList := c :: r } } : Str) == ⟨#[]⟩) = false := by
      apply beq_eq_false_iff_ne.mpr
      intro h
      injection h with h
      injection h with h
      cases h
    simp only [bne, this]
    simp

theorem mc_ret {h₀ h' : Heap} {L : Addr} {m : Str → Option Value} {news news' : List (Addr × Obj)} {s : Shared} {Q : Value → Shared → Prop} {R : Tok → Value} {v : Value} {tk' : Nat}
    (hret : ∀ (t : Tok) (h' : Heap) (tk' : Nat), Fr h₀ L h' m → News h₀ L h' news → Q (R t) { s with heap := h', toks := tk' }) (t : Tok) (e : v = R t) (F : Fr h₀ L h' m) (N : News h₀ L h' news') (hs : ∀ p ∈ news, p ∈ news') : Q v { s with heap := h', toks := tk' } := by
  subst e
  exact hret t h' tk' F (fun p hp => N p (hs p hp))

theorem is_figures_keep (x : Str) (hx : x.length ≤ 1000) (hp : Pts x) (tk : Tok) : MK 1 166 [.str x tk] (fun _ => .bool (figs x)) := by
  unfold MK
  k_with_none
  k_with "compareOp Eq ref ref" => (k_here; (with_reducible show wpAny _ _ (compareOp CmpOp.Eq (Value.ref _) (Value.ref _)) _ _ _); (with_unfolding_all refine' eq_strs_nil ?k1 ?k2 ?k3 ?k4 ?k5 ?_; (case k1 => is_list); (case k2 => is_list); (case k3 => with_reducible assumption); (case k4 => exact pts_signs (by assumption) _); (case k5 => ktr_units); k_whole))
  k_fill
  intro w mean mg mb dp un gd cn cs a ccd cl outer A₀ base h₀ L m s Q E B F X T hk hd hu hret
  refine wpAny_call ?_
  k_dflt ((refine' code_defG ?k1 ?k2 ?k3 News.nil ?k5 ?kA ?kF ?kK ?k6 ?k7 ?k8 ?k9 ?kB ?_ ?c2 ?c3 ?c4 ?c5; (case kA => exact rfl); (case kF => exact rfl); (case kK => assumption); (case k1 => k_asm); (case k2 => k_asm); (case k3 => k_asm); (case k5 => k_asm); (case k6 => k_is); (case k7 => k_is); (case k8 => ktr_room); (case k9 => exact BindsTo.of_eq rfl); (case c5 => decide); (case kB => exact locs rfl); (case c2 => exact rfl); (case c3 => exact rfl); (case c4 => exact rfl); k_whole; intro g' L' h' FG' F' N' B' X' T' kG'; (try dsimp only); (try k_lift B'); (try k_fold)))
  k_steps
  · have hne : (x != Str.ofString "") = true := by assumption
    rw [ne_empty] at hne
    exact mk_bool hret (by rw [figs_filter, figs, hne, Bool.true_and]) (by assumption) (by assumption) (by assumption)
  · have hne : (x != Str.ofString "") = false := by assumption
    exact mk_bool hret (by rw [hne, figs]; rw [ne_empty] at hne; rw [hne, Bool.false_and]) (by assumption) (by assumption) (by assumption)
theorem is_figures_call (x : Str) (hx : x.length ≤ 1000) (hp : Pts x) (tk : Tok) : MC 1 166 [.str x tk] (fun _ => .bool (figs x)) := (is_figures_keep x hx hp tk).mc
end Mine

/-! C2 -/
namespace Mine
open PySem PySem.Spec PySem.Calls PyProof.Rows PyProof.V

theorem mc_use {d : Nat} {f : Addr} {vs : List Value} {R : Tok → Value} (C : MC d f vs R)
   {w : World} {mean : ExcName → Option Value} {mg mb : Str → Option Value} {dp un : Nat} {gd : Option (List Code)} {cn : Str} {cs : Scope} {a : Addr} {ccd : Value} {cl : List (Str × Addr)} {outer : List Env} {A₀ : Around} {base h₀ : Heap} {L : Addr} {m : Str → Option Value} {news : List (Addr × Obj)} {s : Shared} {Q E : Value → Shared → Prop}
    (B : Below A₀ base outer h₀) (F : Fr h₀ L s.heap m) (X : (Mine.hd.heap_39 w.params).In h₀) (N : News h₀ L s.heap news) (T : Top Mine.hd.view_39 (looseW Mine.hd.view_39 [Str.ofString "PostError", Str.ofString "MOST_ZONE"]) mean mg mb h₀) (hk : cs.kind = .function)
    (hd : dp + d < recursionLimit) (hu : un + 200 + 8 * d < cLine)
    (ret : ∀ (t : Tok) (h' : Heap) (tk' : Nat), Fr h₀ L h' m → News h₀ L h' news → Q (R t) { s with heap := h', toks := tk' }) :
    wpAny (model Challenge.rw_nz0283_01.row.prog w) (ktrTop dp un gd cn cs L a ccd cl outer) (call (.ref f) vs) Q E s :=
  C w mean mg mb dp un gd cn cs a ccd cl outer A₀ base h₀ L m news s Q E B F X N T hk hd hu ret


theorem pts_slice {x : Str} (hx : Pts x) (l u : Option Int) : Pts (Txt.slice x l u) := by
  unfold Txt.slice
  split
  · exact hx
  · intro c hc
    simp only [List.mem_filterMap] at hc
    obtain ⟨i, _, hi⟩ := hc
    refine hx c ?_
    rw [Array.mem_toList_iff]
    exact Array.mem_of_getElem? hi
theorem slice_from {x : Str} {i : Int} (h0 : 0 ≤ i) (h1 : i ≤ (x.length : Int)) : (Txt.slice x (some i) none).cps.toList = x.cps.toList.drop i.toNat := by
  have e := eq_of_beq (slice_closes_fromL (x := x) h0 h1 rfl)
  rw [e]
  have hl : x.cps.toList.length = x.length := by simp [Str.length]
  show List.take ((x.length : Int) - i).toNat (List.drop i.toNat x.cps.toList) = _
  rw [List.take_of_length_le]
  rw [List.length_drop, hl]
  omega
theorem slice_mid {x : Str} {i j : Int} (h0 : 0 ≤ i) (h1 : i ≤ j) (h2 : j ≤ (x.length : Int)) : (Txt.slice x (some i) (some j)).cps.toList = (x.cps.toList.drop i.toNat).take (j - i).toNat := by
  rw [eq_of_beq (slice_closesL h0 h1 h2)]


/-! texts: the plain law -/
/-- what zone_in and the law's own look read out of five signs -/
def zf (a b c d e : Nat) : Option Int := if (a = 43 ∨ a = 45) ∧ (48 ≤ b ∧ b ≤ 57) ∧ (48 ≤ c ∧ c ≤ 57) ∧ (48 ≤ d ∧ d ≤ 57) ∧ (48 ≤ e ∧ e ≤ 57) ∧ d ≤ 53 then
      some (if a = 45 then -(600 * ((b : Int) - 48) + 60 * ((c : Int) - 48) + 10 * ((d : Int) - 48) + ((e : Int) - 48)) else 600 * ((b : Int) - 48) + 60 * ((c : Int) - 48) + 10 * ((d : Int) - 48) + ((e : Int) - 48)) else none
def zl (l : List Nat) : Option Int := if l.length = 5 then zf (l.getD 0 0) (l.getD 1 0) (l.getD 2 0) (l.getD 3 0) (l.getD 4 0) else none
theorem zl_five (a b c d e : Nat) : zl [a, b, c, d, e] = zf a b c d e := rfl
def ov : Option Int → Tok → Value
  | some v, t => .int v t
  | none, _ => .none

theorem cps_len (x : Str) : x.cps.toList.length = x.length := by simp [Str.length]
theorem five_of {l : List Nat} (h : l.length = 5) : ∃ a b c d e, l = [a, b, c, d, e] := by
  cases l with | nil => cases h | cons a l => ?_
  cases l with | nil => cases h | cons b l => ?_
  cases l with | nil => cases h | cons c l => ?_
  cases l with | nil => cases h | cons d l => ?_
  cases l with | nil => cases h | cons e l => ?_
  cases l with | nil => exact ⟨a, b, c, d, e, rfl⟩ | cons f l => ?_
  have h : l.length + 6 = 5 := h
  omega
theorem zl_none {l : List Nat} (h : l.length ≠ 5) : zl l = none := by
  unfold zl
  rw [if_neg h]
theorem figs_all {y : Str} (h : figs y = true) : NumText.AllDigits y.cps.toList := by
  unfold figs at h
  rw [Bool.and_eq_true] at h
  intro c hc
  have := List.all_eq_true.mp h.2 c hc
  simpa using this
theorem figs_ne {y : Str} (h : figs y = true) : y.cps.toList ≠ [] := by
  unfold figs at h
  rw [Bool.and_eq_true] at h
  intro e
  rw [e] at h
  exact absurd h.1 (by decide)
theorem int_two {y : Str} {a b : Nat} (e : y.cps.toList = [a, b]) (ha : 48 ≤ a ∧ a ≤ 57) (hb : 48 ≤ b ∧ b ≤ 57) : PySem.intText? y = some (10 * ((a : Int) - 48) + ((b : Int) - 48)) := by
  have hl : y.length = 2 := by rw [← cps_len, e]; rfl
  rw [intText_digits (by rw [e]; intro c hc; simp at hc; rcases hc with rfl | rfl <;> assumption) (by rw [e]; simp) (by omega), e]
  simp only [NumText.digitsVal, List.foldl_cons, List.foldl_nil]
  congr 1
  omega
theorem item_at {x : Str} {i : Nat} {c : Nat} (h : x.cps.toList[i]? = some c) : Txt.item x (i : Int) = ⟨#[c]⟩ := by
  have hi : i < x.length := by
    rw [← cps_len]
    exact (List.getElem?_eq_some_iff.mp h).1
  have h' : x.cps[i]? = some c := by simpa using h
  unfold Txt.item Txt.charAt
  have e : seqIndex? (i : Int) x.length = some i := by
    unfold seqIndex?
    simp; omega
  simp only [e, Option.bind_some, h', Option.getD_some]
theorem in_text (y : Str) (c : Nat) : (Builtin.Str.occurrences y ⟨#[c]⟩ 0 y.length 1).isEmpty = !decide (c ∈ y.cps.toList) := by
  have := StrLaws.found_one y c
  rw [← this, Bool.not_not]
theorem sign_in (c : Nat) : (Builtin.Str.occurrences (Str.ofString "+-") ⟨#[c]⟩ 0 (Str.ofString "+-").length 1).isEmpty = !decide (c = 43 ∨ c = 45) := by
  rw [in_text]
  have e : (Str.ofString "+-").cps.toList = [43, 45] := by decide +kernel
  rw [e]
  simp

theorem ov_int {h₀ h' : Heap} {L : Addr} {m : Str → Option Value} {news news' : List (Addr × Obj)} {s : Shared} {Q : Value → Shared → Prop} {o : Option Int} {v : Int} {t : Tok} {tk' : Nat}
    (hret : ∀ (t : Tok) (h' : Heap) (tk' : Nat), Fr h₀ L h' m → News h₀ L h' news → Q (ov o t) { s with heap := h', toks := tk' }) (e : o = some v) (F : Fr h₀ L h' m) (N : News h₀ L h' news') (hs : ∀ p ∈ news, p ∈ news') : Q (.int v t) { s with heap := h', toks := tk' } := by
  subst e
  exact hret t h' tk' F (fun p hp => N p (hs p hp))
theorem ov_none {h₀ h' : Heap} {L : Addr} {m : Str → Option Value} {news news' : List (Addr × Obj)} {s : Shared} {Q : Value → Shared → Prop} {o : Option Int} {tk' : Nat}
    (hret : ∀ (t : Tok) (h' : Heap) (tk' : Nat), Fr h₀ L h' m → News h₀ L h' news → Q (ov o t) { s with heap := h', toks := tk' }) (e : o = none) (F : Fr h₀ L h' m) (N : News h₀ L h' news') (hs : ∀ p ∈ news, p ∈ news') : Q .none { s with heap := h', toks := tk' } := by
  subst e
  exact hret 0 h' tk' F (fun p hp => N p (hs p hp))
theorem len_slice {x : Str} {k : Nat} (h : x.length ≤ k) (l u : Option Int) : (Txt.slice x l u).length ≤ k := Nat.le_trans (Txt.slice_le x l u) h


theorem int_use {prog : Program} {w : World} {A : Around} {E : Value → Shared → Prop} {s : Shared} {Q : Value → Shared → Prop} {x : PySem.Str} {t : Tok} {n : Int} {P P' : Prop}
   (hn : P → P' → PySem.intText? x = some n) (hp : P) (hp' : P') (hl : x.length ≤ 640) (h : Q (.int n s.toks) { s with toks := s.toks + 1 }) : wpAny (model prog w) A (call (.type "int") [.str x t]) Q E s :=
  KIN.call_text (hn hp hp') hl h

theorem imp_use {P Q : Prop} (h : P → Q) (p : P) : Q := h p
theorem five_if (x : Str) : ∃ a b c d e, ((x.length : Int) = 5 → x.cps.toList = [a, b, c, d, e]) := by
  by_cases h : x.cps.toList.length = 5
  · obtain ⟨a, b, c, d, e, he⟩ := five_of h
    exact ⟨a, b, c, d, e, fun _ => he⟩
  · rw [cps_len] at h
    exact ⟨0, 0, 0, 0, 0, fun h' => absurd h' (by omega)⟩
theorem sign_yes {x : Str} {a b c d e : Nat} (he : x.cps.toList = [a, b, c, d, e]) (h : (Builtin.Str.occurrences (Str.ofString "+-") (Txt.item x 0) 0 (Str.ofString "+-").length 1).isEmpty = false) : a = 43 ∨ a = 45 := by
  rw [show Txt.item x 0 = ⟨#[a]⟩ from item_at (i := 0) (by rw [he]; rfl), sign_in] at h
  have h : ¬ a = 43 → a = 45 := by simpa using h
  omega
theorem sign_no {x : Str} {a b c d e : Nat} (he : x.cps.toList = [a, b, c, d, e]) (h : (Builtin.Str.occurrences (Str.ofString "+-") (Txt.item x 0) 0 (Str.ofString "+-").length 1).isEmpty = true) : zl x.cps.toList = none := by
  rw [show Txt.item x 0 = ⟨#[a]⟩ from item_at (i := 0) (by rw [he]; rfl), sign_in] at h
  have h : ¬ (a = 43 ∨ a = 45) := by simpa using h
  rw [he, zl_five, zf, if_neg (fun g => h g.1)]
theorem minus_is {x : Str} {a b c d e : Nat} (he : x.cps.toList = [a, b, c, d, e]) : (Txt.item x 0 == Str.ofString "-") = decide (a = 45) := by
  rw [show Txt.item x 0 = ⟨#[a]⟩ from item_at (i := 0) (by rw [he]; rfl), show Str.ofString "-" = (⟨#[45]⟩ : Str) from by decide +kernel, Bool.eq_iff_iff, beq_iff_eq, decide_eq_true_eq]
  simp
theorem slice_five {x : Str} {a b c d e : Nat} (he : x.cps.toList = [a, b, c, d, e]) : (Txt.slice x (some 1) none).cps.toList = [b, c, d, e] := by
  have hl : x.length = 5 := by rw [← cps_len, he]; rfl
  rw [slice_from (by omega) (by omega), he]
  rfl
/-- the five signs in hand: what is read -/
theorem zl_plus {x : Str} {a b c d e : Nat} (he : x.cps.toList = [a, b, c, d, e]) (hd : (48 ≤ b ∧ b ≤ 57) ∧ (48 ≤ c ∧ c ≤ 57) ∧ (48 ≤ d ∧ d ≤ 57) ∧ (48 ≤ e ∧ e ≤ 57)) (hs : (Builtin.Str.occurrences (Str.ofString "+-") (Txt.item x 0) 0 (Str.ofString "+-").length 1).isEmpty = false) (h5 : d ≤ 53) :
    zl x.cps.toList = some (if (Txt.item x 0 == Str.ofString "-") = true then -(600 * ((b : Int) - 48) + 60 * ((c : Int) - 48) + 10 * ((d : Int) - 48) + ((e : Int) - 48)) else 600 * ((b : Int) - 48) + 60 * ((c : Int) - 48) + 10 * ((d : Int) - 48) + ((e : Int) - 48)) := by
  have g := sign_yes he hs
  rw [minus_is he, he, zl_five, zf, if_pos ⟨g, hd.1, hd.2.1, hd.2.2.1, hd.2.2.2, h5⟩]
  by_cases h : a = 45
  · rw [if_pos h, if_pos (by simp [h])]
  · rw [if_neg h, if_neg (by simp [h])]
theorem zl_over {x : Str} {a b c d e : Nat} (he : x.cps.toList = [a, b, c, d, e]) (h5 : ¬ d ≤ 53) : zl x.cps.toList = none := by
  rw [he, zl_five, zf, if_neg (fun g => h5 g.2.2.2.2.2)]
theorem figs_four {x : Str} {a b c d e : Nat} (he : x.cps.toList = [a, b, c, d, e]) (h : figs (Txt.slice x (some 1) none) = true) : (48 ≤ b ∧ b ≤ 57) ∧ (48 ≤ c ∧ c ≤ 57) ∧ (48 ≤ d ∧ d ≤ 57) ∧ (48 ≤ e ∧ e ≤ 57) := by
  have := figs_all h
  rw [slice_five he] at this
  exact ⟨this b (by simp), this c (by simp), this d (by simp), this e (by simp)⟩
theorem figs_no {x : Str} {a b c d e : Nat} (he : x.cps.toList = [a, b, c, d, e]) (h : (Txt.slice x (some 1) none).cps.toList.all (fun c => 48 ≤ c && c ≤ 57) = false) : zl x.cps.toList = none := by
  rw [he, zl_five, zf, if_neg]
  rintro ⟨_, gb, gc, gd, ge, _⟩
  rw [slice_five he] at h
  simp [gb, gc, gd, ge] at h

theorem zone_in_call (x : Str) (hx : x.length ≤ 640) (hp : Pts x) (tk : Tok) : MC 2 173 [.str x tk] (ov (zl x.cps.toList)) := by
  have hx1 : x.length ≤ 1000 := by omega
  obtain ⟨a, b, c, d, e, he⟩ := five_if x
  have z1 : (x.length : Int) ≠ 5 → zl x.cps.toList = none := fun h => zl_none (by rw [cps_len]; omega)
  have i3 : (x.length : Int) = 5 → figs (Txt.slice x (some 1) none) = true → PySem.intText? (Txt.slice x (some 3) none) = some (10 * ((d : Int) - 48) + ((e : Int) - 48)) := by
    intro h5 h
    have g := figs_four (he h5) h
    exact int_two (by rw [slice_from (by omega) (by omega), he h5]; rfl) g.2.2.1 g.2.2.2
  have i13 : (x.length : Int) = 5 → figs (Txt.slice x (some 1) none) = true → PySem.intText? (Txt.slice x (some 1) (some 3)) = some (10 * ((b : Int) - 48) + ((c : Int) - 48)) := by
    intro h5 h
    have g := figs_four (he h5) h
    exact int_two (by rw [slice_mid (by omega) (by omega) (by omega), he h5]; rfl) g.1 g.2.1
  have z3 : (x.length : Int) = 5 → figs (Txt.slice x (some 1) none) = true → 59 < 10 * ((d : Int) - 48) + ((e : Int) - 48) → zl x.cps.toList = none := by
    intro h5 h h2
    have g := figs_four (he h5) h
    exact zl_over (he h5) (by omega)
  have z4 : (x.length : Int) = 5 → figs (Txt.slice x (some 1) none) = true → (Builtin.Str.occurrences (Str.ofString "+-") (Txt.item x 0) 0 (Str.ofString "+-").length 1).isEmpty = false → ¬ 59 < 10 * ((d : Int) - 48) + ((e : Int) - 48) → (Txt.item x 0 == Str.ofString "-") = true →
      zl x.cps.toList = some (-((10 * ((b : Int) - 48) + ((c : Int) - 48)) * 60 + (10 * ((d : Int) - 48) + ((e : Int) - 48)))) := by
    intro h5 h h1 h2 h3
    have g := figs_four (he h5) h
    rw [zl_plus (he h5) g h1 (by omega), if_pos h3]
    congr 1
    omega
  have z5 : (x.length : Int) = 5 → figs (Txt.slice x (some 1) none) = true → (Builtin.Str.occurrences (Str.ofString "+-") (Txt.item x 0) 0 (Str.ofString "+-").length 1).isEmpty = false → ¬ 59 < 10 * ((d : Int) - 48) + ((e : Int) - 48) → (Txt.item x 0 == Str.ofString "-") = false →
      zl x.cps.toList = some ((10 * ((b : Int) - 48) + ((c : Int) - 48)) * 60 + (10 * ((d : Int) - 48) + ((e : Int) - 48))) := by
    intro h5 h h1 h2 h3
    have g := figs_four (he h5) h
    rw [zl_plus (he h5) g h1 (by omega), if_neg (by rw [h3]; decide)]
    congr 1
    omega
  have z6 : (x.length : Int) = 5 → figs (Txt.slice x (some 1) none) = false → zl x.cps.toList = none := by
    intro h5 h
    refine figs_no (he h5) ?_
    unfold figs at h
    rw [slice_five (he h5)] at h ⊢
    simpa using h
  unfold MC
  k_with_none
  k_with "call ref" => (k_here; k_dflt (refine' mc_use (is_figures_call _ ?z1 ?z2 _) ?k1 ?k2 ?k3 ?k4 ?k5 ?k6 ?k7 ?k8 ?_; (case z1 => first | assumption | exact len_slice (by assumption) _ _); (case z2 => exact pts_slice (by assumption) _ _); (case k1 => k_asm); (case k2 => k_asm); (case k3 => k_asm); (case k4 => k_asm); (case k5 => k_asm); (case k6 => first | exact rfl | assumption); (case k7 => ktr_room); (case k8 => ktr_units); k_whole; intro t9 h9 tk9 F9 N9; (try dsimp only); (try k_fold)))
  k_with "call type:int" => (k_here; (with_reducible show wpAny _ _ (call (Value.type "int") [Value.str _ _]) _ _ _); refine' int_use ?i1 ?i2 ?i4 ?i3 ?_; (case i1 => with_reducible assumption); (case i2 => with_reducible assumption); (case i4 => with_reducible assumption); (case i3 => exact len_slice (by omega) _ _); k_whole)
  k_fill
  intro w mean mg mb dp un gd cn cs a' ccd cl outer A₀ base h₀ L m news s Q E B F X N T hk hd hu hret
  refine wpAny_call ?_
  k_dflt cell_enter
  k_steps
  · exact ov_none hret (z1 (by assumption)) (by assumption) (by assumption) (fun p hp => hp)
  · exact ov_none hret (sign_no (he (by assumption)) (by assumption)) (by assumption) (by assumption) (fun p hp => hp)
  · exact ov_none hret (z3 (by assumption) (by assumption) (by assumption)) (by assumption) (by assumption) (fun p hp => hp)
  · exact ov_int hret (z4 (by assumption) (by assumption) (by assumption) (by assumption) (by assumption)) (by assumption) (by assumption) (fun p hp => hp)
  · exact ov_int hret (z5 (by assumption) (by assumption) (by assumption) (by assumption) (by assumption)) (by assumption) (by assumption) (fun p hp => hp)
  · exact ov_none hret (z6 (by assumption) (by assumption)) (by assumption) (by assumption) (fun p hp => hp)
end Mine

/-! C3 -/
namespace Mine
open PySem PySem.Spec PySem.Calls PyProof.Rows PyProof.V

/-! a list made of a text's signs, each read by an element that is sure of the signs at hand -/
/-- what the elements of a comprehension told, read off -/
theorem rel_read {α : Type} {K : ItemKind α} {R : α → Value → Prop} {vs : List Value} {as : List α} (h : AreOf K vs as) {ys : List Value} (hp : Paired (fun v r => ∃ a, K.is a v ∧ R a r) vs ys) : Paired R as ys := by
  induction h generalizing ys with
  | nil => cases hp; exact .nil
  | cons hi _ ih =>
    cases hp with
    | cons h q =>
      obtain ⟨a', ha, hr⟩ := h
      cases (K.ok _ _ hi).symm.trans (K.ok _ _ ha)
      exact .cons hr (ih q)
theorem ints_read {α : Type} {f : α → Int} {as : List α} {ys : List Value} (hp : Paired (fun a r => ∃ t, r = Value.int (f a) t) as ys) : IntsAre ys (as.map f) := by
  induction hp with
  | nil => exact .nil
  | cons h _ ih => obtain ⟨t, rfl⟩ := h; exact .cons _ t ih
theorem strs_read {α : Type} {f : α → Str} {as : List α} {ys : List Value} (hp : Paired (fun a r => ∃ t, r = Value.str (f a) t) as ys) : StrsAre ys (as.map f) := by
  induction hp with
  | nil => exact .nil
  | cons h _ ih => obtain ⟨t, rfl⟩ := h; exact .cons _ t ih
theorem all_true {α : Type} (l : List α) : l.filter (fun _ => true) = l := List.filter_eq_self.mpr fun _ _ => rfl
theorem signs_map {α : Type} (y : Str) (f : Nat → α) : (signs y).map (fun a => f (a.cps.toList.headD 0)) = y.cps.toList.map f := by
  unfold signs
  rw [List.map_map]
  rfl
theorem fresh_at {h₀ h : Heap} {o : Obj} {L D : Addr} {m : Str → Option Value} (F : Fr h₀ L h m) (hnew : (h.push o).get? D = none) : D ≠ L ∧ h₀.get? D = none := by
  have hDs : h.get? D = none := by
    cases e : h.get? D with
    | none => rfl
    | some o' => rw [Heap.get?_push_of_some _ e] at hnew; cases hnew
  refine ⟨?_, ?_⟩
  · rintro rfl
    obtain ⟨oL, _, _, hL, _⟩ := F.ns
    rw [hL] at hDs
    cases hDs
  · cases e : h₀.get? D with
    | none => rfl
    | some o' => rw [F.keep _ _ e] at hDs; cases hDs

section
variable {prog : Program} {w : World} {A : Around} {E : Value → Shared → Prop} {s₁ : Shared} {h₀ : Heap} {L : Addr} {m : Str → Option Value} {news : List (Addr × Obj)}
theorem text_ints {name : Str} {fscope : Scope} {a : Addr} {cd : Value} {elt : Expr} {x z : Str} {scope : Scope} {Q : Flow → Shared → Prop} {y : Str} {t : Tok} (f : Nat → Int)
    (hh : A.handled = none) (F : Fr h₀ L s₁.heap m) (N : News h₀ L s₁.heap news)
    (he : ∀ C c u s₂ m₂ E', c ∈ y.cps.toList → s₂.heap.Ns (compEnv scope C (envOf name fscope L a cd)).locals m₂ → m₂ x = some (.str ⟨#[c]⟩ u) →
      wpAny (model prog w) A (eval elt (compEnv scope C (envOf name fscope L a cd))) (fun r s₃ => (∃ t, r = .int (f c) t) ∧ Keeps s₂ s₃) E' s₂)
    (hQ : ∀ D (ys : List Value) k h' tk, Fr h₀ L h' (fun q => if q = z then some (.ref D) else m q) → News h₀ L h' ((D, listOf ys.toArray k) :: news) → IntsAre ys (y.cps.toList.map f) → Q .next { s₁ with heap := h', toks := tk })
    (hsz : y.length ≤ sizeLine) :
    wpAny (model prog w) A (pyIter (.str y t)) (CompPostA prog w A (envOf name fscope L a cd) scope x z [] elt Q) E s₁ := by
  refine wpAny_pyIter_str fun o St W hst => ?_
  have grown : ∀ (h' : Heap), (∀ b o', b ∉ [s₁.heap.objs.size] → (s₁.heap.push o).get? b = some o' → h'.get? b = some o') → ∀ b o', s₁.heap.get? b = some o' → h'.get? b = some o' := by
    intro h' hk b o' e
    exact hk b o' (old_not_new e) (Heap.get?_push_of_some _ e)
  refine ⟨fun _ => true, fun v r => ∃ a, ItemKind.str.is a v ∧ ∃ t, r = Value.int (f (a.cps.toList.headD 0)) t, s₁.heap.objs.size, [s₁.heap.objs.size], [s₁.heap.objs.size], y.cps.size, SignAt y, St, m, rfl, W A hh, hsz, hst, ?_, ?_, (F.push o).ns, ⟨?_, ?_⟩, ?_⟩
  · intro b hb
    obtain rfl := List.mem_singleton.mp hb
    show _ < (s₁.heap.push o).objs.size
    rw [Heap.size_push]
    exact Nat.lt_succ_self _
  · intro hm
    have h1 := F.ns.lt
    rw [show s₁.heap.objs.size = L from (List.mem_singleton.mp hm).symm] at h1
    exact Nat.lt_irrefl _ h1
  · intro C i v s₃ m₃ E' _ _ _ _ _
    exact wpAny_pure ⟨rfl, s₃.heap, s₃.toks, rfl, fun _ _ e => e⟩
  · intro C i v s₃ m₃ E' hP _ hn hm _ _
    obtain ⟨c, u, hc, rfl⟩ := hP
    have hmem : c ∈ y.cps.toList := by
      rw [Array.mem_toList_iff]
      exact Array.mem_of_getElem? hc
    refine wpAny_mono (he C c u s₃ m₃ E' hmem hn hm) (fun r s₄ h₄ => ?_) fun _ _ e => e
    obtain ⟨⟨t', rfl⟩, hk⟩ := h₄
    exact ⟨⟨⟨#[c]⟩, ⟨u, rfl⟩, t', rfl⟩, hk⟩
  · intro D h' tk ys vs hnew _ hpl hlen hP hF hn' hk
    rw [all_true] at hF
    have hI := ints_read (rel_read (areOf_signs hlen hP) hF)
    rw [signs_map] at hI
    obtain ⟨k, hD⟩ := hpl
    have keep₁ : ∀ b o', b ≠ L → s₁.heap.get? b = some o' → h'.get? b = some o' := fun b o' hb e => hk b o' hb (old_not_new e) (Heap.get?_push_of_some _ e)
    obtain ⟨hDL, hD₀⟩ := fresh_at F hnew
    refine hQ D ys.toList k h' tk ⟨hn', fun b o' e => ?_, F.above⟩ (fun p hp => ?_) hI
    · exact keep₁ b o' (Nat.ne_of_lt (Nat.lt_of_lt_of_le (Heap.lt_size e) F.above)) (F.keep b o' e)
    · rcases List.mem_cons.mp hp with rfl | hp
      · exact ⟨by rw [Array.toArray_toList]; exact hD, hDL, hD₀⟩
      · exact ⟨keep₁ _ _ (N p hp).2.1 (N p hp).1, (N p hp).2⟩

/-- what an element of such a list hands back -/
def TellsInt (n : Int) (s₂ : Shared) (r : Value) (s₃ : Shared) : Prop := (∃ t, r = .int n t) ∧ Keeps s₂ s₃
theorem text_ints4 {name : Str} {fscope : Scope} {a : Addr} {cd : Value} {elt : Expr} {x z : Str} {scope : Scope} {Q : Flow → Shared → Prop} {y : Str} {t : Tok} (f : Nat → Int) {c1 c2 c3 c4 : Nat}
    (hcs : y.cps.toList = [c1, c2, c3, c4])
    (hh : A.handled = none) (F : Fr h₀ L s₁.heap m) (N : News h₀ L s₁.heap news)
    (he : ∀ C c u s₂ m₂ E', c ∈ y.cps.toList → s₂.heap.Ns (compEnv scope C (envOf name fscope L a cd)).locals m₂ → m₂ x = some (.str ⟨#[c]⟩ u) →
      wpAny (model prog w) A (eval elt (compEnv scope C (envOf name fscope L a cd))) (TellsInt (f c) s₂) E' s₂)
    (hQ : ∀ D t1 t2 t3 t4 k h' tk, Fr h₀ L h' (fun q => if q = z then some (.ref D) else m q) → News h₀ L h' ((D, listOf #[.int (f c1) t1, .int (f c2) t2, .int (f c3) t3, .int (f c4) t4] k) :: news) → Q .next { s₁ with heap := h', toks := tk }) :
    wpAny (model prog w) A (pyIter (.str y t)) (CompPostA prog w A (envOf name fscope L a cd) scope x z [] elt Q) E s₁ := by
  refine text_ints f hh F N he (fun D ys k h' tk F' N' hI => ?_) (by rw [← cps_len, hcs, PySem.sizeLine_eq]; simp)
  rw [hcs] at hI
  cases hI with
  | cons _ t1 r =>
  cases r with
  | cons _ t2 r =>
  cases r with
  | cons _ t3 r =>
  cases r with
  | cons _ t4 r =>
  cases r
  exact hQ D t1 t2 t3 t4 k h' tk F' N'
end

theorem ten_signs : (Str.ofString "0123456789").cps.toList = [48, 49, 50, 51, 52, 53, 54, 55, 56, 57] := by decide +kernel
theorem ten_of {c : Nat} : c ∈ [48, 49, 50, 51, 52, 53, 54, 55, 56, 57] ↔ 48 ≤ c ∧ c ≤ 57 := by
  refine ⟨(show ∀ c ∈ [48, 49, 50, 51, 52, 53, 54, 55, 56, 57], 48 ≤ c ∧ c ≤ 57 by decide) c, fun h => ?_⟩
  obtain ⟨k, rfl⟩ := Nat.exists_eq_add_of_le h.1
  exact (show ∀ k, k < 10 → 48 + k ∈ [48, 49, 50, 51, 52, 53, 54, 55, 56, 57] by decide) k (by omega)
theorem in_ten (c : Nat) : (Builtin.Str.occurrences (Str.ofString "0123456789") ⟨#[c]⟩ 0 (Str.ofString "0123456789").length 1).isEmpty = !decide (48 ≤ c ∧ c ≤ 57) := by
  rw [in_text, ten_signs]
  congr 1
  exact decide_eq_decide.mpr ten_of
theorem ten_filter (y : Str) : ((signs y).filter (fun a => !!(Builtin.Str.occurrences (Str.ofString "0123456789") a 0 (Str.ofString "0123456789").length 1).isEmpty)).isEmpty = y.cps.toList.all (fun c => 48 ≤ c && c ≤ 57) := by
  unfold signs
  induction y.cps.toList with
  | nil => rfl
  | cons c r ih =>
    simp only [List.map_cons, List.filter_cons, List.all_cons, in_ten, Bool.not_not]
    simp only [Bool.not_not] at ih
    by_cases h : 48 ≤ c ∧ c ≤ 57
    · simp only [h, and_self, decide_true, Bool.not_true, Bool.false_eq_true, if_false, Bool.and_self, Bool.true_and]
      exact ih
    · have h' : (decide (48 ≤ c) && decide (c ≤ 57)) = false := by
        rw [Bool.and_eq_false_iff, decide_eq_false_iff_not, decide_eq_false_iff_not]
        omega
      simp only [h, decide_false, Bool.not_false, if_true, h', Bool.false_and, List.isEmpty_cons]
theorem find_sign {c : Nat} (h : 48 ≤ c ∧ c ≤ 57) : Txt.find (Str.ofString "0123456789") ⟨#[c]⟩ = (c : Int) - 48 := by
  obtain ⟨k, rfl⟩ := Nat.exists_eq_add_of_le h.1
  exact (show ∀ k, k < 10 → Txt.find (Str.ofString "0123456789") ⟨#[48 + k]⟩ = ((48 + k : Nat) : Int) - 48 by decide +kernel) k (by omega)
theorem absurd_sign {l : List Nat} {c : Nat} {P : Prop} (h : ∀ c ∈ l, 48 ≤ c ∧ c ≤ 57) (hc : c ∈ l) (ho : (Builtin.Str.occurrences (Str.ofString "0123456789") ⟨#[c]⟩ 0 (Str.ofString "0123456789").length 1).isEmpty = true) : P := by
  rw [in_ten, decide_eq_true (h c hc)] at ho
  cases ho
theorem tells_find {l : List Nat} {c : Nat} {s₂ : Shared} {t : Tok} {k : Nat} (h : ∀ c ∈ l, 48 ≤ c ∧ c ≤ 57) (hc : c ∈ l) : TellsInt ((c : Int) - 48) s₂ (.int (Txt.find (Str.ofString "0123456789") ⟨#[c]⟩) t) { s₂ with toks := k } := by
  rw [find_sign (h c hc)]
  exact ⟨⟨t, rfl⟩, s₂.heap, k, rfl, fun _ _ e => e⟩
end Mine

/-! C4 -/
namespace Mine
open PySem PySem.Spec PySem.Calls PyProof.Rows PyProof.V


theorem law_minutes_call (x : Str) (hx : x.length ≤ 640) (hp : Pts x) (tk : Tok) : MC 2 221 [.str x tk] (ov (zl x.cps.toList)) := by
  have hx1 : x.length ≤ 1000 := by omega
  obtain ⟨a, b, c, d, e, he⟩ := five_if x
  have z1 : (x.length : Int) ≠ 5 → zl x.cps.toList = none := fun h => zl_none (by rw [cps_len]; omega)
  have s1 : (x.length : Int) = 5 → (Txt.slice x (some 1) none).cps.toList = [b, c, d, e] := fun h => slice_five (he h)
  have dg : (List.filter (fun a => !!(Builtin.Str.occurrences (Str.ofString "0123456789") a 0 (Str.ofString "0123456789").length 1).isEmpty) (signs (Txt.slice x (some 1) none))).isEmpty = true → ∀ c ∈ (Txt.slice x (some 1) none).cps.toList, 48 ≤ c ∧ c ≤ 57 := by
    intro h c hc
    rw [ten_filter] at h
    simpa using List.all_eq_true.mp h c hc
  have fg : (x.length : Int) = 5 → (List.filter (fun a => !!(Builtin.Str.occurrences (Str.ofString "0123456789") a 0 (Str.ofString "0123456789").length 1).isEmpty) (signs (Txt.slice x (some 1) none))).isEmpty = true → (48 ≤ b ∧ b ≤ 57) ∧ (48 ≤ c ∧ c ≤ 57) ∧ (48 ≤ d ∧ d ≤ 57) ∧ (48 ≤ e ∧ e ≤ 57) := by
    intro h5 h
    have := dg h
    rw [s1 h5] at this
    exact ⟨this b (by simp), this c (by simp), this d (by simp), this e (by simp)⟩
  have z3 : (x.length : Int) = 5 → (List.filter (fun a => !!(Builtin.Str.occurrences (Str.ofString "0123456789") a 0 (Str.ofString "0123456789").length 1).isEmpty) (signs (Txt.slice x (some 1) none))).isEmpty = true → 5 < [(b : Int) - 48, (c : Int) - 48, (d : Int) - 48, (e : Int) - 48].getD (Int.toNat 2) 0 → zl x.cps.toList = none := by
    intro h5 h h2
    have h2 : 5 < (d : Int) - 48 := h2
    exact zl_over (he h5) (by omega)
  have z4 : (x.length : Int) = 5 → (List.filter (fun a => !!(Builtin.Str.occurrences (Str.ofString "0123456789") a 0 (Str.ofString "0123456789").length 1).isEmpty) (signs (Txt.slice x (some 1) none))).isEmpty = true → (Builtin.Str.occurrences (Str.ofString "+-") (Txt.item x 0) 0 (Str.ofString "+-").length 1).isEmpty = false → ¬ 5 < [(b : Int) - 48, (c : Int) - 48, (d : Int) - 48, (e : Int) - 48].getD (Int.toNat 2) 0 → (Txt.item x 0 == Str.ofString "-") = true →
      zl x.cps.toList = some (0 - (600 * [(b : Int) - 48, (c : Int) - 48, (d : Int) - 48, (e : Int) - 48].getD (Int.toNat 0) 0 + 60 * [(b : Int) - 48, (c : Int) - 48, (d : Int) - 48, (e : Int) - 48].getD (Int.toNat 1) 0 + 10 * [(b : Int) - 48, (c : Int) - 48, (d : Int) - 48, (e : Int) - 48].getD (Int.toNat 2) 0 + [(b : Int) - 48, (c : Int) - 48, (d : Int) - 48, (e : Int) - 48].getD (Int.toNat 3) 0)) := by
    intro h5 h h1 h2 h3
    have h2 : ¬ 5 < (d : Int) - 48 := h2
    rw [zl_plus (he h5) (fg h5 h) h1 (by omega), if_pos h3]
    show some _ = some (0 - (600 * ((b : Int) - 48) + 60 * ((c : Int) - 48) + 10 * ((d : Int) - 48) + ((e : Int) - 48)))
    congr 1
    omega
  have z5 : (x.length : Int) = 5 → (List.filter (fun a => !!(Builtin.Str.occurrences (Str.ofString "0123456789") a 0 (Str.ofString "0123456789").length 1).isEmpty) (signs (Txt.slice x (some 1) none))).isEmpty = true → (Builtin.Str.occurrences (Str.ofString "+-") (Txt.item x 0) 0 (Str.ofString "+-").length 1).isEmpty = false → ¬ 5 < [(b : Int) - 48, (c : Int) - 48, (d : Int) - 48, (e : Int) - 48].getD (Int.toNat 2) 0 → (Txt.item x 0 == Str.ofString "-") = false →
      zl x.cps.toList = some (600 * [(b : Int) - 48, (c : Int) - 48, (d : Int) - 48, (e : Int) - 48].getD (Int.toNat 0) 0 + 60 * [(b : Int) - 48, (c : Int) - 48, (d : Int) - 48, (e : Int) - 48].getD (Int.toNat 1) 0 + 10 * [(b : Int) - 48, (c : Int) - 48, (d : Int) - 48, (e : Int) - 48].getD (Int.toNat 2) 0 + [(b : Int) - 48, (c : Int) - 48, (d : Int) - 48, (e : Int) - 48].getD (Int.toNat 3) 0) := by
    intro h5 h h1 h2 h3
    have h2 : ¬ 5 < (d : Int) - 48 := h2
    rw [zl_plus (he h5) (fg h5 h) h1 (by omega), if_neg (by rw [h3]; decide)]
    rfl
  have z6 : (x.length : Int) = 5 → (List.filter (fun a => !!(Builtin.Str.occurrences (Str.ofString "0123456789") a 0 (Str.ofString "0123456789").length 1).isEmpty) (signs (Txt.slice x (some 1) none))).isEmpty = false → zl x.cps.toList = none := fun h5 h => figs_no (he h5) (by rw [ten_filter] at h; exact h)
  unfold MC
  k_with_none
  k_with "compareOp NotEq ref ref" => (k_here; (with_reducible show wpAny _ _ (compareOp CmpOp.NotEq (Value.ref _) (Value.ref _)) _ _ _); (with_unfolding_all refine' ne_strs_nil ?k1 ?k2 ?k3 ?k4 ?k5 ?_; (case k1 => is_list); (case k2 => is_list); (case k3 => with_reducible assumption); (case k4 => exact pts_signs (pts_slice (by assumption) _ _) _); (case k5 => ktr_units); k_whole))
  k_with "exec Assign cons ListComp" => ((with_reducible apply Assign_ListComp_rowsP); (case hsw => with_unfolding_all rfl); (case hfree => decide); (case hcell => decide); (case hkind => with_unfolding_all rfl); (case hnames => decide); (case hx => with_unfolding_all rfl); (case hy => with_unfolding_all rfl); (case hp => with_unfolding_all rfl); (case hs => intro _; with_unfolding_all rfl))
  k_with "pyIter str" => ((with_reducible rename Fr _ _ _ _ => F'); (with_reducible rename News _ _ _ _ => N'); (with_unfolding_all refine' text_ints4 (fun c => (c : Int) - 48) ?hcs ?hh F' N' ?he ?hQ); (case hcs => with_reducible exact imp_use (by assumption) (by assumption)); (case hh => with_unfolding_all rfl); (case' hQ => intros); (case' he => intros))
  k_fill
  intro w mean mg mb dp un gd cn cs a' ccd cl outer A₀ base h₀ L m news s Q E B F X N T hk hd hu hret
  refine wpAny_call ?_
  k_dflt cell_enter
  k_steps
  · exact ov_none hret (z1 (by assumption)) (by assumption) (by assumption) (fun p hp => hp)
  · exact ov_none hret (sign_no (he (by assumption)) (by assumption)) (by assumption) (by assumption) (fun p hp => hp)
  · exact absurd_sign (dg (by assumption)) (by assumption) (by assumption)
  · exact tells_find (dg (by assumption)) (by assumption)
  · exact ov_none hret (z3 (by assumption) (by assumption) (by assumption)) (by assumption) (by assumption) (fun p hp => .tail _ (.tail _ (.tail _ hp)))
  · exact ov_int hret (z4 (by assumption) (by assumption) (by assumption) (by assumption) (by assumption)) (by assumption) (by assumption) (fun p hp => .tail _ (.tail _ (.tail _ hp)))
  · exact ov_int hret (z5 (by assumption) (by assumption) (by assumption) (by assumption) (by assumption)) (by assumption) (by assumption) (fun p hp => .tail _ (.tail _ (.tail _ hp)))
  · exact ov_none hret (z6 (by assumption) (by assumption)) (by assumption) (by assumption) (fun p hp => .tail _ (.tail _ hp))
end Mine

/-! C5 -/
namespace Mine
open PySem PySem.Spec PySem.Calls PyProof.Rows PyProof.V

def lowc (c : Nat) : Nat := if 65 ≤ c ∧ c ≤ 90 then c + 32 else c
theorem lower_code_call (c : Nat) (tk : Tok) : MK 1 68 [.int c tk] (fun t => .int (lowc c : Nat) t) := by
  unfold MK
  k_with_none
  k_fill
  intro w mean mg mb dp un gd cn cs a' ccd cl outer A₀ base h₀ L m s Q E B F X T hk hd hu hret
  refine wpAny_call ?_
  k_dflt ((refine' code_defG ?k1 ?k2 ?k3 News.nil ?k5 ?kA ?kF ?kK ?k6 ?k7 ?k8 ?k9 ?kB ?_ ?c2 ?c3 ?c4 ?c5; (case kA => exact rfl); (case kF => exact rfl); (case kK => assumption); (case k1 => k_asm); (case k2 => k_asm); (case k3 => k_asm); (case k5 => k_asm); (case k6 => k_is); (case k7 => k_is); (case k8 => ktr_room); (case k9 => exact BindsTo.of_eq rfl); (case c5 => decide); (case kB => exact locs rfl); (case c2 => exact rfl); (case c3 => exact rfl); (case c4 => exact rfl); k_whole; intro g' L' h' FG' F' N' B' X' T' kG'; (try dsimp only); (try k_lift B'); (try k_fold)))
  k_steps
  · refine mk_int hret ?_ (by assumption) (by assumption) (by assumption)
    unfold lowc
    rw [if_pos (by omega)]
    simp
  · refine mk_int hret ?_ (by assumption) (by assumption) (by assumption)
    unfold lowc
    rw [if_neg (by omega)]
  · refine mk_int hret ?_ (by assumption) (by assumption) (by assumption)
    unfold lowc
    rw [if_neg (by omega)]

def lowt (x : Str) : Str := ⟨(x.cps.toList.map lowc).toArray⟩

/-! a list of texts made of a text's signs by an element that may call -/
def TellsStr (x : Str) (s₂ : Shared) (r : Value) (s₃ : Shared) : Prop := (∃ t, r = .str x t) ∧ Keeps s₂ s₃
section
variable {prog : Program} {w : World} {A : Around} {E : Value → Shared → Prop} {s₁ : Shared} {h₀ : Heap} {L : Addr} {m : Str → Option Value} {news : List (Addr × Obj)}
theorem text_strs {env : Env} {elt : Expr} {x : Str} {scope : Scope} {Q : Value → Shared → Prop} {y : Str} {t : Tok} (g : Nat → Str)
    (hh : A.handled = none) (F : Fr h₀ L s₁.heap m) (N : News h₀ L s₁.heap news)
    (he : ∀ C c u s₂ m₂ E', c ∈ y.cps.toList → s₂.heap.Ns (compEnv scope C env).locals m₂ → m₂ x = some (.str ⟨#[c]⟩ u) → (∀ b o, s₁.heap.get? b = some o → s₂.heap.get? b = some o) →
      wpAny (model prog w) A (eval elt (compEnv scope C env)) (TellsStr (g c) s₂) E' s₂)
    (hQ : ∀ D (ys : List Value) k h' tk, Fr h₀ L h' m → News h₀ L h' ((D, listOf ys.toArray k) :: news) → StrsAre ys (y.cps.toList.map g) → Q (.ref D) { s₁ with heap := h', toks := tk })
    (hsz : y.length ≤ sizeLine) :
    wpAny (model prog w) A (pyIter (.str y t)) (CompPost prog w A env scope x [] elt Q) E s₁ := by
  refine wpAny_pyIter_str fun o St W hst => ?_
  refine ⟨fun _ => true, fun v r => ∃ a, ItemKind.str.is a v ∧ ∃ t, r = Value.str (g (a.cps.toList.headD 0)) t, s₁.heap.objs.size, [s₁.heap.objs.size], [s₁.heap.objs.size], y.cps.size, SignAt y, St, rfl, W A hh, hsz, hst, ?_, ⟨?_, ?_⟩, ?_⟩
  · intro b hb
    obtain rfl := List.mem_singleton.mp hb
    show _ < (s₁.heap.push o).objs.size
    rw [Heap.size_push]
    exact Nat.lt_succ_self _
  · intro C i v s₃ m₃ E' _ _ _ _ _
    exact wpAny_pure ⟨rfl, s₃.heap, s₃.toks, rfl, fun _ _ e => e⟩
  · intro C i v s₃ m₃ E' hP _ hn hm hk _
    obtain ⟨c, u, hc, rfl⟩ := hP
    have hmem : c ∈ y.cps.toList := by
      rw [Array.mem_toList_iff]
      exact Array.mem_of_getElem? hc
    refine wpAny_mono (he C c u s₃ m₃ E' hmem hn hm fun b o' e => hk b o' (old_not_new e) (Heap.get?_push_of_some _ e)) (fun r s₄ h₄ => ?_) fun _ _ e => e
    obtain ⟨⟨t', rfl⟩, hk⟩ := h₄
    exact ⟨⟨⟨#[c]⟩, ⟨u, rfl⟩, t', rfl⟩, hk⟩
  · intro D h' tk ys vs hnew _ hpl hlen hP hF hk
    rw [all_true] at hF
    have hI := strs_read (rel_read (areOf_signs hlen hP) hF)
    rw [signs_map] at hI
    obtain ⟨k, hD⟩ := hpl
    have keep₁ : ∀ b o', s₁.heap.get? b = some o' → h'.get? b = some o' := fun b o' e => hk b o' (old_not_new e) (Heap.get?_push_of_some _ e)
    obtain ⟨hDL, hD₀⟩ := fresh_at F hnew
    refine hQ D ys.toList k h' tk (F.keeps keep₁) (fun p hp => ?_) hI
    rcases List.mem_cons.mp hp with rfl | hp
    · exact ⟨by rw [Array.toArray_toList]; exact hD, hDL, hD₀⟩
    · exact ⟨keep₁ _ _ (N p hp).1, (N p hp).2⟩
end


section
variable {K : Frag} {env : Env} {h₀ : Heap} {L : Addr} {m : Str → Option Value} {s : Shared}
theorem nameG_B {M : Model} {A : Around} {E : Value → Shared → Prop} {mg mb : Str → Option Value} {p : Program} {loose : List Str} {x : Str} {pos : Pos} {v : Value} {Q : Value → Shared → Prop} (F : Fr h₀ L s.heap m) (X : K.In h₀) (T : TopRead p loose mg mb h₀)
    (e : nsIn K mainGlobals x = some none) (hv : bootBuiltins x = some v) (hn : x ≠ "__name__") (h : Q v s) (hg : env.globals = mainGlobals) (hb : env.builtins = builtinsNs) (hk : env.scope.kind = .function) (hx : env.kindOf x = some .globalImplicit) (hd : (x == ("__debug__" : Str)) = false) :
    wpAny M A (eval (.Name x pos) env) Q E s :=
  Name_function_global hk hx (loadGlobal_builtin (env := env) (by rw [hg]; exact (T.keeps F.keep).g) (mg_none_of X T.g e) (by rw [hb]; exact (T.keeps F.keep).b) ((T.builtins x hn).trans hv) h) hd
end
theorem join_single (cs : List Nat) (f : Nat → Nat) : Txt.join (Str.ofString "") (cs.map (fun c => (⟨#[f c]⟩ : Str))) = ⟨(cs.map f).toArray⟩ := by
  have e : Str.ofString "" = Str.empty := by decide +kernel
  rw [e]
  have key : ∀ (cs : List Nat) (a : Array Nat), List.foldl (fun acc (p : Str) => acc ++ Str.empty.cps ++ p.cps) a (cs.map (fun c => (⟨#[f c]⟩ : Str))) = a ++ (cs.map f).toArray := by
    intro cs
    induction cs with
    | nil => intro a; simp
    | cons c r ih =>
      intro a
      simp only [List.map_cons, List.foldl_cons]
      rw [ih]
      simp [Str.empty]
  unfold Txt.join Builtin.Str.glued
  cases cs with
  | nil => simp [Str.empty]
  | cons c r =>
    simp only [List.map_cons, List.drop_succ_cons, List.drop_zero, List.headD_cons]
    rw [key]
    simp
theorem sum_single (cs : List Nat) (f : Nat → Nat) : ((cs.map (fun c => (⟨#[f c]⟩ : Str))).map (·.length)).sum + (cs.map (fun c => (⟨#[f c]⟩ : Str))).length = 2 * cs.length := by
  induction cs with
  | nil => rfl
  | cons c r ih =>
    simp only [List.map_cons, List.sum_cons, List.length_cons] at ih ⊢
    have : (⟨#[f c]⟩ : Str).length = 1 := rfl
    omega
section
variable {prog : Program} {w : World} {A : Around} {E : Value → Shared → Prop} {s : Shared} {t : Tok} {Q : Value → Shared → Prop} {D : Addr} {ys : List Value} {cs : List Nat}
theorem join_low (hl : s.heap.IsList D ys.toArray) (hi : StrsAre ys (cs.map (fun c => (⟨#[lowc c]⟩ : Str)))) (hn : cs.length ≤ 1000) (h : ∀ t' k, Q (.str ⟨(cs.map lowc).toArray⟩ t') { s with toks := k }) :
    wpAny (model prog w) A (call (.builtin "str.join") [.str (Str.ofString "") t, .ref D]) Q E s := by
  refine join_listW (ys := cs.map (fun c => (⟨#[lowc c]⟩ : Str))) hl (by simpa using hi) (by decide +kernel) (by rw [sum_single]; omega) ?_
  rw [join_single]
  exact h
end
theorem tells_low {c : Nat} {s₂ : Shared} {h' : Heap} {t : Tok} {k : Nat} {x : Str} (e : x = ⟨#[lowc c]⟩) (I : InElt s₂.heap h') : TellsStr ⟨#[lowc c]⟩ s₂ (.str x t) { s₂ with heap := h', toks := k } := by
  subst e
  exact ⟨⟨t, rfl⟩, h', k, rfl, I⟩

theorem lowc_lt {c : Nat} (h : c < 1114112) : (lowc c : Int) ≤ 1114111 := by
  unfold lowc
  split <;> omega
theorem lower_text_call (x : Str) (hx : x.length ≤ 1000) (hp : Pts x) (tk : Tok) : MK 2 73 [.str x tk] (fun t => .str (lowt x) t) := by
  unfold MK
  k_with_none
  k_with "call ref" => (k_here; k_dflt (refine' mk_use (lower_code_call _ _) ?k1 ?k2 ?k3 ?k4 ?k5 ?k6 ?k7 ?k8 ?k9 ?_; (case k1 => k_asm); (case k2 => k_asm); (case k3 => k_asm); (case k4 => k_asm); (case k5 => k_asm); (case k6 => first | exact rfl | assumption); (case k7 => ktr_room); (case k8 => ktr_units); (case k9 => k_asm); k_whole; intro t9 h9 tk9 F9 N9 E9; (try dsimp only); (try k_fold)))
  k_with "call builtin:chr" => (refine' chr_of_range ?a ?b ?_; (case a => exact Int.natCast_nonneg _); (case b => exact lowc_lt ((by with_reducible assumption : Pts _) _ (by with_reducible assumption))))
  k_with "eval Name" => (k_here; k_inBlock; (with_reducible rename Fr _ _ _ _ => kF); k_dflt (refine' nameG_B kF ?k1 ?k2 ?k3 ?k9 ?kA ?_ ?k4 ?k8 ?k5 ?k6 ?k7; (case k4 => rfl); (case k5 => rfl); (case k6 => rfl); (case k7 => decide); (case k8 => rfl); (case k1 => k_asm); (case k2 => k_asm); (case k3 => k_is); (case k9 => boot_by_name); (case kA => decide); k_whole))
  k_with "call builtin:str.join" => (k_here; refine' join_low ?a ?b ?c ?_; (case a => is_list); (case b => with_reducible assumption); (case c => (rw [cps_len]; assumption)); intro _ _)
  k_with "eval ListComp" => ((with_reducible apply ListComp_rowsP); (case hfree => decide); (case hcell => decide); (case hkind => with_unfolding_all rfl); (case hnames => decide); (case hx => with_unfolding_all rfl); (case hs => intro _; with_unfolding_all rfl))
  k_with "pyIter str" => ((with_reducible rename Fr _ _ _ _ => F'); (with_reducible rename News _ _ _ _ => N'); (with_unfolding_all refine' text_strs (fun c => ⟨#[lowc c]⟩) ?hh F' N' ?he ?hQ ?hsz); (case hh => with_unfolding_all rfl); (case hsz => exact Nat.le_trans (by assumption) (by rw [PySem.sizeLine_eq]; decide)); (case' hQ => intros); (case' he => intros))
  k_fill
  intro w mean mg mb dp un gd cn cs a' ccd cl outer A₀ base h₀ L m s Q E B F X T hk hd hu hret
  refine wpAny_call ?_
  k_dflt ((refine' code_defG ?k1 ?k2 ?k3 News.nil ?k5 ?kA ?kF ?kK ?k6 ?k7 ?k8 ?k9 ?kB ?_ ?c2 ?c3 ?c4 ?c5; (case kA => exact rfl); (case kF => exact rfl); (case kK => assumption); (case k1 => k_asm); (case k2 => k_asm); (case k3 => k_asm); (case k5 => k_asm); (case k6 => k_is); (case k7 => k_is); (case k8 => ktr_room); (case k9 => exact BindsTo.of_eq rfl); (case c5 => decide); (case kB => exact locs rfl); (case c2 => exact rfl); (case c3 => exact rfl); (case c4 => exact rfl); k_whole; intro g' L' h' FG' F' N' B' X' T' kG'; (try dsimp only); (try k_lift B'); (try k_fold)))
  k_steps
  · exact tells_low (by simp) (by assumption)
  · exact mk_str hret rfl (by assumption) (by assumption) (by assumption)
end Mine

/-! C6 -/
namespace Mine
open PySem PySem.Spec PySem.Calls PyProof.Rows PyProof.V



/-- the signs that the law's texts are made of -/
def Sgn (c : Nat) : Prop := (48 ≤ c ∧ c ≤ 57) ∨ c = 43 ∨ c = 45 ∨ c = 120 ∨ c = 1633
theorem sgn_low {c : Nat} (h : Sgn c) : lowc c = c := by
  unfold Sgn at h
  unfold lowc
  rw [if_neg (by omega)]
theorem sgn_pts {x : Str} (h : ∀ c ∈ x.cps.toList, Sgn c) : Pts x := by
  intro c hc
  have := h c hc
  unfold Sgn at this
  omega
theorem lowt_sgn {x : Str} (h : ∀ c ∈ x.cps.toList, Sgn c) : lowt x = x := by
  unfold lowt
  have e : x.cps.toList.map lowc = x.cps.toList := by
    have : ∀ l : List Nat, (∀ c ∈ l, Sgn c) → l.map lowc = l := by
      intro l
      induction l with
      | nil => intro _; rfl
      | cons c r ih =>
        intro h
        rw [List.map_cons, sgn_low (h c (List.mem_cons_self ..)), ih fun d hd => h d (List.mem_cons_of_mem _ hd)]
    exact this _ h
  rw [e, Array.toArray_toList]
theorem az_filter {x : Str} (h : ∀ c ∈ x.cps.toList, Sgn c) : ((signs x).filter (fun a => if (!decide (a.cps.toList < (Str.ofString "a").cps.toList)) = true then !!decide ((Str.ofString "z").cps.toList < a.cps.toList) else !false)).isEmpty = x.cps.toList.all (· == 120) := by
  have ea : (Str.ofString "a").cps.toList = [97] := by decide +kernel
  have ez : (Str.ofString "z").cps.toList = [122] := by decide +kernel
  rw [ea, ez]
  unfold signs
  revert h
  induction x.cps.toList with
  | nil => intro _; rfl
  | cons c r ih =>
    intro h
    have hc := h c (List.mem_cons_self ..)
    have ih := ih fun d hd => h d (List.mem_cons_of_mem _ hd)
    simp only [Bool.not_false] at ih
    simp only [List.map_cons, List.filter_cons, List.all_cons, lt_one]
    unfold Sgn at hc
    by_cases h1 : c = 120
    · subst h1
      simp only [show decide (120 < 97) = false from rfl, show decide (122 < 120) = false from rfl, Bool.not_false, Bool.not_true, if_true, Bool.false_eq_true, if_false, beq_self_eq_true, Bool.true_and]
      exact ih
    · have e1 : (c == 120) = false := beq_eq_false_iff_ne.mpr h1
      rw [e1, Bool.false_and]
      by_cases h2 : c < 97
      · simp [h2]
      · have h3 : 122 < c := by omega
        simp [h2, h3]
theorem key_off {a y : Str} {l : List Nat} (ha : a.cps.toList.head? ≠ some 120) (hy : y.cps.toList = 120 :: l) : PySem.Spec.same (.str a) (.str y) = false := by
  have : a ≠ y := by
    rintro rfl
    rw [hy] at ha
    exact ha rfl
  simp [PySem.Spec.same, this]
theorem look_off {y : Str} {l : List Nat} (hy : y.cps.toList = 120 :: l) : ∀ (D : List (Str × PyData)), (∀ p ∈ D, p.1.cps.toList.head? ≠ some 120) → PySem.Spec.lookup (.str y) (D.map fun p => (PyData.str p.1, p.2)) = none
  | [], _ => rfl
  | p :: D, h => by
    simp only [List.map_cons, PySem.Spec.lookup]
    rw [key_off (h p (List.mem_cons_self ..)) hy]
    simp only [Bool.false_eq_true, if_false]
    exact look_off hy D fun q hq => h q (List.mem_cons_of_mem _ hq)
theorem look_eight {y : Str} {l : List Nat} (hy : y.cps.toList = 120 :: l) {d1 d2 d3 d4 d5 d6 d7 d8 : PyData} :
    PySem.Spec.lookup (.str y) [(.str (Str.ofString "est"), d1), (.str (Str.ofString "edt"), d2), (.str (Str.ofString "cst"), d3), (.str (Str.ofString "cdt"), d4), (.str (Str.ofString "mst"), d5), (.str (Str.ofString "mdt"), d6), (.str (Str.ofString "pst"), d7), (.str (Str.ofString "pdt"), d8)] = none := by
  refine look_off hy [((Str.ofString "est"), d1), ((Str.ofString "edt"), d2), ((Str.ofString "cst"), d3), ((Str.ofString "cdt"), d4), ((Str.ofString "mst"), d5), ((Str.ofString "mdt"), d6), ((Str.ofString "pst"), d7), ((Str.ofString "pdt"), d8)] ?_
  intro p hp
  simp only [List.mem_cons, List.not_mem_nil, or_false] at hp
  rcases hp with rfl | rfl | rfl | rfl | rfl | rfl | rfl | rfl <;> (show (Str.ofString _).cps.toList.head? ≠ some 120; decide +kernel)
theorem flat_zero {v : Value} {o : Option PyData} (H : Heap) (h : Flat v (o.getD (.int 0))) (e : o = none) : ∃ t, v = .int 0 t := by
  subst e
  have h := h H
  cases h with
  | int _ t => exact ⟨t, rfl⟩
/-- what named_zone gives back for a text of these signs -/
def nz (x : Str) : Option Int := if x.cps.toList.length = 0 then none else if x.cps.toList.all (· == 120) then some 0 else none

theorem named_zone_call (x : Str) (hx : x.length ≤ 1000) (hs : ∀ c ∈ x.cps.toList, Sgn c) (tk : Tok) : MC 4 178 [.str x tk] (ov (nz x)) := by
  have hp := sgn_pts hs
  have e := lowt_sgn hs
  have hl : (lowt x).length ≤ 1000 := by rw [e]; exact hx
  have hpl : Pts (lowt x) := by rw [e]; exact hp
  have z1 : (x == Str.ofString "") = true → nz x = none := by
    intro h
    have h' := ne_empty x
    rw [bne, h] at h'
    have : x.cps.toList.length = 0 := by simpa using h'.symm
    rw [nz, if_pos this]
  have z1' : (x == Str.ofString "") = false → x.cps.toList.length ≠ 0 := by
    intro h
    have h' := ne_empty x
    rw [bne, h] at h'
    simpa using h'.symm
  have z3 : (x == Str.ofString "") = false → (List.filter (fun a => if (!decide (a.cps.toList < (Str.ofString "a").cps.toList)) = true then !!decide ((Str.ofString "z").cps.toList < a.cps.toList) else !false) (signs (lowt x))).isEmpty = false → nz x = none := by
    intro h0 h
    rw [e, az_filter hs] at h
    rw [nz, if_neg (z1' h0), h]
    rfl
  have z2 : (x == Str.ofString "") = false → (List.filter (fun a => if (!decide (a.cps.toList < (Str.ofString "a").cps.toList)) = true then !!decide ((Str.ofString "z").cps.toList < a.cps.toList) else !false) (signs (lowt x))).isEmpty = true → nz x = some 0 ∧ ∃ l, (lowt x).cps.toList = 120 :: l := by
    intro h0 h
    rw [e, az_filter hs] at h
    refine ⟨by rw [nz, if_neg (z1' h0), if_pos h], ?_⟩
    rw [e]
    have h0 := z1' h0
    cases hc : x.cps.toList with
    | nil => rw [hc] at h0; exact absurd rfl h0
    | cons c r =>
      rw [hc] at h
      have : c = 120 := by simpa using (List.all_eq_true.mp h c (List.mem_cons_self ..))
      exact ⟨r, by rw [this]⟩
  unfold MC
  k_with_none
  k_with "call ref" => (k_here; k_dflt (refine' mc_use (MK.mc (lower_text_call _ ?z1 ?z2 _)) ?k1 ?k2 ?k3 ?k4 ?k5 ?k6 ?k7 ?k8 ?_; (case z1 => with_reducible assumption); (case z2 => with_reducible assumption); (case k1 => k_asm); (case k2 => k_asm); (case k3 => k_asm); (case k4 => k_asm); (case k5 => k_asm); (case k6 => first | exact rfl | assumption); (case k7 => ktr_room); (case k8 => ktr_units); k_whole; intro t9 h9 tk9 F9 N9; (try dsimp only); (try k_fold)))
  k_with "compareOp NotEq ref ref" => (k_here; (with_reducible show wpAny _ _ (compareOp CmpOp.NotEq (Value.ref _) (Value.ref _)) _ _ _); (with_unfolding_all refine' ne_strs_nil ?k1 ?k2 ?k3 ?k4 ?k5 ?_; (case k1 => is_list); (case k2 => is_list); (case k3 => with_reducible assumption); (case k4 => exact pts_signs (by with_reducible assumption) _); (case k5 => ktr_units); k_whole))
  k_fill
  intro w mean mg mb dp un gd cn cs a' ccd cl outer A₀ base h₀ L m news s Q E B F X N T hk hd hu hret
  refine wpAny_call ?_
  k_dflt cell_enter
  k_steps
  · exact ov_none hret (z1 (by assumption)) (by assumption) (by assumption) (fun p hp => hp)
  · obtain ⟨y1, l, y2⟩ := z2 (by assumption) (by assumption)
    have y3 := flat_zero s.heap (by assumption) (look_eight y2)
    obtain ⟨t', rfl⟩ := y3
    k_steps
    exact ov_int hret y1 (by assumption) (by assumption) (fun p hp => .tail _ (.tail _ (.tail _ hp)))
  · exact ov_none hret (z3 (by assumption) (by assumption)) (by assumption) (by assumption) (fun p hp => .tail _ (.tail _ hp))
end Mine

/-! C7 -/
namespace Mine
open PySem PySem.Spec PySem.Calls PyProof.Rows PyProof.V



def pad (n wd : Int) : Str := Txt.mul (Str.ofString "0") (wd - ((Str.ofString (toString n)).length : Int)) ++ Str.ofString (toString n)
theorem padded_call (n wd : Int) (h0 : 0 ≤ n) (h1 : n < 10000) (w0 : 0 ≤ wd) (w1 : wd ≤ 4) (tk tk2 : Tok) : MK 1 149 [.int n tk, .int wd tk2] (fun t => .str (pad n wd) t) := by
  unfold MK
  k_with_none
  k_fill
  intro w mean mg mb dp un gd cn cs a' ccd cl outer A₀ base h₀ L m s Q E B F X T hk hd hu hret
  refine wpAny_call ?_
  k_dflt ((refine' code_defG ?k1 ?k2 ?k3 News.nil ?k5 ?kA ?kF ?kK ?k6 ?k7 ?k8 ?k9 ?kB ?_ ?c2 ?c3 ?c4 ?c5; (case kA => exact rfl); (case kF => exact rfl); (case kK => assumption); (case k1 => k_asm); (case k2 => k_asm); (case k3 => k_asm); (case k5 => k_asm); (case k6 => k_is); (case k7 => k_is); (case k8 => ktr_room); (case k9 => exact BindsTo.of_eq rfl); (case c5 => decide); (case kB => exact locs rfl); (case c2 => exact rfl); (case c3 => exact rfl); (case c4 => exact rfl); k_whole; intro g' L' h' FG' F' N' B' X' T' kG'; (try dsimp only); (try k_lift B'); (try k_fold)))
  k_steps
  exact mk_str hret rfl (by assumption) (by assumption) (by assumption)

theorem digit_up : ∀ d : Nat, d < 10 → (Nat.digitChar d).toNat = 48 + d := by decide
theorem num_signs (m : Nat) (h : m < 100) : (Str.ofString (toString ((m : Nat) : Int))).cps.toList = if m < 10 then [48 + m] else [48 + m / 10, 48 + m % 10] := by
  rw [KIN.signs_num]
  by_cases hm : m < 10
  · rw [if_pos hm, Nat.toDigits_of_lt_base hm, List.map_cons, digit_up m hm]
    rfl
  · have hr : m % 10 < 10 := Nat.mod_lt m (by decide)
    have hq : m / 10 < 10 := by omega
    have t : Nat.toDigits 10 (m / 10) ++ Nat.toDigits 10 (m % 10) = Nat.toDigits 10 (10 * (m / 10) + m % 10) := Nat.toDigits_append_toDigits (by decide) (by omega) hr
    rw [Nat.div_add_mod] at t
    rw [if_neg hm, ← t, Nat.toDigits_of_lt_base hq, Nat.toDigits_of_lt_base hr]
    simp only [List.cons_append, List.nil_append, List.map_cons, List.map_nil, digit_up _ hq, digit_up _ hr]
theorem str_ext {x y : Str} (h : x.cps.toList = y.cps.toList) : x = y := by
  obtain ⟨a⟩ := x
  obtain ⟨b⟩ := y
  congr 1
  exact Array.toList_inj.mp h
theorem pad_two (m : Nat) (h : m < 100) : (pad m 2).cps.toList = [48 + m / 10, 48 + m % 10] := by
  have e := num_signs m h
  have m1 : (Txt.mul (Str.ofString "0") 1).cps.toList = [48] := by decide +kernel
  have m0 : (Txt.mul (Str.ofString "0") 0).cps.toList = [] := by decide +kernel
  have app : ∀ a b : Str, (a ++ b).cps.toList = a.cps.toList ++ b.cps.toList := fun a b => by rw [Str.cps_append]; simp
  unfold pad
  rw [app, e, ← cps_len, e]
  by_cases hm : m < 10
  · rw [if_pos hm]
    show (Txt.mul (Str.ofString "0") 1).cps.toList ++ _ = _
    rw [m1]
    have h1 : m / 10 = 0 := by omega
    have h2 : m % 10 = m := by omega
    rw [h1, h2]
    rfl
  · rw [if_neg hm]
    show (Txt.mul (Str.ofString "0") 0).cps.toList ++ _ = _
    rw [m0]
    rfl

/-- what zone_text tells of z -/
def ztext (z : Int) : Str := ⟨#[if z < 0 then 45 else 43, 48 + z.natAbs / 60 / 10, 48 + z.natAbs / 60 % 10, 48 + z.natAbs % 60 / 10, 48 + z.natAbs % 60 % 10]⟩

theorem abs_div (z : Int) : (if z < 0 then -z else z).fdiv 60 = ((z.natAbs / 60 : Nat) : Int) := by
  have e : (if z < 0 then -z else z) = (z.natAbs : Int) := by split <;> omega
  rw [e, Int.fdiv_eq_ediv_of_nonneg _ (by decide)]
  rfl
theorem abs_mod (z : Int) : (if z < 0 then -z else z).fmod 60 = ((z.natAbs % 60 : Nat) : Int) := by
  have e : (if z < 0 then -z else z) = (z.natAbs : Int) := by split <;> omega
  rw [e, Int.fmod_eq_emod_of_nonneg _ (by decide)]
  rfl
theorem zone_glue (sg : Str) (c : Nat) (hs : sg.cps.toList = [c]) (z : Int) (h0 : -6000 < z) (h1 : z < 6000) (hc : c = if z < 0 then 45 else 43) :
    sg ++ pad ((if z < 0 then -z else z).fdiv 60) 2 ++ pad ((if z < 0 then -z else z).fmod 60) 2 = ztext z := by
  have app : ∀ a b : Str, (a ++ b).cps.toList = a.cps.toList ++ b.cps.toList := fun a b => by rw [Str.cps_append]; simp
  apply str_ext
  rw [app, app, hs, abs_div, abs_mod, pad_two _ (by omega), pad_two _ (by omega), hc]
  rfl
theorem mc_str {h₀ h' : Heap} {L : Addr} {m : Str → Option Value} {news news' : List (Addr × Obj)} {s : Shared} {Q : Value → Shared → Prop} {v v' : Str} {t : Tok} {tk' : Nat}
    (hret : ∀ (t : Tok) (h' : Heap) (tk' : Nat), Fr h₀ L h' m → News h₀ L h' news → Q (.str v t) { s with heap := h', toks := tk' }) (e : v' = v) (F : Fr h₀ L h' m) (N : News h₀ L h' news') (hs : ∀ p ∈ news, p ∈ news') : Q (.str v' t) { s with heap := h', toks := tk' } := by
  subst e
  exact hret t h' tk' F (fun p hp => N p (hs p hp))
theorem pad_len (m : Nat) (h : m < 100) : (pad m 2).length = 2 := by rw [← cps_len, pad_two m h]; rfl
theorem zone_text_call (z : Int) (h0 : -6000 < z) (h1 : z < 6000) (tk : Tok) : MC 2 156 [.int z tk] (fun t => .str (ztext z) t) := by
  unfold MC
  k_with_none
  k_with "call ref" => (k_here; k_dflt (refine' mc_use (MK.mc (padded_call _ _ ?z1 ?z2 ?z3 ?z4 _ _)) ?k1 ?k2 ?k3 ?k4 ?k5 ?k6 ?k7 ?k8 ?_; (case z1 => first | with_reducible assumption | decide | omega); (case z2 => first | with_reducible assumption | decide | omega); (case z3 => decide); (case z4 => decide); (case k1 => k_asm); (case k2 => k_asm); (case k3 => k_asm); (case k4 => k_asm); (case k5 => k_asm); (case k6 => first | exact rfl | assumption); (case k7 => ktr_room); (case k8 => ktr_units); k_whole; intro t9 h9 tk9 F9 N9; (try dsimp only); (try k_fold)))
  k_fill
  intro w mean mg mb dp un gd cn cs a' ccd cl outer A₀ base h₀ L m news s Q E B F X N T hk hd hu hret
  have q0 : 0 ≤ (if z < 0 then -z else z).fdiv 60 := by rw [abs_div]; omega
  have q1 : (if z < 0 then -z else z).fdiv 60 < 10000 := by rw [abs_div]; omega
  have r0 : 0 ≤ (if z < 0 then -z else z).fmod 60 := by rw [abs_mod]; omega
  have r1 : (if z < 0 then -z else z).fmod 60 < 10000 := by rw [abs_mod]; omega
  have lq : (pad ((if z < 0 then -z else z).fdiv 60) 2).length = 2 := by rw [abs_div]; exact pad_len _ (by omega)
  have lr : (pad ((if z < 0 then -z else z).fmod 60) 2).length = 2 := by rw [abs_mod]; exact pad_len _ (by omega)
  refine wpAny_call ?_
  k_dflt ktr_enter
  k_steps
  · exact mc_str hret (zone_glue _ 45 (by decide +kernel) z h0 h1 (by rw [if_pos (by assumption)])) (by assumption) (by assumption) (fun p hp => hp)
  · exact mc_str hret (zone_glue _ 43 (by decide +kernel) z h0 h1 (by rw [if_neg (by assumption)])) (by assumption) (by assumption) (fun p hp => hp)
end Mine

/-! C8 -/
namespace Mine
open PySem PySem.Spec PySem.Calls PyProof.Rows PyProof.V


theorem fmod_b (x most : Int) (h : 1 ≤ most) : 0 ≤ x.fmod most ∧ x.fmod most < most := by
  rw [Int.fmod_eq_emod_of_nonneg _ (by omega)]
  exact ⟨Int.emod_nonneg _ (by omega), Int.emod_lt_of_pos _ (by omega)⟩
theorem fdiv_b {g G most : Int} (h : 1 ≤ most) (g0 : 0 ≤ g) (g1 : g < G) : 0 ≤ g.fdiv most ∧ g.fdiv most < G := by
  rw [Int.fdiv_eq_ediv_of_nonneg _ (by omega)]
  exact ⟨Int.ediv_nonneg g0 (by omega), Int.lt_of_le_of_lt (Int.ediv_le_self _ g0) g1⟩
/-- the law's pool of draws -/
abbrev poolO (c : Addr) (g st pl : Int) (t1 t2 t3 : Tok) (k : Nat) : Obj := listOf #[.ref c, .int g t1, .int st t2, .int pl t3] k

theorem draw_call (most : Int) (m0 : 1 ≤ most) (m1 : most ≤ 6000) (tk : Tok) (p c : Addr) (kp kc : Nat) (g st pl : Int) (t1 t2 t3 : Tok) (vs : List Value) (ns : List Int) (rest : List (Addr × Obj))
   (hI : IntsAre vs ns) (hn : ns.length ≤ 40) (g0 : 0 ≤ g) (g1 : g < 10 ^ 200) (s0 : 0 ≤ st) (s1 : st < 2147483647) (p0 : 0 ≤ pl) (p1 : pl ≤ 100) (hr : ∀ q ∈ rest, q.1 ≠ p) (hcp : c ≠ p)
   (w : World) (mean : ExcName → Option Value) (mg mb : Str → Option Value) (dp un : Nat) (gd : Option (List Code)) (cn : Str) (cs : Scope) (a : Addr) (ccd : Value) (cl : List (Str × Addr)) (outer : List Env) (A₀ : Around) (base h₀ : Heap) (L : Addr) (m : Str → Option Value) (s : Shared) (Q E : Value → Shared → Prop)
   (B : Below A₀ base outer h₀) (F : Fr h₀ L s.heap m) (X : (Mine.hd.heap_39 w.params).In h₀) (N : News h₀ L s.heap ((p, poolO c g st pl t1 t2 t3 kp) :: (c, listOf vs.toArray kc) :: rest)) (T : Top Mine.hd.view_39 (looseW Mine.hd.view_39 [Str.ofString "PostError", Str.ofString "MOST_ZONE"]) mean mg mb h₀) (hk : cs.kind = .function)
   (hd : dp + 1 < recursionLimit) (hu : un + 200 < cLine)
   (hret : ∀ (d g' st' : Int) (t t1' t2' t3' : Tok) (h' : Heap) (tk' : Nat), 0 ≤ d → d < most → 0 ≤ g' → g' < 10 ^ 200 → 0 ≤ st' → st' < 2147483647 → Fr h₀ L h' m → News h₀ L h' ((p, poolO c g' st' (pl + 1) t1' t2' t3' kp) :: (c, listOf vs.toArray kc) :: rest) → Q (.int d t) { s with heap := h', toks := tk' }) :
   wpAny (model Challenge.rw_nz0283_01.row.prog w) (ktrTop dp un gd cn cs L a ccd cl outer) (call (.ref 216) [.ref p, .int most tk]) Q E s := by
  revert X
  k_with_none
  k_fill
  intro X
  refine wpAny_call ?_
  k_dflt cell_enter
  k_steps
  · exact hret _ _ _ _ _ _ _ _ _ (fmod_b _ _ m0).1 (fmod_b _ _ m0).2 (fdiv_b m0 g0 g1).1 (fdiv_b m0 g0 g1).2 s0 s1 (by assumption) (by assumption)
  · exact hret _ _ _ _ _ _ _ _ _ (fmod_b _ _ m0).1 (fmod_b _ _ m0).2 g0 g1 (fmod_b _ _ (by decide)).1 (fmod_b _ _ (by decide)).2 (by assumption) (by assumption)
  · exact hret _ _ _ _ _ _ _ _ _ (fmod_b _ _ m0).1 (fmod_b _ _ m0).2 g0 g1 (fmod_b _ _ (by decide)).1 (fmod_b _ _ (by decide)).2 (by assumption) (by assumption)
end Mine

/-! C9 -/
namespace Mine
open PySem PySem.Spec PySem.Calls PyProof.Rows PyProof.V

theorem fold_b (l : List Int) : ∀ a : Int, 0 ≤ a → a < 2147483647 → 0 ≤ List.foldl (fun a' n' => (a' * 48271 + n'.fmod 2147483647 + 11).fmod 2147483647) a l ∧ List.foldl (fun a' n' => (a' * 48271 + n'.fmod 2147483647 + 11).fmod 2147483647) a l < 2147483647 := by
  induction l with
  | nil => intro a h0 h1; exact ⟨h0, h1⟩
  | cons n r ih =>
    intro a _ _
    have h := fmod_b (a * 48271 + n.fmod 2147483647 + 11) 2147483647 (by decide)
    exact ih _ h.1 h.2
theorem drop3 {h₀ h : Heap} {L : Addr} {a b c : Addr × Obj} {r : List (Addr × Obj)} (N : News h₀ L h (a :: b :: c :: r)) : News h₀ L h (a :: b :: r) := by
  intro p hp
  refine N p ?_
  rcases List.mem_cons.mp hp with rfl | hp
  · exact .head _
  · rcases List.mem_cons.mp hp with rfl | hp
    · exact .tail _ (.head _)
    · exact .tail _ (.tail _ (.tail _ hp))
theorem big_pos : (1 : Int) ≤ 10 ^ Int.toNat 200 := by decide +kernel
theorem big_pos' : (0 : Int) < 10 ^ 200 := by decide +kernel
section
variable {M : Model} {A : Around} {E : Value → Shared → Prop} {s : Shared} {h₀ : Heap} {L : Addr} {m : Str → Option Value} {news : List (Addr × Obj)} {env : Env}
/-- a statement that leaves an int below the bound in the frame -/
def GreatN (h₀ : Heap) (L : Addr) (m : Str → Option Value) (news : List (Addr × Obj)) (z : Str) (s : Shared) (fl : Flow) (s' : Shared) : Prop := fl = .next ∧ ∃ g t h' tk', 0 ≤ g ∧ g < 10 ^ 200 ∧ s' = { s with heap := h', toks := tk' } ∧ Fr h₀ L h' (fun y => if y = z then some (.int g t) else m y) ∧ News h₀ L h' news
theorem great_n {z : Str} {g : Int} {t : Tok} {h' : Heap} {tk' : Nat} {news' : List (Addr × Obj)} (h : 0 ≤ g ∧ g < 10 ^ 200) (F : Fr h₀ L h' (fun y => if y = z then some (.int g t) else m y)) (N : News h₀ L h' news') (hs : ∀ p ∈ news, p ∈ news') : GreatN h₀ L m news z s .next { s with heap := h', toks := tk' } :=
  ⟨rfl, g, t, h', tk', h.1, h.2, rfl, F, fun p hp => N p (hs p hp)⟩
theorem great_n2 {z : Str} {g g0 : Int} {t t0 : Tok} {h' : Heap} {tk' : Nat} {news' : List (Addr × Obj)} (h : 0 ≤ g ∧ g < 10 ^ 200) (F : Fr h₀ L h' (fun y => if y = z then some (.int g t) else if y = z then some (.int g0 t0) else m y)) (N : News h₀ L h' news') (hs : ∀ p ∈ news, p ∈ news') : GreatN h₀ L m news z s .next { s with heap := h', toks := tk' } := by
  refine great_n (t := t) h ?_ N hs
  have e : (fun y => if y = z then some (Value.int g t) else if y = z then some (.int g0 t0) else m y) = (fun y => if y = z then some (.int g t) else m y) := by
    funext y
    by_cases h : y = z
    · rw [if_pos h, if_pos h]
    · rw [if_neg h, if_neg h, if_neg h]
  exact e ▸ F
theorem great_cut {test : Expr} {body orelse : List Stmt} {pos : Pos} {z : Str} {g0 : Int} {t0 : Tok} {Q : Flow → Shared → Prop} (_F : Fr h₀ L s.heap (fun y => if y = z then some (.int g0 t0) else m y)) (_N : News h₀ L s.heap news)
    (C : wpAny M A (isTrue test env (eval test env)) (fun b s₂ => if b then wpAny M A (execs body env) (GreatN h₀ L m news z s) E s₂ else wpAny M A (execs orelse env) (GreatN h₀ L m news z s) E s₂) E s)
    (h : ∀ g t h' tk', 0 ≤ g → g < 10 ^ 200 → Fr h₀ L h' (fun y => if y = z then some (.int g t) else m y) → News h₀ L h' news → Q .next { s with heap := h', toks := tk' }) : wpAny M A (exec (.If test body orelse pos) env) Q E s := by
  refine wpAny_mono (wpAny_If C) (fun fl s₂ hb => ?_) fun _ _ e => e
  obtain ⟨rfl, g, t, h', tk', g0, g1, rfl, F, N⟩ := hb
  exact h g t h' tk' g0 g1 F N
end
theorem box_call (l : Addr) (vs : List Value) (ns : List Int) (hI : IntsAre vs ns) (hn : ns.length ≤ 63)
   (w : World) (mean : ExcName → Option Value) (mg mb : Str → Option Value) (dp un : Nat) (gd : Option (List Code)) (cn : Str) (cs : Scope) (a : Addr) (ccd : Value) (cl : List (Str × Addr)) (outer : List Env) (A₀ : Around) (base h₀ : Heap) (L : Addr) (m : Str → Option Value) (s : Shared) (Q E : Value → Shared → Prop) (q1 q2 : Addr) (o1 o2 : Obj)
   (B : Below A₀ base outer h₀) (F : Fr h₀ L s.heap m) (X : (Mine.hd.heap_39 w.params).In h₀) (N : News h₀ L s.heap [(q1, o1), (q2, o2)]) (T : Top Mine.hd.view_39 (looseW Mine.hd.view_39 [Str.ofString "PostError", Str.ofString "MOST_ZONE"]) mean mg mb h₀) (hk : cs.kind = .function)
   (hl : base.IsList l vs.toArray)
   (hd : dp + 1 < recursionLimit) (hu : un + 200 < cLine)
   (hret : ∀ (p c : Addr) (g st : Int) (t1 t2 t3 : Tok) (us : List Value) (ms : List Int) (kp kc : Nat) (h' : Heap) (tk' : Nat), IntsAre us ms → ms.length ≤ 40 → 0 ≤ g → g < 10 ^ 200 → 0 ≤ st → st < 2147483647 → c ≠ p → q1 ≠ p → q2 ≠ p →
      Fr h₀ L h' m → News h₀ L h' ((p, poolO c g st 0 t1 t2 t3 kp) :: (c, listOf us.toArray kc) :: [(q1, o1), (q2, o2)]) → Q (.ref p) { s with heap := h', toks := tk' }) :
   wpAny (model Challenge.rw_nz0283_01.row.prog w) (ktrTop dp un gd cn cs L a ccd cl outer) (call (.ref 209) [.ref l]) Q E s := by
  revert X
  k_with_none
  k_with "exec If" => (k_here; (with_reducible show wpAny _ _ (exec (Stmt.If _ [Stmt.Assign _ _ _] _ _) _) _ _ _); (refine CbC.out (f := 1) (k := 0) ?_))
  k_fill
  intro X
  refine wpAny_call ?_
  k_dflt cell_enter
  k_steps
  unfold CbC
  with_reducible rename Fr _ _ _ _ => F6
  with_reducible rename News _ _ _ _ => N6
  refine great_cut F6 N6 ?_ ?_
  · k_steps
    · exact great_n2 (fmod_b _ _ big_pos) (by assumption) (by assumption) (fun p hp => hp)
    · exact great_n ⟨Int.le_refl 0, big_pos'⟩ (by assumption) (by assumption) (fun p hp => hp)
    · exact great_n ⟨Int.le_refl 0, big_pos'⟩ (by assumption) (by assumption) (fun p hp => hp)
  · intro g t h7 tk7 g0 g1 F7 N7
    k_steps
    refine hret _ _ _ _ _ _ _ _ _ _ _ _ _ (by assumption) ?_ g0 g1 (fold_b _ 7 (by decide) (by decide)).1 (fold_b _ 7 (by decide) (by decide)).2 ?_ ?_ ?_ (by assumption) (drop3 (by assumption))
    · rw [List.length_map]; omega
    all_goals (refine neN ?_; omega)
end Mine

/-! D1 -/
namespace Mine
open PySem PySem.Spec PySem.Calls PyProof.Rows PyProof.V

/-! a list of texts made of a tuple of texts by an element that calls; a text's place in a list -/
theorem strs_at {xs : List Value} {ss : List Str} (h : StrsAre xs ss) (i : Nat) (v : Value) (e : xs[i]? = some v) : ∃ a u, a ∈ ss ∧ v = .str a u := by
  obtain ⟨a, ha, u, rfl⟩ := h.areOf.get i v e
  exact ⟨a, u, List.mem_of_getElem? ha, rfl⟩
section
variable {prog : Program} {w : World} {A : Around} {E : Value → Shared → Prop} {s₁ : Shared} {h₀ : Heap} {L : Addr} {m : Str → Option Value} {news : List (Addr × Obj)}
theorem tup_strs {name : Str} {fscope : Scope} {a : Addr} {cd : Value} {elt : Expr} {x z : Str} {scope : Scope} {Q : Flow → Shared → Prop} (g : Str → Str) {l : Addr} {xs : List Value} {ss : List Str}
    (ht : IsTup s₁.heap l xs.toArray) (hi : StrsAre xs ss) (hh : A.handled = none) (F : Fr h₀ L s₁.heap m) (N : News h₀ L s₁.heap news)
    (he : ∀ C b u s₂ m₂ E', b ∈ ss → s₂.heap.Ns (compEnv scope C (envOf name fscope L a cd)).locals m₂ → m₂ x = some (.str b u) → (∀ b o, s₁.heap.get? b = some o → s₂.heap.get? b = some o) →
      wpAny (model prog w) A (eval elt (compEnv scope C (envOf name fscope L a cd))) (TellsStr (g b) s₂) E' s₂)
    (hQ : ∀ D (ys : List Value) k h' tk, Fr h₀ L h' (fun q => if q = z then some (.ref D) else m q) → News h₀ L h' ((D, listOf ys.toArray k) :: news) → StrsAre ys (ss.map g) → Q .next { s₁ with heap := h', toks := tk })
    (hsz : xs.length ≤ sizeLine) :
    wpAny (model prog w) A (pyIter (.ref l)) (CompPostA prog w A (envOf name fscope L a cd) scope x z [] elt Q) E s₁ := by
  have hlt : l < s₁.heap.objs.size := by obtain ⟨_, e, _⟩ := ht; exact Heap.lt_size e
  refine wpAny_pyIter_tuple ht ?_
  have old : ∀ b o', s₁.heap.get? b = some o' → b ∉ [s₁.heap.objs.size] := fun b o' e hb => absurd (Heap.lt_size e) ((List.mem_singleton.mp hb) ▸ Nat.lt_irrefl _)
  refine ⟨fun _ => true, fun v r => ∃ a, ItemKind.str.is a v ∧ ∃ t, r = Value.str (g a) t, s₁.heap.objs.size, [s₁.heap.objs.size, l], [s₁.heap.objs.size], xs.toArray.size, _, _, m, rfl, Walks.tuple hh _ l (Nat.ne_of_lt hlt) xs.toArray, (by rw [List.size_toArray]; exact hsz),
    ⟨⟨_, Heap.get?_push_size _ rfl, rfl, rfl⟩, Heap.IsTuple.push ht _⟩, ?_, ?_, (F.push _).ns, ⟨?_, ?_⟩, ?_⟩
  · intro b hb
    show b < (s₁.heap.push _).objs.size
    rw [Heap.size_push]
    rcases List.mem_cons.mp hb with rfl | hb
    · exact Nat.lt_succ_self _
    · rw [List.mem_singleton.mp hb]; exact Nat.lt_succ_of_lt hlt
  · intro hm
    have h1 := F.ns.lt
    rw [show s₁.heap.objs.size = L from (List.mem_singleton.mp hm).symm] at h1
    exact Nat.lt_irrefl _ h1
  · intro C i v s₃ m₃ E' _ _ _ _ _
    exact wpAny_pure ⟨rfl, s₃.heap, s₃.toks, rfl, fun _ _ e => e⟩
  · intro C i v s₃ m₃ E' hP _ hn hm hk _
    obtain ⟨b, u, hb, rfl⟩ := strs_at hi i v (by simpa using hP)
    refine wpAny_mono (he C b u s₃ m₃ E' hb hn hm fun c o' e => hk c o' (old c o' e) (Heap.get?_push_of_some _ e)) (fun r s₄ h₄ => ?_) fun _ _ e => e
    obtain ⟨⟨t', rfl⟩, hk⟩ := h₄
    exact ⟨⟨b, ⟨u, rfl⟩, t', rfl⟩, hk⟩
  · intro D h' tk ys vs hnew _ hpl hlen hP hF hn' hk
    have e' : vs = xs := by simpa using walked_is hlen hP
    subst e'
    rw [all_true] at hF
    obtain ⟨k, hD⟩ := hpl
    have keep₁ : ∀ b o', b ≠ L → s₁.heap.get? b = some o' → h'.get? b = some o' := fun b o' hb e => hk b o' hb (old b o' e) (Heap.get?_push_of_some _ e)
    obtain ⟨hDL, hD₀⟩ := fresh_at F hnew
    refine hQ D ys.toList k h' tk ⟨hn', fun b o' e => ?_, F.above⟩ (fun p hp => ?_) (strs_read (rel_read hi.areOf hF))
    · exact keep₁ b o' (Nat.ne_of_lt (Nat.lt_of_lt_of_le (Heap.lt_size e) F.above)) (F.keep b o' e)
    · rcases List.mem_cons.mp hp with rfl | hp
      · exact ⟨by rw [Array.toArray_toList]; exact hD, hDL, hD₀⟩
      · exact ⟨keep₁ _ _ (N p hp).2.1 (N p hp).1, (N p hp).2⟩
end
theorem strs_len {vs : List Value} {ys : List Str} (h : StrsAre vs ys) : vs.length = ys.length := h.areOf.length
theorem isStr_get (k : Str) {vs : List Value} {ys : List Str} (h : StrsAre vs ys) (j : Nat) (h1 : j < vs.length) (h2 : j < ys.length) : isStrOf k vs[j] = (ys[j] == k) := by
  obtain ⟨a, ha, u, e⟩ := h.areOf.get j _ (List.getElem?_eq_getElem h1)
  rw [List.getElem?_eq_getElem h2] at ha
  cases ha
  rw [e]
  rfl
section
variable {prog : Program} {w : World} {A : Around} {E : Value → Shared → Prop} {s : Shared}
theorem index_strs {l : Addr} {vs : List Value} {ys : List Str} {k : Str} {t : Tok} {j : Nat} {Q : Value → Shared → Prop} (hl : s.heap.IsList l vs.toArray) (hi : StrsAre vs ys)
    (hj : j < ys.length) (hs : ys.length ≤ 1000) (hit : (ys[j] == k) = true) (hno : ∀ (i : Nat) (hi : i < ys.length), i < j → (ys[i] == k) = false) (h : Q (.int (j : Nat) s.toks) { s with toks := s.toks + 1 }) :
    wpAny (model prog w) A (call (.builtin "list.index") [.ref l, .str k t]) Q E s := by
  obtain ⟨⟨cls, dd, data, sl⟩, ho, hc, n, hd⟩ := id hl
  simp only at hc hd
  subst hc hd
  have hlen := strs_len hi
  refine call_meets PySem.F.slot_list_index ⟨_, ho, rfl⟩ PySem.F.entry_list_index (PySem.F.args_list_index_2 _ _)
    (SeqAt.list_indexAt l vs.toArray n dd sl (.str k t) (isStrOf k) j (by simpa [hlen] using hj) (by omega) ?_ ?_) ⟨ho, fun y hy => (eq_isStrOf k t hi y (by simpa using hy)).at _ _, h⟩
  · show isStrOf k vs[j] = true
    rw [isStr_get k hi j (by omega) hj]
    exact hit
  · intro i his hlt
    show isStrOf k vs[i] = false
    rw [isStr_get k hi i (by simpa using his) (by omega)]
    exact hno i (by omega) hlt
end

def months : List Str := [Str.ofString "Jan", Str.ofString "Feb", Str.ofString "Mar", Str.ofString "Apr", Str.ofString "May", Str.ofString "Jun", Str.ofString "Jul", Str.ofString "Aug", Str.ofString "Sep", Str.ofString "Oct", Str.ofString "Nov", Str.ofString "Dec"]
theorem months_ok : ∀ b ∈ months, b.length ≤ 1000 ∧ Pts b := by
  have h : months.all (fun b => decide (b.length ≤ 1000) && b.cps.toList.all (fun c => decide (c < 1114112))) = true := by decide +kernel
  intro b hb
  have := List.all_eq_true.mp h b hb
  rw [Bool.and_eq_true] at this
  exact ⟨by simpa using this.1, fun c hc => by simpa using List.all_eq_true.mp this.2 c hc⟩
theorem jul_ok : (Str.ofString "Jul") ∈ months := by
  unfold months
  simp
theorem jul_no : ∀ i : Nat, i < 6 → (((months.map lowt)[i]?).map (· == lowt (Str.ofString "Jul"))) = some false := by decide +kernel
theorem jul_in : (months.map lowt).any (· == lowt (Str.ofString "Jul")) = true := by decide +kernel
section
variable {prog : Program} {w : World} {A : Around} {E : Value → Shared → Prop} {s : Shared}
theorem jul_is_in {l : Addr} {vs : List Value} {t : Tok} {Q : Value → Shared → Prop} (hl : s.heap.IsList l vs.toArray) (hi : StrsAre vs (months.map lowt)) (h : Q (.bool true) s) :
    wpAny (model prog w) A (compareOp .In (.str (lowt (Str.ofString "Jul")) t) (.ref l)) Q E s := in_list_strs hl hi (by rw [jul_in]; exact h)
theorem jul_at {l : Addr} {vs : List Value} {t : Tok} {Q : Value → Shared → Prop} (hl : s.heap.IsList l vs.toArray) (hi : StrsAre vs (months.map lowt)) (h : Q (.int 6 s.toks) { s with toks := s.toks + 1 }) :
    wpAny (model prog w) A (call (.builtin "list.index") [.ref l, .str (lowt (Str.ofString "Jul")) t]) Q E s :=
  index_strs (j := 6) hl hi (by decide) (by decide) (by decide +kernel) (fun i hi h => by
    have e := jul_no i h
    rw [List.getElem?_eq_getElem hi] at e
    simpa using e) h
end
theorem tells_lowt {c : Str} {s₂ : Shared} {h' : Heap} {t : Tok} {k : Nat} (I : InElt s₂.heap h') : TellsStr (lowt c) s₂ (.str (lowt c) t) { s₂ with heap := h', toks := k } := ⟨⟨t, rfl⟩, h', k, rfl, I⟩

theorem mc_int {h₀ h' : Heap} {L : Addr} {m : Str → Option Value} {news news' : List (Addr × Obj)} {s : Shared} {Q : Value → Shared → Prop} {v v' : Int} {t : Tok} {tk' : Nat}
    (hret : ∀ (t : Tok) (h' : Heap) (tk' : Nat), Fr h₀ L h' m → News h₀ L h' news → Q (.int v t) { s with heap := h', toks := tk' }) (e : v' = v) (F : Fr h₀ L h' m) (N : News h₀ L h' news') (hs : ∀ p ∈ news, p ∈ news') : Q (.int v' t) { s with heap := h', toks := tk' } := by
  subst e
  exact hret t h' tk' F (fun p hp => N p (hs p hp))


theorem month_call (tk : Tok) : MC 3 142 [.str (Str.ofString "Jul") tk] (fun t => .int 7 t) := by
  unfold MC
  k_with_none
  k_with "call ref" => (k_here; k_dflt (first
  | (refine' mk_use (lower_text_call _ ?z1 ?z2 _) ?k1 ?k2 ?k3 ?k4 ?k5 ?k6 ?k7 ?k8 ?k9 ?_; (case z1 => first | exact (months_ok _ jul_ok).1 | exact (months_ok _ (by with_reducible assumption)).1); (case z2 => first | exact (months_ok _ jul_ok).2 | exact (months_ok _ (by with_reducible assumption)).2); (case k1 => k_asm); (case k2 => k_asm); (case k3 => k_asm); (case k4 => k_asm); (case k5 => k_asm); (case k6 => first | exact rfl | assumption); (case k7 => ktr_room); (case k8 => ktr_units); (case k9 => k_asm); k_whole; intro t9 h9 tk9 F9 N9 E9; (try dsimp only); (try k_fold))
  | (refine' mc_use (MK.mc (lower_text_call _ ?z1 ?z2 _)) ?k1 ?k2 ?k3 ?k4 ?k5 ?k6 ?k7 ?k8 ?_; (case z1 => exact (months_ok _ jul_ok).1); (case z2 => exact (months_ok _ jul_ok).2); (case k1 => k_asm); (case k2 => k_asm); (case k3 => k_asm); (case k4 => k_asm); (case k5 => k_asm); (case k6 => first | exact rfl | assumption); (case k7 => ktr_room); (case k8 => ktr_units); k_whole; intro t9 h9 tk9 F9 N9; (try dsimp only); (try k_fold))))
  k_with "compareOp In str ref" => (k_here; refine' jul_is_in ?a ?b ?_; (case a => is_list); (case b => with_reducible assumption))
  k_with "call builtin:list.index" => (k_here; refine' jul_at ?a ?b ?_; (case a => is_list); (case b => with_reducible assumption))
  k_with "exec Assign cons ListComp" => ((with_reducible apply Assign_ListComp_rowsP); (case hsw => with_unfolding_all rfl); (case hfree => decide); (case hcell => decide); (case hkind => with_unfolding_all rfl); (case hnames => decide); (case hx => with_unfolding_all rfl); (case hy => with_unfolding_all rfl); (case hp => with_unfolding_all rfl); (case hs => intro _; with_unfolding_all rfl))
  k_with "pyIter ref" => ((with_reducible rename Fr _ _ _ _ => F'); (with_reducible rename News _ _ _ _ => N'); (with_reducible rename Frag.In _ _ => X'); (with_unfolding_all refine' tup_strs lowt (ss := months) (tupK (Frag.In.keeps X' (Fr.keep F')) ?hl) ?hi ?hh F' N' ?he ?hQ ?hsz); (case hl => k_dflt k_is); (case hh => with_unfolding_all rfl); (case hi => exact .cons _ _ (.cons _ _ (.cons _ _ (.cons _ _ (.cons _ _ (.cons _ _ (.cons _ _ (.cons _ _ (.cons _ _ (.cons _ _ (.cons _ _ (.cons _ _ .nil)))))))))))); (case hsz => exact Nat.le_of_ble_eq_true rfl); (case' hQ => intros); (case' he => intros))
  k_fill
  intro w mean mg mb dp un gd cn cs a' ccd cl outer A₀ base h₀ L m news s Q E B F X N T hk hd hu hret
  refine wpAny_call ?_
  k_dflt ktr_enter
  k_steps
  · exact tells_lowt (by assumption)
  · exact mc_int hret rfl (by assumption) (by assumption) (fun p hp => .tail _ hp)
end Mine

/-! D2 -/
namespace Mine
open PySem PySem.Spec PySem.Calls PyProof.Rows PyProof.V

section
variable {prog : Program} {w : World} {A : Around} {E : Value → Shared → Prop} {s : Shared} {h₀ : Heap} {L : Addr} {m : Str → Option Value} {news : List (Addr × Obj)} {x y : Str} {t : Tok} {value slice : Expr} {Q : Value → Shared → Prop}
/-- a slice of a text that is known -/
theorem slice_to {i j : Int} {ui uj : Tok} (hF : Fr h₀ L s.heap m) (hN : News h₀ L s.heap news) (hy : Txt.slice x (some i) (some j) = y) (h : ∀ h' t' k, Fr h₀ L h' m → News h₀ L h' news → Q (.str y t') { s with heap := h', toks := k })
    (hs : subscripted slice false (.str x t) (.ref s.heap.objs.size) = operate [.ref s.heap.objs.size, .str x t] (getItem (.str x t) (.ref s.heap.objs.size)) := by with_unfolding_all rfl)
    (ht : ∀ r, letTemporaryGo value (.str x t) r = pure () := by intro _; with_unfolding_all rfl) (hsz : x.length ≤ sizeLine := by size_fits) :
    wpAny (model prog w) A (subscriptTail value slice (.str x t) (.ref s.heap.objs.size)) Q E { s with heap := s.heap.push { cls := .type "slice", data := .fields #[.int i ui, .int j uj, .none] } } := by
  subst hy
  exact slice_strN_ss hF hN h hs ht hsz
theorem slice_to_end {i : Int} {ui : Tok} (hF : Fr h₀ L s.heap m) (hN : News h₀ L s.heap news) (hy : Txt.slice x (some i) none = y) (h : ∀ h' t' k, Fr h₀ L h' m → News h₀ L h' news → Q (.str y t') { s with heap := h', toks := k })
    (hs : subscripted slice false (.str x t) (.ref s.heap.objs.size) = operate [.ref s.heap.objs.size, .str x t] (getItem (.str x t) (.ref s.heap.objs.size)) := by with_unfolding_all rfl)
    (ht : ∀ r, letTemporaryGo value (.str x t) r = pure () := by intro _; with_unfolding_all rfl) (hsz : x.length ≤ sizeLine := by size_fits) :
    wpAny (model prog w) A (subscriptTail value slice (.str x t) (.ref s.heap.objs.size)) Q E { s with heap := s.heap.push { cls := .type "slice", data := .fields #[.int i ui, .none, .none] } } := by
  subst hy
  exact slice_strN_sn hF hN h hs ht hsz
end
theorem is_figures_yes (x : Str) (h : figs x = true) (hl : x.length ≤ 1000) (tk : Tok) : MK 1 166 [.str x tk] (fun _ => .bool true) := by
  have hp : Pts x := fun c hc => by
    have := figs_all h c hc
    omega
  have C := is_figures_keep x hl hp tk
  rw [h] at C
  exact C
theorem is_figures_true (x : Str) (h : figs x = true) (hl : x.length ≤ 1000) (tk : Tok) : MC 1 166 [.str x tk] (fun _ => .bool true) := (is_figures_yes x h hl tk).mc
theorem july_call (tk : Tok) : MC 3 142 [.str ⟨#[74, 117, 108]⟩ tk] (fun t => .int 7 t) := by
  have e : Str.ofString "Jul" = ⟨#[74, 117, 108]⟩ := by decide +kernel
  rw [← e]
  exact month_call tk
theorem len_known {prog : Program} {w : World} {A : Around} {E : Value → Shared → Prop} {s : Shared} {x : Str} {t : Tok} {n : Nat} {Q : Value → Shared → Prop} (hn : x.length = n) (hl : n ≤ 1000) (h : Q (.int n (s.toks + 1)) { s with toks := s.toks + 1 + 1 }) :
    wpAny (model prog w) A (call (.builtin "len") [.str x t]) Q E s := P.len_str (by rw [hn]; omega) (by rw [hn]; exact h)

theorem mc_bool {h₀ h' : Heap} {L : Addr} {m : Str → Option Value} {news news' : List (Addr × Obj)} {s : Shared} {Q : Value → Shared → Prop} {v v' : Bool} {tk' : Nat}
    (hret : ∀ (t : Tok) (h' : Heap) (tk' : Nat), Fr h₀ L h' m → News h₀ L h' news → Q (.bool v) { s with heap := h', toks := tk' }) (e : v' = v) (F : Fr h₀ L h' m) (N : News h₀ L h' news') (hs : ∀ p ∈ news, p ∈ news') : Q (.bool v') { s with heap := h', toks := tk' } := by
  subst e
  exact hret 0 h' tk' F (fun p hp => N p (hs p hp))
theorem month_length_call (t1 t2 : Tok) : MC 1 116 [.int 1996 t1, .int 7 t2] (fun t => .int 31 t) := by
  unfold MC
  k_with_none
  k_fill
  intro w mean mg mb dp un gd cn cs a' ccd cl outer A₀ base h₀ L m news s Q E B F X N T hk hd hu hret
  refine wpAny_call ?_
  k_dflt cell_enter
  k_steps
  exact mc_int hret rfl (by assumption) (by assumption) (fun p hp => .tail _ hp)

theorem is_day_call (t1 t2 t3 : Tok) : MC 2 123 [.int 1996 t1, .int 7 t2, .int 17 t3] (fun _ => .bool true) := by
  unfold MC
  k_with_none
  k_with "call ref" => (k_here; k_dflt (refine' mc_use (month_length_call _ _) ?k1 ?k2 ?k3 ?k4 ?k5 ?k6 ?k7 ?k8 ?_; (case k1 => k_asm); (case k2 => k_asm); (case k3 => k_asm); (case k4 => k_asm); (case k5 => k_asm); (case k6 => first | exact rfl | assumption); (case k7 => ktr_room); (case k8 => ktr_units); k_whole; intro t9 h9 tk9 F9 N9; (try dsimp only); (try k_fold)))
  k_fill
  intro w mean mg mb dp un gd cn cs a' ccd cl outer A₀ base h₀ L m news s Q E B F X N T hk hd hu hret
  refine wpAny_call ?_
  k_dflt cell_enter
  k_steps
  exact mc_bool hret (by decide) (by assumption) (by assumption) (fun p hp => hp)
theorem is_time_call (t1 t2 t3 : Tok) : MC 1 130 [.int 2 t1, .int 44 t2, .int 25 t3] (fun _ => .bool true) := by
  unfold MC
  k_with_none
  k_with "call ref" => (k_here; k_dflt (refine' mc_use (month_length_call _ _) ?k1 ?k2 ?k3 ?k4 ?k5 ?k6 ?k7 ?k8 ?_; (case k1 => k_asm); (case k2 => k_asm); (case k3 => k_asm); (case k4 => k_asm); (case k5 => k_asm); (case k6 => first | exact rfl | assumption); (case k7 => ktr_room); (case k8 => ktr_units); k_whole; intro t9 h9 tk9 F9 N9; (try dsimp only); (try k_fold)))
  k_fill
  intro w mean mg mb dp un gd cn cs a' ccd cl outer A₀ base h₀ L m news s Q E B F X N T hk hd hu hret
  refine wpAny_call ?_
  k_dflt cell_enter
  k_steps
  exact mc_bool hret (by decide) (by assumption) (by assumption) (fun p hp => hp)
end Mine

/-! D3 -/
namespace Mine
open PySem PySem.Spec PySem.Calls PyProof.Rows PyProof.V


theorem drop2 {h₀ h : Heap} {L : Addr} {a b : Addr × Obj} {r : List (Addr × Obj)} (N : News h₀ L h (a :: b :: r)) : News h₀ L h (a :: r) := by
  intro p hp
  refine N p ?_
  rcases List.mem_cons.mp hp with rfl | hp
  · exact .head _
  · exact .tail _ (.tail _ hp)
theorem day_in_call (x : Str) (hx : x.length ≤ 100) (hs : Txt.slice x (some 0) (some 11) = Str.ofString "17-Jul-1996") (tk tk1 tk2 : Tok)
   (w : World) (mean : ExcName → Option Value) (mg mb : Str → Option Value) (dp un : Nat) (gd : Option (List Code)) (cn : Str) (cs : Scope) (a : Addr) (ccd : Value) (cl : List (Str × Addr)) (outer : List Env) (A₀ : Around) (base h₀ : Heap) (L : Addr) (m : Str → Option Value) (s : Shared) (Q E : Value → Shared → Prop) (news : List (Addr × Obj))
   (B : Below A₀ base outer h₀) (F : Fr h₀ L s.heap m) (X : (Mine.hd.heap_39 w.params).In h₀) (N : News h₀ L s.heap news) (T : Top Mine.hd.view_39 (looseW Mine.hd.view_39 [Str.ofString "PostError", Str.ofString "MOST_ZONE"]) mean mg mb h₀) (hk : cs.kind = .function)
   (hd : dp + 6 < recursionLimit) (hu : un + 300 < cLine)
   (hret : ∀ (p : Addr) (t1 t2 t3 : Tok) (h' : Heap) (tk' : Nat), AllLt p news → Fr h₀ L h' m → News h₀ L h' ((p, { cls := .type "tuple", data := .seq #[.int 1996 t1, .int 7 t2, .int 17 t3] }) :: news) → Q (.ref p) { s with heap := h', toks := tk' }) :
   wpAny (model Challenge.rw_nz0283_01.row.prog w) (ktrTop dp un gd cn cs L a ccd cl outer) (call (.ref 192) [.str x tk, .int 0 tk1, .int 11 tk2]) Q E s := by
  revert X
  k_with_none
  k_with "subscriptTail Name Slice str ref" => ((with_reducible show wpAny _ _ (subscriptTail _ (Expr.Slice (some _) (some _) none _) _ _) _ _ _); (with_reducible rename Fr _ _ _ _ => F'); (with_reducible rename News _ _ _ _ => N'); (refine slice_to (hsz := ?hsz) (s := ⟨_, _, _, _, _⟩) F' N' (by with_reducible assumption) ?_); (case hsz => size_fits); intro _ _ _ _ _)
  k_with "call ref" => (k_here; k_dflt (refine' mc_use (is_figures_true _ ?z1 ?z2 _) ?k1 ?k2 ?k3 ?k4 ?k5 ?k6 ?k7 ?k8 ?_; (case z1 => decide +kernel); (case z2 => decide +kernel); (case k1 => k_asm); (case k2 => k_asm); (case k3 => k_asm); (case k4 => k_asm); (case k5 => k_asm); (case k6 => first | exact rfl | assumption); (case k7 => ktr_room); (case k8 => ktr_units); k_whole; intro t9 h9 tk9 F9 N9; (try dsimp only); (try k_fold)))
  k_with "call ref" => (k_here; k_dflt (refine' mc_use (july_call _) ?k1 ?k2 ?k3 ?k4 ?k5 ?k6 ?k7 ?k8 ?_; (case k1 => k_asm); (case k2 => k_asm); (case k3 => k_asm); (case k4 => k_asm); (case k5 => k_asm); (case k6 => first | exact rfl | assumption); (case k7 => ktr_room); (case k8 => ktr_units); k_whole; intro t9 h9 tk9 F9 N9; (try dsimp only); (try k_fold)))
  k_with "call ref" => (k_here; k_dflt (refine' mc_use (is_day_call _ _ _) ?k1 ?k2 ?k3 ?k4 ?k5 ?k6 ?k7 ?k8 ?_; (case k1 => k_asm); (case k2 => k_asm); (case k3 => k_asm); (case k4 => k_asm); (case k5 => k_asm); (case k6 => first | exact rfl | assumption); (case k7 => ktr_room); (case k8 => ktr_units); k_whole; intro t9 h9 tk9 F9 N9; (try dsimp only); (try k_fold)))
  k_with "call builtin:len" => (k_here; (with_reducible show wpAny _ _ (call (Value.builtin "len") [Value.str (Str.mk _) _]) _ _ _); refine' len_known ?a ?b ?_; (case a => exact rfl); (case b => decide))
  k_fill
  intro X
  have hx1 : x.length ≤ 1000 := by omega
  refine wpAny_call ?_
  k_dflt cell_enter
  k_steps
  exact hret _ _ _ _ _ _ (And.right (by assumption)) (by assumption) (drop2 (by assumption))
end Mine

/-! D4 -/
namespace Mine
open PySem PySem.Spec PySem.Calls PyProof.Rows PyProof.V

theorem item_known {prog : Program} {w : World} {A : Around} {E : Value → Shared → Prop} {s : Shared} {x y : Str} {t : Tok} {value slice : Expr} {Q : Value → Shared → Prop} {i : Int} {u : Tok} (hy : Txt.item x i = y) (h0 : 0 ≤ i) (h2 : i < x.length) (hl : x.length ≤ 1000) (h : Q (.str y s.toks) { s with toks := s.toks + 1 })
    (hs : subscripted slice false (.str x t) (.int i u) = operate [.str x t, .int i u] (getItem (.str x t) (.int i u)) := by with_unfolding_all rfl)
    (ht : ∀ r, letTemporaryGo value (.str x t) r = pure () := by intro _; with_unfolding_all rfl) :
    wpAny (model prog w) A (subscriptTail value slice (.str x t) (.int i u)) Q E s := by
  subst hy
  exact item_str (fitsSsize_of (N := 9223372036854775808) (by omega) (by omega) (Int.le_refl _)) (by omega) h2 (fun _ => h) hs ht
theorem zone_in_some {x : Str} {z : Int} (hx : x.length ≤ 640) (hp : Pts x) (hz : zl x.cps.toList = some z) (tk : Tok) : MC 2 173 [.str x tk] (fun t => .int z t) := by
  have C := zone_in_call x hx hp tk
  rw [hz] at C
  exact C

/-! a comprehension over a list of texts whose test and element may call -/
def TellsOk (b : Bool) (s₂ : Shared) (ok : Bool) (s₃ : Shared) : Prop := ok = b ∧ Keeps s₂ s₃
theorem texts_read {α : Type} {K : ItemKind α} {p : α → Bool} {R : α → Value → Prop} {vs : List Value} {as : List α} (h : AreOf K vs as) {ys : List Value} (hp : Paired (fun v r => ∃ a, K.is a v ∧ R a r) (vs.filter (K.lift p)) ys) : Paired R (as.filter p) ys := by
  induction h generalizing ys with
  | nil => cases hp; exact .nil
  | @cons a v vs as hi _ ih =>
    rw [List.filter_cons, ItemKind.lift_is hi] at hp
    rw [List.filter_cons]
    cases e : p a with
    | false => rw [e] at hp; exact ih hp
    | true =>
      rw [e] at hp
      cases hp with
      | cons h q =>
        obtain ⟨a', ha, hr⟩ := h
        cases (K.ok _ _ hi).symm.trans (K.ok _ _ ha)
        exact .cons hr (ih q)
section
variable {prog : Program} {w : World} {A : Around} {E : Value → Shared → Prop} {s₁ : Shared} {h₀ : Heap} {L : Addr} {m : Str → Option Value} {news : List (Addr × Obj)}
theorem list_texts {env : Env} {elt : Expr} {x : Str} {ifs : List Expr} {scope : Scope} {Q : Value → Shared → Prop} (p : Str → Bool) (R : Str → Value → Prop) {l : Addr} {xs : List Value} {ss : List Str}
    (hl : s₁.heap.IsList l xs.toArray) (hi : StrsAre xs ss) (hh : A.handled = none) (F : Fr h₀ L s₁.heap m) (N : News h₀ L s₁.heap news)
    (ht : ∀ C b u s₂ m₂ E', b ∈ ss → s₂.heap.Ns (compEnv scope C env).locals m₂ → m₂ x = some (.str b u) → (∀ b o, s₁.heap.get? b = some o → s₂.heap.get? b = some o) →
      wpAny (model prog w) A (forIn ifs true fun c r => if r = true then do let ok ← isTrue c (compEnv scope C env) (eval c (compEnv scope C env)); pure (ForInStep.yield ok) else pure (ForInStep.yield r)) (TellsOk (p b) s₂) E' s₂)
    (he : ∀ C b u s₂ m₂ E', b ∈ ss → p b = true → s₂.heap.Ns (compEnv scope C env).locals m₂ → m₂ x = some (.str b u) → (∀ b o, s₁.heap.get? b = some o → s₂.heap.get? b = some o) →
      wpAny (model prog w) A (eval elt (compEnv scope C env)) (fun r s₃ => R b r ∧ Keeps s₂ s₃) E' s₂)
    (hQ : ∀ D (ys : List Value) k h' tk, Fr h₀ L h' m → News h₀ L h' ((D, listOf ys.toArray k) :: news) → Paired R (ss.filter p) ys → Q (.ref D) { s₁ with heap := h', toks := tk })
    (hsz : xs.length ≤ sizeLine) :
    wpAny (model prog w) A (pyIter (.ref l)) (CompPost prog w A env scope x ifs elt Q) E s₁ := by
  have hlt : l < s₁.heap.objs.size := by obtain ⟨_, e, _⟩ := hl; exact Heap.lt_size e
  refine wpAny_pyIter_list hl ?_
  have old : ∀ b o', s₁.heap.get? b = some o' → b ∉ [s₁.heap.objs.size] := fun b o' e hb => absurd (Heap.lt_size e) ((List.mem_singleton.mp hb) ▸ Nat.lt_irrefl _)
  refine ⟨ItemKind.str.lift p, fun v r => ∃ a, ItemKind.str.is a v ∧ R a r, s₁.heap.objs.size, [s₁.heap.objs.size, l], [s₁.heap.objs.size], xs.toArray.size, _, _, rfl, Walks.list hh _ l (Nat.ne_of_lt hlt) xs.toArray, (by rw [List.size_toArray]; exact hsz),
    ⟨⟨_, Heap.get?_push_size _ rfl, rfl, rfl⟩, hl.at fun o e => Heap.get?_push_of_some _ e⟩, ?_, ⟨?_, ?_⟩, ?_⟩
  · intro b hb
    show b < (s₁.heap.push _).objs.size
    rw [Heap.size_push]
    rcases List.mem_cons.mp hb with rfl | hb
    · exact Nat.lt_succ_self _
    · rw [List.mem_singleton.mp hb]; exact Nat.lt_succ_of_lt hlt
  · intro C i v s₃ m₃ E' hP hn hm hk _
    obtain ⟨b, u, hb, rfl⟩ := strs_at hi i v (by simpa using hP)
    exact ht C b u s₃ m₃ E' hb hn hm fun c o' e => hk c o' (old c o' e) (Heap.get?_push_of_some _ e)
  · intro C i v s₃ m₃ E' hP hp hn hm hk _
    obtain ⟨b, u, hb, rfl⟩ := strs_at hi i v (by simpa using hP)
    refine wpAny_mono (he C b u s₃ m₃ E' hb hp hn hm fun c o' e => hk c o' (old c o' e) (Heap.get?_push_of_some _ e)) (fun r s₄ h₄ => ⟨⟨b, ⟨u, rfl⟩, h₄.1⟩, h₄.2⟩) fun _ _ e => e
  · intro D h' tk ys vs hnew _ hpl hlen hP hF hk
    have e' : vs = xs := by simpa using walked_is hlen hP
    subst e'
    obtain ⟨k, hD⟩ := hpl
    have keep₁ : ∀ b o', s₁.heap.get? b = some o' → h'.get? b = some o' := fun b o' e => hk b o' (old b o' e) (Heap.get?_push_of_some _ e)
    obtain ⟨hDL, hD₀⟩ := fresh_at F hnew
    refine hQ D ys.toList k h' tk (F.keeps keep₁) (fun q hq => ?_) (texts_read hi.areOf hF)
    rcases List.mem_cons.mp hq with rfl | hq
    · exact ⟨by rw [Array.toArray_toList]; exact hD, hDL, hD₀⟩
    · exact ⟨keep₁ _ _ (N q hq).1, (N q hq).2⟩
theorem list_none {env : Env} {elt : Expr} {x : Str} {ifs : List Expr} {scope : Scope} {Q : Value → Shared → Prop} {l : Addr} {xs : List Value} {ss : List Str}
    (hl : s₁.heap.IsList l xs.toArray) (hi : StrsAre xs ss) (hh : A.handled = none) (F : Fr h₀ L s₁.heap m) (N : News h₀ L s₁.heap news)
    (ht : ∀ C b u s₂ m₂ E', b ∈ ss → s₂.heap.Ns (compEnv scope C env).locals m₂ → m₂ x = some (.str b u) → (∀ b o, s₁.heap.get? b = some o → s₂.heap.get? b = some o) →
      wpAny (model prog w) A (forIn ifs true fun c r => if r = true then do let ok ← isTrue c (compEnv scope C env) (eval c (compEnv scope C env)); pure (ForInStep.yield ok) else pure (ForInStep.yield r)) (TellsOk false s₂) E' s₂)
    (hQ : ∀ D k h' tk, Fr h₀ L h' m → News h₀ L h' ((D, listOf #[] k) :: news) → Q (.ref D) { s₁ with heap := h', toks := tk })
    (hsz : xs.length ≤ sizeLine) :
    wpAny (model prog w) A (pyIter (.ref l)) (CompPost prog w A env scope x ifs elt Q) E s₁ := by
  refine list_texts (fun _ => false) (fun _ _ => False) hl hi hh F N ht (fun C b u s₂ m₂ E' _ h => by cases h) (fun D ys k h' tk F' N' hp => ?_) hsz
  have e : ss.filter (fun _ => false) = [] := List.filter_eq_nil_iff.mpr fun _ _ h => by cases h
  rw [e] at hp
  cases hp
  exact hQ D k h' tk F' N'
theorem list_three {env : Env} {elt : Expr} {x : Str} {scope : Scope} {Q : Value → Shared → Prop} (f : Str → Int) {l : Addr} {xs : List Value} {a1 a2 a3 : Str}
    (hl : s₁.heap.IsList l xs.toArray) (hi : StrsAre xs [a1, a2, a3]) (hh : A.handled = none) (F : Fr h₀ L s₁.heap m) (N : News h₀ L s₁.heap news)
    (he : ∀ C b u s₂ m₂ E', b ∈ [a1, a2, a3] → s₂.heap.Ns (compEnv scope C env).locals m₂ → m₂ x = some (.str b u) → (∀ b o, s₁.heap.get? b = some o → s₂.heap.get? b = some o) →
      wpAny (model prog w) A (eval elt (compEnv scope C env)) (TellsInt (f b) s₂) E' s₂)
    (hQ : ∀ D t1 t2 t3 k h' tk, Fr h₀ L h' m → News h₀ L h' ((D, listOf #[.int (f a1) t1, .int (f a2) t2, .int (f a3) t3] k) :: news) → Q (.ref D) { s₁ with heap := h', toks := tk })
    (hsz : xs.length ≤ sizeLine) :
    wpAny (model prog w) A (pyIter (.ref l)) (CompPost prog w A env scope x [] elt Q) E s₁ := by
  refine list_texts (fun _ => true) (fun b r => ∃ t, r = .int (f b) t) hl hi hh F N (fun C b u s₂ m₂ E' _ _ _ _ => wpAny_pure ⟨rfl, s₂.heap, s₂.toks, rfl, fun _ _ e => e⟩) (fun C b u s₂ m₂ E' hb _ => he C b u s₂ m₂ E' hb) (fun D ys k h' tk F' N' hp => ?_) hsz
  cases hp with
  | cons h1 r =>
  cases r with
  | cons h2 r =>
  cases r with
  | cons h3 r =>
  cases r
  obtain ⟨t1, rfl⟩ := h1
  obtain ⟨t2, rfl⟩ := h2
  obtain ⟨t3, rfl⟩ := h3
  exact hQ D t1 t2 t3 k h' tk F' N'
end
end Mine

/-! D5 -/
namespace Mine
open PySem PySem.Spec PySem.Calls PyProof.Rows PyProof.V

def clk : List Str := [⟨#[48, 50]⟩, ⟨#[52, 52]⟩, ⟨#[50, 53]⟩]
def clkI (b : Str) : Int := if b = ⟨#[48, 50]⟩ then 2 else if b = ⟨#[52, 52]⟩ then 44 else 25
theorem clk_ok : ∀ b ∈ clk, figs b = true ∧ b.length = 2 ∧ PySem.intText? b = some (clkI b) := by
  intro b hb
  simp only [clk, List.mem_cons, List.not_mem_nil, or_false] at hb
  rcases hb with rfl | rfl | rfl <;> decide +kernel
section
variable {prog : Program} {w : World} {A : Around} {E : Value → Shared → Prop} {s₁ : Shared} {h₀ : Heap} {L : Addr} {m : Str → Option Value} {news : List (Addr × Obj)}
theorem clock_none {env : Env} {elt : Expr} {x : Str} {ifs : List Expr} {scope : Scope} {Q : Value → Shared → Prop} {l : Addr} {u1 u2 u3 : Tok}
    (hl : s₁.heap.IsList l #[.str ⟨#[48, 50]⟩ u1, .str ⟨#[52, 52]⟩ u2, .str ⟨#[50, 53]⟩ u3]) (hh : A.handled = none) (F : Fr h₀ L s₁.heap m) (N : News h₀ L s₁.heap news)
    (ht : ∀ C b u s₂ m₂ E', b ∈ clk → s₂.heap.Ns (compEnv scope C env).locals m₂ → m₂ x = some (.str b u) → (∀ b o, s₁.heap.get? b = some o → s₂.heap.get? b = some o) →
      wpAny (model prog w) A (forIn ifs true fun c r => if r = true then do let ok ← isTrue c (compEnv scope C env) (eval c (compEnv scope C env)); pure (ForInStep.yield ok) else pure (ForInStep.yield r)) (TellsOk false s₂) E' s₂)
    (hQ : ∀ D k h' tk, Fr h₀ L h' m → News h₀ L h' ((D, listOf #[] k) :: news) → Q (.ref D) { s₁ with heap := h', toks := tk }) :
    wpAny (model prog w) A (pyIter (.ref l)) (CompPost prog w A env scope x ifs elt Q) E s₁ :=
  list_none (xs := [_, _, _]) hl (.cons _ _ (.cons _ _ (.cons _ _ .nil))) hh F N ht hQ (Nat.le_of_ble_eq_true rfl)
theorem clock_three {env : Env} {elt : Expr} {x : Str} {scope : Scope} {Q : Value → Shared → Prop} {l : Addr} {u1 u2 u3 : Tok}
    (hl : s₁.heap.IsList l #[.str ⟨#[48, 50]⟩ u1, .str ⟨#[52, 52]⟩ u2, .str ⟨#[50, 53]⟩ u3]) (hh : A.handled = none) (F : Fr h₀ L s₁.heap m) (N : News h₀ L s₁.heap news)
    (he : ∀ C b u s₂ m₂ E', b ∈ clk → s₂.heap.Ns (compEnv scope C env).locals m₂ → m₂ x = some (.str b u) → (∀ b o, s₁.heap.get? b = some o → s₂.heap.get? b = some o) →
      wpAny (model prog w) A (eval elt (compEnv scope C env)) (TellsInt (clkI b) s₂) E' s₂)
    (hQ : ∀ D t1 t2 t3 k h' tk, Fr h₀ L h' m → News h₀ L h' ((D, listOf #[.int 2 t1, .int 44 t2, .int 25 t3] k) :: news) → Q (.ref D) { s₁ with heap := h', toks := tk }) :
    wpAny (model prog w) A (pyIter (.ref l)) (CompPost prog w A env scope x [] elt Q) E s₁ :=
  list_three (xs := [_, _, _]) clkI hl (.cons _ _ (.cons _ _ (.cons _ _ .nil))) hh F N he (fun D t1 t2 t3 k h' tk F' N' => hQ D t1 t2 t3 k h' tk F' N') (Nat.le_of_ble_eq_true rfl)
end

/-- the made moment's fields -/
abbrev momEs (P : Params) (z : Int) (k1 k2 k3 k4 k5 k6 k7 v1 v2 v3 v4 v5 v6 v7 : Tok) : List DictEntry := [⟨PyData.keyHash P (Str.ofString "year"), .str (Str.ofString "year") k1, .int 1996 v1⟩, ⟨PyData.keyHash P (Str.ofString "month"), .str (Str.ofString "month") k2, .int 7 v2⟩, ⟨PyData.keyHash P (Str.ofString "day"), .str (Str.ofString "day") k3, .int 17 v3⟩, ⟨PyData.keyHash P (Str.ofString "hour"), .str (Str.ofString "hour") k4, .int 2 v4⟩, ⟨PyData.keyHash P (Str.ofString "minute"), .str (Str.ofString "minute") k5, .int 44 v5⟩, ⟨PyData.keyHash P (Str.ofString "second"), .str (Str.ofString "second") k6, .int 25 v6⟩, ⟨PyData.keyHash P (Str.ofString "zone"), .str (Str.ofString "zone") k7, .int z v7⟩]
theorem tells_ok {b : Bool} {s₂ : Shared} {h' : Heap} {k : Nat} (I : InElt s₂.heap h') : TellsOk b s₂ b { s₂ with heap := h', toks := k } := ⟨rfl, h', k, rfl, I⟩
theorem tells_int {n : Int} {s₂ : Shared} {t : Tok} {k : Nat} : TellsInt n s₂ (.int n t) { s₂ with toks := k } := ⟨⟨t, rfl⟩, s₂.heap, k, rfl, fun _ _ e => e⟩
theorem ne_all {d : Addr} {news : List (Addr × Obj)} (l : ∀ p ∈ news, p.1 < d) : ∀ p ∈ news, p.1 ≠ d := fun p hp => Nat.ne_of_lt (l p hp)
theorem drop5 {h₀ h : Heap} {L : Addr} {a b c d e : Addr × Obj} {r : List (Addr × Obj)} (N : News h₀ L h (a :: b :: c :: d :: e :: r)) : News h₀ L h r :=
  fun p hp => N p (.tail _ (.tail _ (.tail _ (.tail _ (.tail _ hp)))))
theorem read_call (x : Str) (y : Str) (z : Int) (hxl : x.length = 26) (hx : x.length ≤ 100) (s011 : Txt.slice x (some 0) (some 11) = Str.ofString "17-Jul-1996") (s1220 : Txt.slice x (some 12) (some 20) = Str.ofString "02:44:25") (s21 : Txt.slice x (some 21) none = y)
   (i0 : Txt.item x 0 = Str.ofString "1") (i2 : Txt.item x 2 = Str.ofString "-") (i11 : Txt.item x 11 = Str.ofString " ") (i20 : Txt.item x 20 = Str.ofString " ") (hy : y.length ≤ 640) (hyp : Pts y) (hz : zl y.cps.toList = some z) (tk : Tok)
   (w : World) (mean : ExcName → Option Value) (mg mb : Str → Option Value) (dp un : Nat) (gd : Option (List Code)) (cn : Str) (cs : Scope) (a : Addr) (ccd : Value) (cl : List (Str × Addr)) (outer : List Env) (A₀ : Around) (base h₀ : Heap) (L : Addr) (m : Str → Option Value) (s : Shared) (Q E : Value → Shared → Prop) (news : List (Addr × Obj))
   (B : Below A₀ base outer h₀) (F : Fr h₀ L s.heap m) (X : (Mine.hd.heap_39 w.params).In h₀) (N : News h₀ L s.heap news) (T : Top Mine.hd.view_39 (looseW Mine.hd.view_39 [Str.ofString "PostError", Str.ofString "MOST_ZONE"]) mean mg mb h₀) (hk : cs.kind = .function)
   (hd : dp + 8 < recursionLimit) (hu : un + 400 < cLine)
   (hret : ∀ (p d : Addr) (k1 k2 k3 k4 k5 k6 k7 v1 v2 v3 v4 v5 v6 v7 : Tok) (h' : Heap) (tk' : Nat), Fr h₀ L h' m → News h₀ L h' ((p, instObj 98 d) :: (d, dictOf (momEs w.params z k1 k2 k3 k4 k5 k6 k7 v1 v2 v3 v4 v5 v6 v7) 7) :: news) → Q (.ref p) { s with heap := h', toks := tk' }) :
   wpAny (model Challenge.rw_nz0283_01.row.prog w) (ktrTop dp un gd cn cs L a ccd cl outer) (call (.ref 197) [.str x tk]) Q E s := by
  revert X
  k_with_none
  k_with "subscriptTail Name Slice str ref" => ((with_reducible show wpAny _ _ (subscriptTail _ (Expr.Slice (some _) (some _) none _) _ _) _ _ _); (with_reducible rename Fr _ _ _ _ => F'); (with_reducible rename News _ _ _ _ => N'); (refine slice_to (hsz := ?hsz) (s := ⟨_, _, _, _, _⟩) F' N' (by with_reducible assumption) ?_); (case hsz => size_fits); intro _ _ _ _ _)
  k_with "subscriptTail Name Slice str ref" => ((with_reducible show wpAny _ _ (subscriptTail _ (Expr.Slice (some _) none none _) _ _) _ _ _); (with_reducible rename Fr _ _ _ _ => F'); (with_reducible rename News _ _ _ _ => N'); (refine slice_to_end (hsz := ?hsz) (s := ⟨_, _, _, _, _⟩) F' N' (by with_reducible assumption) ?_); (case hsz => size_fits); intro _ _ _ _ _)
  k_with "subscriptTail Name Constant str int" => (refine' item_known ?a ?b ?c ?d ?_; (case a => with_reducible assumption); (case b => decide); (case c => omega); (case d => with_reducible assumption))
  k_with "call builtin:len" => (k_here; (with_reducible show wpAny _ _ (call (Value.builtin "len") [Value.str _ _]) _ _ _); refine' len_known ?a ?b ?_; (case a => first | with_reducible assumption | exact rfl); (case b => decide))
  k_with "call ref" => (k_here; k_dflt (refine' day_in_call _ ?z1 ?z2 _ _ _ _ _ _ _ _ _ _ _ _ _ _ _ _ _ _ _ _ _ _ _ _ _ ?k1 ?k2 ?k3 ?k4 ?k5 ?k6 ?k7 ?k8 ?_; (case z1 => with_reducible assumption); (case z2 => with_reducible assumption); (case k1 => k_asm); (case k2 => k_asm); (case k3 => k_asm); (case k4 => k_asm); (case k5 => k_asm); (case k6 => first | exact rfl | assumption); (case k7 => ktr_room); (case k8 => ktr_units); k_whole; intro p9 t9 t8 t7 h9 tk9 l9 F9 N9; (try simp only [AllLt, and_true] at l9); (try dsimp only); (try k_fold)))
  k_with "call ref" => (k_here; k_dflt (refine' mc_use (zone_in_some ?z1 ?z2 ?z3 _) ?k1 ?k2 ?k3 ?k4 ?k5 ?k6 ?k7 ?k8 ?_; (case z1 => with_reducible assumption); (case z2 => with_reducible assumption); (case z3 => with_reducible assumption); (case k1 => k_asm); (case k2 => k_asm); (case k3 => k_asm); (case k4 => k_asm); (case k5 => k_asm); (case k6 => first | exact rfl | assumption); (case k7 => ktr_room); (case k8 => ktr_units); k_whole; intro t9 h9 tk9 F9 N9; (try dsimp only); (try k_fold)))
  k_with "call ref" => (k_here; k_dflt (refine' mc_use (is_time_call _ _ _) ?k1 ?k2 ?k3 ?k4 ?k5 ?k6 ?k7 ?k8 ?_; (case k1 => k_asm); (case k2 => k_asm); (case k3 => k_asm); (case k4 => k_asm); (case k5 => k_asm); (case k6 => first | exact rfl | assumption); (case k7 => ktr_room); (case k8 => ktr_units); k_whole; intro t9 h9 tk9 F9 N9; (try dsimp only); (try k_fold)))
  k_with "call ref" => (k_here; k_dflt (refine' mc_use (is_figures_true _ ?z1 ?z2 _) ?k1 ?k2 ?k3 ?k4 ?k5 ?k6 ?k7 ?k8 ?_; (case z1 => decide +kernel); (case z2 => decide +kernel); (case k1 => k_asm); (case k2 => k_asm); (case k3 => k_asm); (case k4 => k_asm); (case k5 => k_asm); (case k6 => first | exact rfl | assumption); (case k7 => ktr_room); (case k8 => ktr_units); k_whole; intro t9 h9 tk9 F9 N9; (try dsimp only); (try k_fold)))
  k_with "eval ListComp" => ((with_reducible apply ListComp_rowsP); (case hfree => decide); (case hcell => decide); (case hkind => with_unfolding_all rfl); (case hnames => decide); (case hx => with_unfolding_all rfl); (case hs => intro _; with_unfolding_all rfl))
  k_with "eval Name" => (k_here; k_inBlock; (with_reducible rename Fr _ _ _ _ => kF); k_dflt (refine' nameG_B kF ?k1 ?k2 ?k3 ?k9 ?kA ?_ ?k4 ?k8 ?k5 ?k6 ?k7; (case k4 => rfl); (case k5 => rfl); (case k6 => rfl); (case k7 => decide); (case k8 => rfl); (case k1 => k_asm); (case k2 => k_asm); (case k3 => k_is); (case k9 => boot_by_name); (case kA => decide); k_whole))
  k_with "call type:int" => (k_here; (with_reducible show wpAny _ _ (call (Value.type "int") [Value.str _ _]) _ _ _); refine' KIN.call_text ?i1 ?i2 ?_; (case i1 => exact (clk_ok _ (by with_reducible assumption)).2.2); (case i2 => (rw [(clk_ok _ (by with_reducible assumption)).2.1]; decide)))
  k_with "call builtin:len" => (k_here; (with_reducible show wpAny _ _ (call (Value.builtin "len") [Value.str _ _]) _ _ _); refine' len_known ?a ?b ?_; (case a => exact (clk_ok _ (by with_reducible assumption)).2.1); (case b => decide))
  k_with "call ref" => (k_here; k_dflt (refine' mk_use (is_figures_yes _ ?z1 ?z2 _) ?k1 ?k2 ?k3 ?k4 ?k5 ?k6 ?k7 ?k8 ?k9 ?_; (case z1 => exact (clk_ok _ (by with_reducible assumption)).1); (case z2 => (rw [(clk_ok _ (by with_reducible assumption)).2.1]; decide)); (case k1 => k_asm); (case k2 => k_asm); (case k3 => k_asm); (case k4 => k_asm); (case k5 => k_asm); (case k6 => first | exact rfl | assumption); (case k7 => ktr_room); (case k8 => ktr_units); (case k9 => k_asm); k_whole; intro t9 h9 tk9 F9 N9 E9; (try dsimp only); (try k_fold)))
  k_with "call ref" => (k_here; (with_reducible rename News _ _ _ _ => N6); (replace N6 := drop5 N6); k_dflt (refine' call_cls ?k1 ?k2 N6 ?k4 ?k5 ?k6 ?_; (case k1 => k_asm); (case k2 => k_asm); (case k4 => k_is); (case k5 => k_is); (case k6 => k_is); k_whole; intro x7 d7 h7 F7 N7 l7 l8); (have l9 := ne_all l7); (try k_lt2 l8); (try k_sweep); k_dflt (refine' code_def ?k1 ?k2 ?k3 ?k4 ?k5 ?kA ?kF ?kK ?k6 ?k7 ?k8 ?k9 ?kB ?_ ?c2 ?c3 ?c4 ?c5; (case kA => exact rfl); (case kF => exact rfl); (case kK => exact rfl); (case k1 => k_asm); (case k2 => k_asm); (case k3 => k_asm); (case k4 => k_asm); (case k5 => k_asm); (case k6 => k_is); (case k7 => k_is); (case k8 => ktr_room); (case k9 => exact BindsTo.of_eq rfl); (case c5 => decide); (case kB => exact locs rfl); (case c2 => exact rfl); (case c3 => exact rfl); (case c4 => exact rfl); k_whole; intro g' L' h' FG' F' N' B' X' T'; (try dsimp only); (try k_fold)))
  k_with "pyIter ref" => ((with_reducible rename Fr _ _ _ _ => F'); (with_reducible rename News _ _ _ _ => N'); k_dflt (first | ((refine' clock_three ?hl ?hh F' N' ?_ ?_); (case hl => is_list); (case hh => with_unfolding_all rfl); (all_goals intros)) | ((refine' clock_none ?hl ?hh F' N' ?_ ?_); (case hl => is_list); (case hh => with_unfolding_all rfl); (all_goals intros))))
  k_fill
  intro X
  have hx1 : x.length ≤ 1000 := by omega
  refine wpAny_call ?_
  k_dflt cell_enter
  k_steps
  · exact tells_ok (by assumption)
  · exact tells_int
  · exact hret _ _ _ _ _ _ _ _ _ _ _ _ _ _ _ _ _ _ (by assumption) (by assumption)
end Mine

/-! D6 -/
namespace Mine
open PySem PySem.Spec PySem.Calls PyProof.Rows PyProof.V
/-- as MC, of a call of one moment that stands at the ledger's head -/
def MM (d : Nat) (f : Addr) (p q : Addr) (z : Int) (k1 k2 k3 k4 k5 k6 k7 v1 v2 v3 v4 v5 v6 v7 : Tok) (R : Tok → Value) : Prop :=
  ∀ (w : World) (mean : ExcName → Option Value) (mg mb : Str → Option Value) (dp un : Nat) (gd : Option (List Code)) (cn : Str) (cs : Scope) (a : Addr) (ccd : Value) (cl : List (Str × Addr)) (outer : List Env) (A₀ : Around) (base h₀ : Heap) (L : Addr) (m : Str → Option Value) (news : List (Addr × Obj)) (s : Shared) (Q E : Value → Shared → Prop),
    Below A₀ base outer h₀ → Fr h₀ L s.heap m → (Mine.hd.heap_39 w.params).In h₀ → News h₀ L s.heap ((p, instObj 98 q) :: (q, dictOf (momEs w.params z k1 k2 k3 k4 k5 k6 k7 v1 v2 v3 v4 v5 v6 v7) 7) :: news) → Top Mine.hd.view_39 (looseW Mine.hd.view_39 [Str.ofString "PostError", Str.ofString "MOST_ZONE"]) mean mg mb h₀ → cs.kind = .function →
    dp + d < recursionLimit → un + 200 + 8 * d < cLine →
    (∀ (t : Tok) (h' : Heap) (tk' : Nat), Fr h₀ L h' m → News h₀ L h' ((p, instObj 98 q) :: (q, dictOf (momEs w.params z k1 k2 k3 k4 k5 k6 k7 v1 v2 v3 v4 v5 v6 v7) 7) :: news) → Q (R t) { s with heap := h', toks := tk' }) →
    wpAny (model Challenge.rw_nz0283_01.row.prog w) (ktrTop dp un gd cn cs L a ccd cl outer) (call (.ref f) [.ref p]) Q E s
theorem mm_use {d : Nat} {f p q : Addr} {z : Int} {k1 k2 k3 k4 k5 k6 k7 v1 v2 v3 v4 v5 v6 v7 : Tok} {R : Tok → Value} (C : MM d f p q z k1 k2 k3 k4 k5 k6 k7 v1 v2 v3 v4 v5 v6 v7 R)
   {w : World} {mean : ExcName → Option Value} {mg mb : Str → Option Value} {dp un : Nat} {gd : Option (List Code)} {cn : Str} {cs : Scope} {a : Addr} {ccd : Value} {cl : List (Str × Addr)} {outer : List Env} {A₀ : Around} {base h₀ : Heap} {L : Addr} {m : Str → Option Value} {news : List (Addr × Obj)} {s : Shared} {Q E : Value → Shared → Prop}
    (B : Below A₀ base outer h₀) (F : Fr h₀ L s.heap m) (X : (Mine.hd.heap_39 w.params).In h₀) (N : News h₀ L s.heap ((p, instObj 98 q) :: (q, dictOf (momEs w.params z k1 k2 k3 k4 k5 k6 k7 v1 v2 v3 v4 v5 v6 v7) 7) :: news)) (T : Top Mine.hd.view_39 (looseW Mine.hd.view_39 [Str.ofString "PostError", Str.ofString "MOST_ZONE"]) mean mg mb h₀) (hk : cs.kind = .function)
    (hd : dp + d < recursionLimit) (hu : un + 200 + 8 * d < cLine)
    (ret : ∀ (t : Tok) (h' : Heap) (tk' : Nat), Fr h₀ L h' m → News h₀ L h' ((p, instObj 98 q) :: (q, dictOf (momEs w.params z k1 k2 k3 k4 k5 k6 k7 v1 v2 v3 v4 v5 v6 v7) 7) :: news) → Q (R t) { s with heap := h', toks := tk' }) :
    wpAny (model Challenge.rw_nz0283_01.row.prog w) (ktrTop dp un gd cn cs L a ccd cl outer) (call (.ref f) [.ref p]) Q E s :=
  C w mean mg mb dp un gd cn cs a ccd cl outer A₀ base h₀ L m news s Q E B F X N T hk hd hu ret
section
variable {prog : Program} {w : World} {A : Around} {E : Value → Shared → Prop} {s₁ : Shared} {h₀ : Heap} {L : Addr} {m : Str → Option Value} {news : List (Addr × Obj)}
theorem ints_at {xs : List Value} {ns : List Int} (h : IntsAre xs ns) (i : Nat) (v : Value) (e : xs[i]? = some v) : ∃ a u, a ∈ ns ∧ v = .int a u := by
  obtain ⟨a, ha, u, rfl⟩ := h.areOf.get i v e
  exact ⟨a, u, List.mem_of_getElem? ha, rfl⟩
theorem tup_ints {name : Str} {fscope : Scope} {a : Addr} {cd : Value} {elt : Expr} {x z : Str} {scope : Scope} {Q : Flow → Shared → Prop} (g : Int → Str) {l : Addr} {xs : List Value} {ns : List Int}
    (ht : IsTup s₁.heap l xs.toArray) (hi : IntsAre xs ns) (hh : A.handled = none) (F : Fr h₀ L s₁.heap m) (N : News h₀ L s₁.heap news)
    (he : ∀ C b u s₂ m₂ E', b ∈ ns → s₂.heap.Ns (compEnv scope C (envOf name fscope L a cd)).locals m₂ → m₂ x = some (.int b u) → (∀ b o, s₁.heap.get? b = some o → s₂.heap.get? b = some o) →
      wpAny (model prog w) A (eval elt (compEnv scope C (envOf name fscope L a cd))) (TellsStr (g b) s₂) E' s₂)
    (hQ : ∀ D (ys : List Value) k h' tk, Fr h₀ L h' (fun q => if q = z then some (.ref D) else m q) → News h₀ L h' ((D, listOf ys.toArray k) :: news) → StrsAre ys (ns.map g) → Q .next { s₁ with heap := h', toks := tk })
    (hsz : xs.length ≤ sizeLine) :
    wpAny (model prog w) A (pyIter (.ref l)) (CompPostA prog w A (envOf name fscope L a cd) scope x z [] elt Q) E s₁ := by
  have hlt : l < s₁.heap.objs.size := by obtain ⟨_, e, _⟩ := ht; exact Heap.lt_size e
  refine wpAny_pyIter_tuple ht ?_
  have old : ∀ b o', s₁.heap.get? b = some o' → b ∉ [s₁.heap.objs.size] := fun b o' e hb => absurd (Heap.lt_size e) ((List.mem_singleton.mp hb) ▸ Nat.lt_irrefl _)
  refine ⟨fun _ => true, fun v r => ∃ a, ItemKind.int.is a v ∧ ∃ t, r = Value.str (g a) t, s₁.heap.objs.size, [s₁.heap.objs.size, l], [s₁.heap.objs.size], xs.toArray.size, _, _, m, rfl, Walks.tuple hh _ l (Nat.ne_of_lt hlt) xs.toArray, (by rw [List.size_toArray]; exact hsz),
    ⟨⟨_, Heap.get?_push_size _ rfl, rfl, rfl⟩, Heap.IsTuple.push ht _⟩, ?_, ?_, (F.push _).ns, ⟨?_, ?_⟩, ?_⟩
  · intro b hb
    show b < (s₁.heap.push _).objs.size
    rw [Heap.size_push]
    rcases List.mem_cons.mp hb with rfl | hb
    · exact Nat.lt_succ_self _
    · rw [List.mem_singleton.mp hb]; exact Nat.lt_succ_of_lt hlt
  · intro hm
    have h1 := F.ns.lt
    rw [show s₁.heap.objs.size = L from (List.mem_singleton.mp hm).symm] at h1
    exact Nat.lt_irrefl _ h1
  · intro C i v s₃ m₃ E' _ _ _ _ _
    exact wpAny_pure ⟨rfl, s₃.heap, s₃.toks, rfl, fun _ _ e => e⟩
  · intro C i v s₃ m₃ E' hP _ hn hm hk _
    obtain ⟨b, u, hb, rfl⟩ := ints_at hi i v (by simpa using hP)
    refine wpAny_mono (he C b u s₃ m₃ E' hb hn hm fun c o' e => hk c o' (old c o' e) (Heap.get?_push_of_some _ e)) (fun r s₄ h₄ => ?_) fun _ _ e => e
    obtain ⟨⟨t', rfl⟩, hk⟩ := h₄
    exact ⟨⟨b, ⟨u, rfl⟩, t', rfl⟩, hk⟩
  · intro D h' tk ys vs hnew _ hpl hlen hP hF hn' hk
    have e' : vs = xs := by simpa using walked_is hlen hP
    subst e'
    rw [all_true] at hF
    obtain ⟨k, hD⟩ := hpl
    have keep₁ : ∀ b o', b ≠ L → s₁.heap.get? b = some o' → h'.get? b = some o' := fun b o' hb e => hk b o' hb (old b o' e) (Heap.get?_push_of_some _ e)
    obtain ⟨hDL, hD₀⟩ := fresh_at F hnew
    refine hQ D ys.toList k h' tk ⟨hn', fun b o' e => ?_, F.above⟩ (fun p hp => ?_) (strs_read (rel_read hi.areOf hF))
    · exact keep₁ b o' (Nat.ne_of_lt (Nat.lt_of_lt_of_le (Heap.lt_size e) F.above)) (F.keep b o' e)
    · rcases List.mem_cons.mp hp with rfl | hp
      · exact ⟨by rw [Array.toArray_toList]; exact hD, hDL, hD₀⟩
      · exact ⟨keep₁ _ _ (N p hp).2.1 (N p hp).1, (N p hp).2⟩

theorem clock_join {D : Addr} {ys : List Value} {t : Tok} {s : Shared} {Q : Value → Shared → Prop} (hl : s.heap.IsList D ys.toArray) (hi : StrsAre ys ([2, 44, 25].map fun n => pad n 2)) (h : ∀ t' k, Q (.str (Str.ofString "02:44:25") t') { s with toks := k }) :
    wpAny (model prog w) A (call (.builtin "str.join") [.str (Str.ofString ":") t, .ref D]) Q E s := by
  refine join_listW hl (by simpa using hi) (by decide +kernel) (by decide +kernel) ?_
  have e : Txt.join (Str.ofString ":") [pad 2 2, pad 44 2, pad 25 2] = Str.ofString "02:44:25" := by decide +kernel
  show ∀ t' k, Q (.str (Txt.join (Str.ofString ":") [pad 2 2, pad 44 2, pad 25 2]) t') { s with toks := k }
  rw [e]
  exact h
end
theorem dropN2 {h₀ h : Heap} {L : Addr} {a b : Addr × Obj} {r : List (Addr × Obj)} (N : News h₀ L h (a :: b :: r)) : News h₀ L h r := fun p hp => N p (.tail _ (.tail _ hp))
theorem tells_pad {n : Int} {s₂ : Shared} {h' : Heap} {t : Tok} {k : Nat} (I : InElt s₂.heap h') : TellsStr (pad n 2) s₂ (.str (pad n 2) t) { s₂ with heap := h', toks := k } := ⟨⟨t, rfl⟩, h', k, rfl, I⟩
theorem three_low : ∀ b ∈ [(2 : Int), 44, 25], 0 ≤ b ∧ b < 10000 := by decide

theorem check_call (p q : Addr) (z : Int) (h0 : -6000 < z) (h1 : z < 6000) (k1 k2 k3 k4 k5 k6 k7 v1 v2 v3 v4 v5 v6 v7 : Tok) : MM 3 137 p q z k1 k2 k3 k4 k5 k6 k7 v1 v2 v3 v4 v5 v6 v7 (fun _ => .none) := by
  unfold MM
  k_with_none
  k_with "call ref" => (k_here; k_dflt (refine' mc_use (is_day_call _ _ _) ?k1 ?k2 ?k3 ?k4 ?k5 ?k6 ?k7 ?k8 ?_; (case k1 => k_asm); (case k2 => k_asm); (case k3 => k_asm); (case k4 => k_asm); (case k5 => k_asm); (case k6 => first | exact rfl | assumption); (case k7 => ktr_room); (case k8 => ktr_units); k_whole; intro t9 h9 tk9 F9 N9; (try dsimp only); (try k_fold)))
  k_with "call ref" => (k_here; k_dflt (refine' mc_use (is_time_call _ _ _) ?k1 ?k2 ?k3 ?k4 ?k5 ?k6 ?k7 ?k8 ?_; (case k1 => k_asm); (case k2 => k_asm); (case k3 => k_asm); (case k4 => k_asm); (case k5 => k_asm); (case k6 => first | exact rfl | assumption); (case k7 => ktr_room); (case k8 => ktr_units); k_whole; intro t9 h9 tk9 F9 N9; (try dsimp only); (try k_fold)))
  k_fill
  intro w mean mg mb dp un gd cn cs a' ccd cl outer A₀ base h₀ L m news s Q E B F X N T hk hd hu hret
  refine wpAny_call ?_
  k_dflt cell_enter
  k_steps
  exact hret 0 _ _ (by assumption) (by assumption)
theorem day_text_call (t1 t2 t3 : Tok) : MC 2 185 [.int 1996 t1, .int 7 t2, .int 17 t3] (fun t => .str (Str.ofString "17-Jul-1996") t) := by
  unfold MC
  k_with_none
  k_with "call ref" => (k_here; k_dflt (refine' mc_use (MK.mc (padded_call _ _ ?z1 ?z2 ?z3 ?z4 _ _)) ?k1 ?k2 ?k3 ?k4 ?k5 ?k6 ?k7 ?k8 ?_; (case z1 => decide); (case z2 => decide); (case z3 => decide); (case z4 => decide); (case k1 => k_asm); (case k2 => k_asm); (case k3 => k_asm); (case k4 => k_asm); (case k5 => k_asm); (case k6 => first | exact rfl | assumption); (case k7 => ktr_room); (case k8 => ktr_units); k_whole; intro t9 h9 tk9 F9 N9; (try dsimp only); (try k_fold)))
  k_fill
  intro w mean mg mb dp un gd cn cs a' ccd cl outer A₀ base h₀ L m news s Q E B F X N T hk hd hu hret
  refine wpAny_call ?_
  k_dflt cell_enter
  k_steps
  exact mc_str hret (by decide +kernel) (by assumption) (by assumption) (fun p hp => hp)
theorem clock_text_call (p q : Addr) (z : Int) (h0 : -6000 < z) (h1 : z < 6000) (k1 k2 k3 k4 k5 k6 k7 v1 v2 v3 v4 v5 v6 v7 : Tok) : MM 3 161 p q z k1 k2 k3 k4 k5 k6 k7 v1 v2 v3 v4 v5 v6 v7 (fun t => .str (Str.ofString "02:44:25" ++ Str.ofString " " ++ ztext z) t) := by
  have hzl : (ztext z).length = 5 := rfl
  unfold MM
  k_with_none
  k_with "call ref" => (k_here; k_dflt (refine' mc_use (zone_text_call _ ?z1 ?z2 _) ?k1 ?k2 ?k3 ?k4 ?k5 ?k6 ?k7 ?k8 ?_; (case z1 => with_reducible assumption); (case z2 => with_reducible assumption); (case k1 => k_asm); (case k2 => k_asm); (case k3 => k_asm); (case k4 => k_asm); (case k5 => k_asm); (case k6 => first | exact rfl | assumption); (case k7 => ktr_room); (case k8 => ktr_units); k_whole; intro t9 h9 tk9 F9 N9; (try dsimp only); (try k_fold)))
  k_with "call ref" => (k_here; k_dflt (refine' mk_use (padded_call _ _ ?z1 ?z2 ?z3 ?z4 _ _) ?k1 ?k2 ?k3 ?k4 ?k5 ?k6 ?k7 ?k8 ?k9 ?_; (case z1 => exact (three_low _ (by with_reducible assumption)).1); (case z2 => exact (three_low _ (by with_reducible assumption)).2); (case z3 => decide); (case z4 => decide); (case k1 => k_asm); (case k2 => k_asm); (case k3 => k_asm); (case k4 => k_asm); (case k5 => k_asm); (case k6 => first | exact rfl | assumption); (case k7 => ktr_room); (case k8 => ktr_units); (case k9 => k_asm); k_whole; intro t9 h9 tk9 F9 N9 E9; (try dsimp only); (try k_fold)))
  k_with "call builtin:str.join" => (k_here; refine' clock_join ?a ?b ?_; (case a => is_list); (case b => with_reducible assumption); intro _ _)
  k_with "exec Assign cons ListComp" => ((with_reducible apply Assign_ListComp_rowsP); (case hsw => with_unfolding_all rfl); (case hfree => decide); (case hcell => decide); (case hkind => with_unfolding_all rfl); (case hnames => decide); (case hx => with_unfolding_all rfl); (case hy => with_unfolding_all rfl); (case hp => with_unfolding_all rfl); (case hs => intro _; with_unfolding_all rfl))
  k_with "pyIter ref" => ((with_reducible rename Fr _ _ _ _ => F'); (with_reducible rename News _ _ _ _ => N'); (with_unfolding_all refine' tup_ints (fun n => pad n 2) (ns := [2, 44, 25]) ?ht ?hi ?hh F' N' ?_ ?_ ?hsz); (case ht => exact News.isTup N' (by k_mem)); (case hi => exact .cons _ _ (.cons _ _ (.cons _ _ .nil))); (case hh => with_unfolding_all rfl); (case hsz => exact Nat.le_of_ble_eq_true rfl); (all_goals intros))
  k_fill
  intro w mean mg mb dp un gd cn cs a' ccd cl outer A₀ base h₀ L m news s Q E B F X N T hk hd hu hret
  refine wpAny_call ?_
  k_dflt cell_enter
  k_steps
  · exact tells_pad (by assumption)
  · exact hret _ _ _ (by assumption) (dropN2 (by assumption))
theorem glue_day (z : Int) : Txt.mul (Str.ofString " ") (11 - ((11 : Nat) : Int)) ++ Str.ofString "17-Jul-1996" ++ Str.ofString " " ++ (Str.ofString "02:44:25" ++ Str.ofString " " ++ ztext z) = Str.ofString "17-Jul-1996 02:44:25 " ++ ztext z := by
  have app : ∀ a b : Str, (a ++ b).cps.toList = a.cps.toList ++ b.cps.toList := fun a b => by rw [Str.cps_append]; simp
  apply str_ext
  rw [app, app, app, app, app, app]
  have e : (Txt.mul (Str.ofString " ") (11 - ((11 : Nat) : Int))).cps.toList ++ (Str.ofString "17-Jul-1996").cps.toList ++ (Str.ofString " ").cps.toList ++ ((Str.ofString "02:44:25").cps.toList ++ (Str.ofString " ").cps.toList) = (Str.ofString "17-Jul-1996 02:44:25 ").cps.toList := by decide +kernel
  rw [← e]
  simp only [List.append_assoc]
theorem write_call (p q : Addr) (z : Int) (h0 : -6000 < z) (h1 : z < 6000) (k1 k2 k3 k4 k5 k6 k7 v1 v2 v3 v4 v5 v6 v7 : Tok) : MM 4 204 p q z k1 k2 k3 k4 k5 k6 k7 v1 v2 v3 v4 v5 v6 v7 (fun t => .str (Str.ofString "17-Jul-1996 02:44:25 " ++ ztext z) t) := by
  have hzl : (ztext z).length = 5 := rfl
  unfold MM
  k_with_none
  k_with "call ref" => (k_here; k_dflt (refine' mm_use (clock_text_call _ _ _ ?z1 ?z2 _ _ _ _ _ _ _ _ _ _ _ _ _ _) ?k1 ?k2 ?k3 ?k4 ?k5 ?k6 ?k7 ?k8 ?_; (case z1 => with_reducible assumption); (case z2 => with_reducible assumption); (case k1 => k_asm); (case k2 => k_asm); (case k3 => k_asm); (case k4 => k_asm); (case k5 => k_asm); (case k6 => first | exact rfl | assumption); (case k7 => ktr_room); (case k8 => ktr_units); k_whole; intro t9 h9 tk9 F9 N9; (try dsimp only); (try k_fold)))
  k_with "call ref" => (k_here; k_dflt (refine' mm_use (check_call _ _ _ ?z1 ?z2 _ _ _ _ _ _ _ _ _ _ _ _ _ _) ?k1 ?k2 ?k3 ?k4 ?k5 ?k6 ?k7 ?k8 ?_; (case z1 => with_reducible assumption); (case z2 => with_reducible assumption); (case k1 => k_asm); (case k2 => k_asm); (case k3 => k_asm); (case k4 => k_asm); (case k5 => k_asm); (case k6 => first | exact rfl | assumption); (case k7 => ktr_room); (case k8 => ktr_units); k_whole; intro t9 h9 tk9 F9 N9; (try dsimp only); (try k_fold)))
  k_with "call ref" => (k_here; k_dflt (refine' mc_use (day_text_call _ _ _) ?k1 ?k2 ?k3 ?k4 ?k5 ?k6 ?k7 ?k8 ?_; (case k1 => k_asm); (case k2 => k_asm); (case k3 => k_asm); (case k4 => k_asm); (case k5 => k_asm); (case k6 => first | exact rfl | assumption); (case k7 => ktr_room); (case k8 => ktr_units); k_whole; intro t9 h9 tk9 F9 N9; (try dsimp only); (try k_fold)))
  k_fill
  intro w mean mg mb dp un gd cn cs a' ccd cl outer A₀ base h₀ L m news s Q E B F X N T hk hd hu hret
  refine wpAny_call ?_
  k_dflt cell_enter
  k_steps
  rw [glue_day]
  exact hret _ _ _ (by assumption) (by assumption)
end Mine

/-! D7 -/
namespace Mine
open PySem PySem.Spec PySem.Calls PyProof.Rows PyProof.V

/-! statements of the law cut off from what stands behind them -/
def NoN (h₀ : Heap) (L : Addr) (m : Str → Option Value) (news : List (Addr × Obj)) (s : Shared) (b : Bool) (s' : Shared) : Prop := b = false ∧ ∃ h' tk', s' = { s with heap := h', toks := tk' } ∧ Fr h₀ L h' m ∧ News h₀ L h' news
theorem no_n {h₀ h' : Heap} {L : Addr} {m : Str → Option Value} {news news' : List (Addr × Obj)} {s : Shared} {tk' : Nat} (F : Fr h₀ L h' m) (N : News h₀ L h' news') (hs : ∀ p ∈ news, p ∈ news') : NoN h₀ L m news s false { s with heap := h', toks := tk' } :=
  ⟨rfl, h', tk', rfl, F, fun p hp => N p (hs p hp)⟩
section
variable {M : Model} {A : Around} {E : Value → Shared → Prop} {s : Shared} {h₀ : Heap} {L : Addr} {m : Str → Option Value} {news : List (Addr × Obj)} {env : Env}
theorem if_no {test : Expr} {body : List Stmt} {pos : Pos} {Q : Flow → Shared → Prop} (_F : Fr h₀ L s.heap m) (_N : News h₀ L s.heap news) (C : wpAny M A (isTrue test env (eval test env)) (NoN h₀ L m news s) E s)
    (h : ∀ h' tk', Fr h₀ L h' m → News h₀ L h' news → Q .next { s with heap := h', toks := tk' }) : wpAny M A (exec (.If test body [] pos) env) Q E s := by
  refine wpAny_If (wpAny_mono C (fun b s₂ hb => ?_) fun _ _ e => e)
  obtain ⟨rfl, h', tk', rfl, F, N⟩ := hb
  simp only [Bool.false_eq_true, if_false]
  exact wpAny_execs_nil (h h' tk' F N)
theorem stmt_cut {α : Type} {t : Sem α} {Q' Q : α → Shared → Prop} (C : wpAny M A t Q' E s) (h : ∀ fl s', Q' fl s' → Q fl s') : wpAny M A t Q E s := wpAny_mono C h fun _ _ e => e
end
section
variable {prog : Program} {w : World} {A : Around} {E : Value → Shared → Prop} {s : Shared} {Q : Value → Shared → Prop}
theorem ne_same_int {a : Int} {t u : Tok} (h : Q (.bool false) s) : wpAny (model prog w) A (compareOp .NotEq (.int a t) (.int a u)) Q E s := ne_int (by simpa using h)
theorem ne_same_str {x : Str} {t u : Tok} (h : Q (.bool false) s) : wpAny (model prog w) A (compareOp .NotEq (.str x t) (.str x u)) Q E s := PyProof.Rows.ne_str (by simpa using h)
def sgnT (M : Int) : Str := if M < 0 then Str.ofString "-" else Str.ofString "+"
theorem ne_sgn_neg {M : Int} {t u : Tok} (hm : M < 0) (h : Q (.bool false) s) : wpAny (model prog w) A (compareOp .NotEq (.str (sgnT M) t) (.str (Str.ofString "-") u)) Q E s := by
  unfold sgnT
  rw [if_pos hm]
  exact ne_same_str h
theorem ne_sgn_pos {M : Int} {t u : Tok} (hm : ¬ M < 0) (h : Q (.bool false) s) : wpAny (model prog w) A (compareOp .NotEq (.str (sgnT M) t) (.str (Str.ofString "+") u)) Q E s := by
  unfold sgnT
  rw [if_neg hm]
  exact ne_same_str h
end
theorem minutes_b {a b : Int} (a0 : 0 ≤ a) (a1 : a < 6000) (b0 : 0 ≤ b) (b1 : b < 2) : -6000 < a * (1 - 2 * b) ∧ a * (1 - 2 * b) < 6000 := by
  have h : b = 0 ∨ b = 1 := by omega
  rcases h with rfl | rfl
  · have : a * (1 - 2 * 0) = a := by simp
    omega
  · have : a * (1 - 2 * 1) = -a := by simp
    omega
theorem ztext_item (M : Int) : Txt.item (ztext M) 0 = sgnT M := by
  have e : (ztext M).cps.toList[0]? = some (if M < 0 then 45 else 43) := rfl
  have := item_at (i := 0) e
  rw [show ((0 : Nat) : Int) = 0 from rfl] at this
  rw [this]
  unfold sgnT
  split
  · decide +kernel
  · decide +kernel
theorem zdig (n : Nat) (h : n < 6000) : ∃ a b c d : Nat, a ≤ 9 ∧ b ≤ 9 ∧ c ≤ 5 ∧ d ≤ 9 ∧ n / 60 / 10 = a ∧ n / 60 % 10 = b ∧ n % 60 / 10 = c ∧ n % 60 % 10 = d ∧ n = 600 * a + 60 * b + 10 * c + d :=
  ⟨_, _, _, _, by omega, by omega, by omega, by omega, rfl, rfl, rfl, rfl, by omega⟩
theorem ztext_pts (M : Int) (h0 : -6000 < M) (h1 : M < 6000) : Pts (ztext M) := by
  intro c hc
  have hc : c ∈ [if M < 0 then 45 else 43, 48 + M.natAbs / 60 / 10, 48 + M.natAbs / 60 % 10, 48 + M.natAbs % 60 / 10, 48 + M.natAbs % 60 % 10] := hc
  obtain ⟨a, b, d, e, la, lb, ld, le, ea, eb, ed, ee, _⟩ := zdig M.natAbs (by omega)
  rw [ea, eb, ed, ee] at hc
  simp only [List.mem_cons, List.not_mem_nil, or_false] at hc
  have h0 : (if M < 0 then 45 else 43) < 1114112 := by split <;> decide
  rcases hc with rfl | rfl | rfl | rfl | rfl
  · exact h0
  all_goals omega
theorem ztext_zl (M : Int) (h0 : -6000 < M) (h1 : M < 6000) : zl (ztext M).cps.toList = some M := by
  show zl [if M < 0 then 45 else 43, 48 + M.natAbs / 60 / 10, 48 + M.natAbs / 60 % 10, 48 + M.natAbs % 60 / 10, 48 + M.natAbs % 60 % 10] = some M
  obtain ⟨a, b, d, e, la, lb, ld, le, ea, eb, ed, ee, en⟩ := zdig M.natAbs (by omega)
  rw [ea, eb, ed, ee]
  have f : ∀ x k : Nat, x ≤ k → 48 ≤ 48 + x ∧ 48 + x ≤ 48 + k := fun x k h => ⟨Nat.le_add_right .., Nat.add_le_add_left h _⟩
  by_cases hm : M < 0
  · rw [if_pos hm, zl_five, zf, if_pos ⟨.inr rfl, f _ _ la, f _ _ lb, f _ 9 (Nat.le_trans ld (by decide)), f _ _ le, (f _ _ ld).2⟩, if_pos rfl]
    congr 1
    omega
  · rw [if_neg hm, zl_five, zf, if_pos ⟨.inl rfl, f _ _ la, f _ _ lb, f _ 9 (Nat.le_trans ld (by decide)), f _ _ le, (f _ _ ld).2⟩, if_neg (by decide)]
    congr 1
    omega
theorem law_minutes_some {x : Str} {z : Int} (hx : x.length ≤ 640) (hp : Pts x) (hz : zl x.cps.toList = some z) (tk : Tok) : MC 2 221 [.str x tk] (fun t => .int z t) := by
  have C := law_minutes_call x hx hp tk
  rw [hz] at C
  exact C
theorem law_minutes_none {x : Str} (hx : x.length ≤ 640) (hp : Pts x) (hz : zl x.cps.toList = none) (tk : Tok) : MC 2 221 [.str x tk] (fun _ => .none) := by
  have C := law_minutes_call x hx hp tk
  rw [hz] at C
  exact C
theorem zone_in_none {x : Str} (hx : x.length ≤ 640) (hp : Pts x) (hz : zl x.cps.toList = none) (tk : Tok) : MC 2 173 [.str x tk] (fun _ => .none) := by
  have C := zone_in_call x hx hp tk
  rw [hz] at C
  exact C
end Mine

/-! D8L -/
namespace Mine
open PySem PySem.Spec PySem.Calls PyProof.Rows PyProof.V

abbrev fx (M : Int) : Str := Str.ofString "17-Jul-1996 02:44:25 " ++ ztext M
theorem day_cps : (Str.ofString "17-Jul-1996 02:44:25 ").cps.toList = [49, 55, 45, 74, 117, 108, 45, 49, 57, 57, 54, 32, 48, 50, 58, 52, 52, 58, 50, 53, 32] := by decide +kernel
theorem fx_cps (M : Int) : (fx M).cps.toList = [49, 55, 45, 74, 117, 108, 45, 49, 57, 57, 54, 32, 48, 50, 58, 52, 52, 58, 50, 53, 32] ++ (ztext M).cps.toList := by
  show ((Str.ofString "17-Jul-1996 02:44:25 ").cps ++ (ztext M).cps).toList = _
  rw [Array.toList_append, day_cps]
theorem fx_len (M : Int) : (fx M).length = 26 := by
  rw [← cps_len, fx_cps]
  rfl
theorem fx_011 (M : Int) : Txt.slice (fx M) (some 0) (some 11) = Str.ofString "17-Jul-1996" := by
  refine str_ext ((slice_mid (by decide) (by decide) (by rw [fx_len]; decide)).trans ?_)
  rw [fx_cps]
  exact (show _ = [49, 55, 45, 74, 117, 108, 45, 49, 57, 57, 54] from rfl).trans (by decide +kernel)
theorem fx_1220 (M : Int) : Txt.slice (fx M) (some 12) (some 20) = Str.ofString "02:44:25" := by
  refine str_ext ((slice_mid (by decide) (by decide) (by rw [fx_len]; decide)).trans ?_)
  rw [fx_cps]
  exact (show _ = [48, 50, 58, 52, 52, 58, 50, 53] from rfl).trans (by decide +kernel)
theorem fx_21 (M : Int) : Txt.slice (fx M) (some 21) none = ztext M := by
  refine str_ext ((slice_from (by decide) (by rw [fx_len]; decide)).trans ?_)
  rw [fx_cps]
  rfl
theorem fx_at (M : Int) (i c : Nat) (y : Str) (h : ([49, 55, 45, 74, 117, 108, 45, 49, 57, 57, 54, 32, 48, 50, 58, 52, 52, 58, 50, 53, 32] : List Nat)[i]? = some c) (hy : (⟨#[c]⟩ : Str) = y) : Txt.item (fx M) (i : Int) = y := by
  rw [← hy]
  refine item_at ?_
  rw [fx_cps, List.getElem?_append_left (List.getElem?_eq_some_iff.mp h).1]
  exact h
theorem fx_0 (M : Int) : Txt.item (fx M) 0 = Str.ofString "1" := fx_at M 0 49 _ rfl (by decide +kernel)
theorem fx_2 (M : Int) : Txt.item (fx M) 2 = Str.ofString "-" := fx_at M 2 45 _ rfl (by decide +kernel)
theorem fx_11 (M : Int) : Txt.item (fx M) 11 = Str.ofString " " := fx_at M 11 32 _ rfl (by decide +kernel)
theorem fx_20 (M : Int) : Txt.item (fx M) 20 = Str.ofString " " := fx_at M 20 32 _ rfl (by decide +kernel)
end Mine

/-! D8M -/
namespace Mine
open PySem PySem.Spec PySem.Calls PyProof.Rows PyProof.V

theorem strs_snoc {y : PySem.Str} {t : Tok} : ∀ {vs : List Value} {ys : List PySem.Str}, StrsAre vs ys → StrsAre (vs ++ [.str y t]) (ys ++ [y])
  | _, _, .nil => .cons y t .nil
  | _, _, .cons z u r => .cons z u (strs_snoc r)
section
variable {prog : Program} {w : World} {A : Around} {h₀ : Heap} {L : Addr} {m : Str → Option Value} {env : Env} {elt : Expr} {x : Str} {scope : Scope} {cl : List (Str × Addr)} {s : Shared} {S : List (Addr × Obj) → Prop} {P : Nat → Value → Prop} {Fin : List Value → List (Addr × Obj) → Prop}
theorem pick_rest {n : Nat} (J : Nat → List (Addr × Obj) → Prop)
    (turn : ∀ (i : Nat) (news : List (Addr × Obj)) (v : Value) (I : Addr) (oI : Obj) (C : Addr) (oC : Obj) (D : Addr) (m₂ : Str → Option Value) (ys : List Value) (h : Heap) (tk : Nat) (E' : Value → Shared → Prop), i < n → J i news → LCg.NsObj oC m₂ → m₂ x = some v → Fr h₀ L h m → News h₀ L h ((I, oI) :: (C, oC) :: (D, LCg.lst ys) :: news) → LCg.Off3 I C D news → ((@Ne Nat I C) ∧ (@Ne Nat I D) ∧ (@Ne Nat C D)) →
      wpAny (model prog w) A (eval elt (compEnvC scope cl C env)) (LCg.CompEnd h₀ L m { s with heap := h, toks := tk } I oI C oC D (LCg.lst ys) S (fun y news' => J (i + 1) news' ∧ ∃ (c : Nat) (t : Tok), Sgn c ∧ y = .str ⟨#[c]⟩ t)) E' { s with heap := h, toks := tk })
    (fin : ∀ (ys : List Value) (cs : List Nat) (news : List (Addr × Obj)), J n news → StrsAre ys (cs.map fun c => (⟨#[c]⟩ : Str)) → cs.length = n → (∀ c ∈ cs, Sgn c) → Fin ys news)
    {news : List (Addr × Obj)} (hJ : J 0 news) : LCg.CompRest prog w A h₀ L m env elt x scope cl s S P Fin n 0 [] news := by
  have key : ∀ (j i : Nat) (ys : List Value) (cs : List Nat) (news : List (Addr × Obj)), i + j = n → J i news → StrsAre ys (cs.map fun c => (⟨#[c]⟩ : Str)) → cs.length = i → (∀ c ∈ cs, Sgn c) → LCg.CompRest prog w A h₀ L m env elt x scope cl s S P Fin j i ys news := by
    intro j
    induction j with
    | zero =>
      intro i ys cs news hi hJ hy hc hs
      have e : i = n := by omega
      subst e
      exact LCg.CompRest.zero (fin ys cs news hJ hy hc hs)
    | succ j ih =>
      intro i ys cs news hi hJ hy hc hs
      refine LCg.CompRest.succ ?_
      intro v I oI C oC D m₂ h tk E' hv hC hx F N off ne
      refine wpAny_mono (turn i news v I oI C oC D m₂ ys h tk E' (by omega) hJ hC hx F N off ne) (fun y s₂ hq => ?_) fun _ _ e => e
      obtain ⟨h', tk', nw, e, F', N', off', hS, hJ', c, t, hsc, rfl⟩ := hq
      refine ⟨h', tk', nw, e, F', N', off', hS, ?_⟩
      refine ih (i + 1) _ (cs ++ [c]) nw (by omega) hJ' ?_ ?_ ?_
      · rw [List.map_append]
        exact strs_snoc hy
      · rw [List.length_append, hc]
        rfl
      · intro d hd
        rcases List.mem_append.mp hd with hd | hd
        · exact hs d hd
        · rw [List.mem_singleton.mp hd]; exact hsc
  exact key n 0 [] [] news (by omega) hJ .nil rfl (fun _ h => nomatch h)
end
theorem signs_cps : (Str.ofString "0123456789+-x١").cps.toList = [48, 49, 50, 51, 52, 53, 54, 55, 56, 57, 43, 45, 120, 1633] := by decide +kernel
theorem signs_len : (Str.ofString "0123456789+-x١").length = 14 := by rw [← cps_len, signs_cps]; rfl
theorem signs_item (d : Int) (h0 : 0 ≤ d) (h1 : d < 14) : ∃ c, Sgn c ∧ Txt.item (Str.ofString "0123456789+-x١") d = ⟨#[c]⟩ := by
  obtain ⟨k, rfl⟩ := Int.eq_ofNat_of_zero_le h0
  have hk : k < 14 := by omega
  obtain ⟨c, hc⟩ : ∃ c, (Str.ofString "0123456789+-x١").cps.toList[k]? = some c := by
    rw [signs_cps]
    exact ⟨_, List.getElem?_eq_getElem (by simpa using hk)⟩
  refine ⟨c, ?_, item_at hc⟩
  rw [signs_cps] at hc
  exact (show ∀ c ∈ [48, 49, 50, 51, 52, 53, 54, 55, 56, 57, 43, 45, 120, 1633], Sgn c by unfold Sgn; decide) c (List.mem_of_getElem? hc)
theorem pm_cps : (Str.ofString "+-").cps.toList = [43, 45] := by decide +kernel
theorem pm_item (d : Int) (h0 : 0 ≤ d) (h1 : d < 2) : ∃ c, Sgn c ∧ Txt.item (Str.ofString "+-") d = ⟨#[c]⟩ := by
  have h : d = 0 ∨ d = 1 := by omega
  rcases h with rfl | rfl
  · exact ⟨43, by unfold Sgn; omega, item_at (i := 0) (by rw [pm_cps]; rfl)⟩
  · exact ⟨45, by unfold Sgn; omega, item_at (i := 1) (by rw [pm_cps]; rfl)⟩
theorem in_lay {h₀ h : Heap} {L : Addr} {a b c d e f g : Addr × Obj} (N : News h₀ L h [a, b, c, d, e, f, g]) : News h₀ L h [d, e, f, g, a, b, c] := by
  intro p hp
  refine N p ?_
  simp only [List.mem_cons, List.not_mem_nil, or_false] at hp ⊢
  rcases hp with h | h | h | h | h | h | h
  · exact .inr (.inr (.inr (.inl h)))
  · exact .inr (.inr (.inr (.inr (.inl h))))
  · exact .inr (.inr (.inr (.inr (.inr (.inl h)))))
  · exact .inr (.inr (.inr (.inr (.inr (.inr h)))))
  · exact .inl h
  · exact .inr (.inl h)
  · exact .inr (.inr (.inl h))
theorem out_lay {h₀ h : Heap} {L : Addr} {a b c d e f g : Addr × Obj} (_N : News h₀ L h [d, e, f, g, a, b, c]) : ∀ p ∈ a :: b :: c :: [d, e, f, g], p ∈ [d, e, f, g, a, b, c] := by
  intro p hp
  simp only [List.mem_cons, List.not_mem_nil, or_false] at hp ⊢
  rcases hp with h | h | h | h | h | h | h
  · exact .inr (.inr (.inr (.inr (.inl h))))
  · exact .inr (.inr (.inr (.inr (.inr (.inl h)))))
  · exact .inr (.inr (.inr (.inr (.inr (.inr h)))))
  · exact .inl h
  · exact .inr (.inl h)
  · exact .inr (.inr (.inl h))
  · exact .inr (.inr (.inr (.inl h)))
end Mine

/-! D8N -/
namespace Mine
open PySem PySem.Spec PySem.Calls PyProof.Rows PyProof.V

/-- the law's texts of three to six signs -/
def Word (x : Str) : Prop := (∀ c ∈ x.cps.toList, Sgn c) ∧ 3 ≤ x.length ∧ x.length ≤ 6
theorem word_plus {x : Str} {c : Nat} (h : Word x) (hc : Sgn c) : Word (⟨#[c]⟩ ++ Txt.slice x (some 1) none) := by
  obtain ⟨hs, h3, h6⟩ := h
  have e : (⟨#[c]⟩ ++ Txt.slice x (some 1) none : Str).cps.toList = c :: x.cps.toList.drop 1 := by
    show ((#[c] : Array Nat) ++ (Txt.slice x (some 1) none).cps).toList = _
    rw [Array.toList_append, slice_from (by decide) (by omega)]
    rfl
  refine ⟨?_, ?_⟩
  · intro d hd
    rw [e] at hd
    rcases List.mem_cons.mp hd with rfl | hd
    · exact hc
    · exact hs d (List.mem_of_mem_drop hd)
  · rw [← cps_len, e, List.length_cons, List.length_drop, cps_len]
    omega
theorem Word.le {x : Str} (h : Word x) : x.length ≤ 640 := Nat.le_trans h.2.2 (by decide)
theorem Word.le2 {x : Str} (h : Word x) : x.length ≤ 1000 := Nat.le_trans h.2.2 (by decide)
theorem Word.pts {x : Str} (h : Word x) : Pts x := sgn_pts h.1
theorem word_cases {x : Str} (_h : Word x) : zl x.cps.toList = none ∨ ∃ z, zl x.cps.toList = some z := by
  cases zl x.cps.toList with
  | none => exact .inl rfl
  | some z => exact .inr ⟨z, rfl⟩
theorem x_cps : (Str.ofString "x").cps.toList = [120] := by decide +kernel
theorem x_eq (c : Nat) : ((⟨#[c]⟩ : Str) == Str.ofString "x") = (c == 120) := by
  have e : Str.ofString "x" = ⟨#[120]⟩ := by decide +kernel
  rw [e]
  by_cases h : c = 120
  · subst h; rfl
  · rw [beq_eq_false_iff_ne.mpr h]
    refine beq_eq_false_iff_ne.mpr fun q => h ?_
    have := congrArg (fun y : Str => y.cps.toList) q
    simpa using this
theorem x_filter (x : Str) (p : Str → Bool) (hp : ∀ c : Nat, p ⟨#[c]⟩ = !(c == 120)) : ((signs x).filter p).isEmpty = x.cps.toList.all (· == 120) := by
  unfold signs
  induction x.cps.toList with
  | nil => rfl
  | cons c r ih =>
    simp only [List.map_cons, List.filter_cons, List.all_cons, hp]
    cases h : (c == 120)
    · rfl
    · simpa using ih
theorem nz_cases {x : Str} (h : Word x) : (nz x = some 0 ∧ x.cps.toList.all (· == 120) = true) ∨ (nz x = none ∧ x.cps.toList.all (· == 120) = false) := by
  have hl : x.cps.toList.length ≠ 0 := by
    rw [cps_len]
    have := h.2.1
    omega
  unfold nz
  rw [if_neg hl]
  cases x.cps.toList.all (· == 120)
  · exact .inr ⟨rfl, rfl⟩
  · exact .inl ⟨rfl, rfl⟩
theorem named_some {x : Str} (h : Word x) (hn : nz x = some 0) (tk : Tok) : MC 4 178 [.str x tk] (fun t => .int 0 t) := by
  have C := named_zone_call x h.le2 h.1 tk
  rw [hn] at C
  exact C
theorem named_none {x : Str} (h : Word x) (hn : nz x = none) (tk : Tok) : MC 4 178 [.str x tk] (fun _ => .none) := by
  have C := named_zone_call x h.le2 h.1 tk
  rw [hn] at C
  exact C
theorem empty_cps : (Str.ofString "").cps.toList = [] := by decide +kernel
theorem empty_len : (Str.ofString "").length = 0 := by rw [← cps_len, empty_cps]; rfl
theorem named_empty (tk : Tok) : MC 4 178 [.str (Str.ofString "") tk] (fun _ => .none) := by
  have C := named_zone_call (Str.ofString "") (by rw [empty_len]; decide) (fun c hc => by rw [empty_cps] at hc; cases hc) tk
  rw [show nz (Str.ofString "") = none by unfold nz; rw [empty_cps]; rfl] at C
  exact C
theorem zone_empty (tk : Tok) : MC 2 173 [.str (Str.ofString "") tk] (fun _ => .none) :=
  zone_in_none (by rw [empty_len]; decide) (fun c hc => by rw [empty_cps] at hc; cases hc) (by rw [empty_cps]; rfl) tk
section
variable {prog : Program} {w : World} {A : Around} {E : Value → Shared → Prop} {s : Shared} {t : Tok} {Q : Value → Shared → Prop} {D : Addr} {ys : List Value} {cs : List Nat}
theorem join_word (hl : s.heap.IsList D ys.toArray) (hi : StrsAre ys (cs.map (fun c => (⟨#[c]⟩ : Str)))) (hs : ∀ c ∈ cs, Sgn c) (h3 : 3 ≤ cs.length) (h6 : cs.length ≤ 6) (h : ∀ x, Word x → ∀ t' k, Q (.str x t') { s with toks := k }) :
    wpAny (model prog w) A (call (.builtin "str.join") [.str (Str.ofString "") t, .ref D]) Q E s := by
  refine join_listW (ys := cs.map (fun c => (⟨#[id c]⟩ : Str))) hl (by simpa using hi) (by decide +kernel) (by rw [sum_single]; omega) ?_
  rw [join_single, List.map_id]
  exact h _ ⟨hs, by show 3 ≤ cs.toArray.size; simpa using h3, by show cs.toArray.size ≤ 6; simpa using h6⟩
end
section
variable {prog : Program} {w : World} {A : Around} {E : Value → Shared → Prop} {s : Shared} {Q : Value → Shared → Prop} {a b : Addr} {xs : List Value} {ns : List Str}
theorem eq_strs_is {v : Bool} (ha : s.heap.IsList a xs.toArray) (hb : s.heap.IsList b #[]) (hi : CarriedAll xs (ns.map PyData.str)) (hn : ∀ x ∈ ns, PyData.strOk x = true) (hu : A.units + 64 < cLine) (he : ns.isEmpty = v) (h : Q (.bool v) s) :
    wpAny (model prog w) A (compareOp .Eq (.ref a) (.ref b)) Q E s := eq_strs_nil ha hb hi hn hu (he ▸ h)
end
theorem dropN1 {h₀ h : Heap} {L : Addr} {a b c d e : Addr × Obj} (N : News h₀ L h [a, b, c, d, e]) : News h₀ L h [b, c, d, e] := fun p hp => N p (.tail _ hp)
/-- the state of the pool while the text is drawn -/
def Pools (pp cc : Addr) (kp kc : Nat) (us : List Value) (p3 p4 : Addr × Obj) (pl : Int) (i : Nat) (news : List (Addr × Obj)) : Prop :=
  ∃ (g st : Int) (t1 t2 t3 : Tok), 0 ≤ g ∧ g < 10 ^ 200 ∧ 0 ≤ st ∧ st < 2147483647 ∧ news = [(pp, poolO cc g st (pl + (i : Int)) t1 t2 t3 kp), (cc, listOf us.toArray kc), p3, p4]
theorem pools_next {pp cc : Addr} {kp kc : Nat} {us : List Value} {p3 p4 : Addr × Obj} {pl : Int} {i : Nat} {g st : Int} {t1 t2 t3 : Tok} (g0 : 0 ≤ g) (g1 : g < 10 ^ 200) (s0 : 0 ≤ st) (s1 : st < 2147483647) :
    Pools pp cc kp kc us p3 p4 pl (i + 1) [(pp, poolO cc g st (pl + (i : Int) + 1) t1 t2 t3 kp), (cc, listOf us.toArray kc), p3, p4] :=
  ⟨g, st, t1, t2, t3, g0, g1, s0, s1, by rw [Int.add_assoc]; rfl⟩
section
variable {prog : Program} {w : World} {A : Around} {h₀ : Heap} {L : Addr} {m : Str → Option Value} {env : Env} {elt : Expr} {x : Str} {scope : Scope} {cl : List (Str × Addr)} {s : Shared} {S : List (Addr × Obj) → Prop} {P : Nat → Value → Prop} {Fin : List Value → List (Addr × Obj) → Prop}
theorem pick_law {n : Nat} {pp cc : Addr} {kp kc : Nat} {us : List Value} {p3 p4 : Addr × Obj} {pl g st : Int} {t1 t2 t3 : Tok} {hh : Heap} (_N : News h₀ L hh [(pp, poolO cc g st pl t1 t2 t3 kp), (cc, listOf us.toArray kc), p3, p4]) (g0 : 0 ≤ g) (g1 : g < 10 ^ 200) (s0 : 0 ≤ st) (s1 : st < 2147483647)
    (turn : ∀ (i : Nat) (news : List (Addr × Obj)) (v : Value) (I : Addr) (oI : Obj) (C : Addr) (oC : Obj) (D : Addr) (m₂ : Str → Option Value) (ys : List Value) (h : Heap) (tk : Nat) (E' : Value → Shared → Prop), i < n → Pools pp cc kp kc us p3 p4 pl i news → LCg.NsObj oC m₂ → m₂ x = some v → Fr h₀ L h m → News h₀ L h ((I, oI) :: (C, oC) :: (D, LCg.lst ys) :: news) → LCg.Off3 I C D news → ((@Ne Nat I C) ∧ (@Ne Nat I D) ∧ (@Ne Nat C D)) →
      wpAny (model prog w) A (eval elt (compEnvC scope cl C env)) (LCg.CompEnd h₀ L m { s with heap := h, toks := tk } I oI C oC D (LCg.lst ys) S (fun y news' => Pools pp cc kp kc us p3 p4 pl (i + 1) news' ∧ ∃ (c : Nat) (t : Tok), Sgn c ∧ y = .str ⟨#[c]⟩ t)) E' { s with heap := h, toks := tk })
    (fin : ∀ (ys : List Value) (cs : List Nat) (news : List (Addr × Obj)), Pools pp cc kp kc us p3 p4 pl n news → StrsAre ys (cs.map fun c => (⟨#[c]⟩ : Str)) → cs.length = n → (∀ c ∈ cs, Sgn c) → Fin ys news) :
    LCg.CompRest prog w A h₀ L m env elt x scope cl s S P Fin n 0 [] [(pp, poolO cc g st pl t1 t2 t3 kp), (cc, listOf us.toArray kc), p3, p4] :=
  pick_rest (Pools pp cc kp kc us p3 p4 pl) turn fin ⟨g, st, t1, t2, t3, g0, g1, s0, s1, by rw [show pl + ((0 : Nat) : Int) = pl from Int.add_zero _]⟩
end
theorem turn_off {pp I C D : Addr} {o oI oC oD : Obj} {p2 p3 p4 : Addr × Obj} (off : LCg.Off3 I C D [(pp, o), p2, p3, p4]) (h3 : p3.1 ≠ pp) (h4 : p4.1 ≠ pp) : ∀ q ∈ [p3, p4, (I, oI), (C, oC), (D, oD)], q.1 ≠ pp :=
  List.forall_mem_cons.mpr ⟨h3, List.forall_mem_cons.mpr ⟨h4, List.forall_mem_cons.mpr ⟨Ne.symm off.1.1, List.forall_mem_cons.mpr ⟨Ne.symm off.1.2.1, List.forall_mem_cons.mpr ⟨Ne.symm off.1.2.2, List.forall_mem_nil _⟩⟩⟩⟩⟩
end Mine

/-! D9A -/
namespace Mine
open PySem PySem.Spec PySem.Calls PyProof.Rows PyProof.V

section
variable {prog : Program} {w : World} {A : Around} {E : Value → Shared → Prop} {s : Shared} {env : Env} {h₀ : Heap} {L : Addr} {m : Str → Option Value} {news : List (Addr × Obj)}
/-- the signs of a text that are not c: [x for x in text if x != c] -/
theorem iter_others {x c y : Str} {p1 p2 p3 p4 : Pos} {k : Nat} {scope : Scope} {t : Tok} {Q : Value → Shared → Prop}
    (hh : A.handled = none) (F : Fr h₀ L s.heap m) (N : News h₀ L s.heap news) (hk : scope.kind = .function) (hl : ∀ C, (compEnv scope C env).kindOf x = some .local) (hd : (x == ("__debug__" : Str)) = false) (hsz : y.length ≤ sizeLine)
    (h : ∀ D (ys : List Value) k h' tk, Fr h₀ L h' m → News h₀ L h' ((D, listOf ys.toArray k) :: news) → CarriedAll ys (((signs y).filter (fun a => a != c)).map PyData.str) → Q (.ref D) { s with heap := h', toks := tk }) :
    wpAny (model prog w) A (pyIter (.str y t)) (CompPost prog w A env scope x [.Compare (.Name x p1) [.NotEq] [.Constant (.str c) k p2] p3] (.Name x p4) Q) E s := by
  refine srcC_signsD (pz := fun a => a != c) (d := PyData.str) hh F N ?_ ?_ (fun D ys h' tk F' N' hD₀ _ hp hc => ?_) hsz
  rotate_right
  · have hDL := hp.ne_locals F'
    obtain ⟨⟨k, hD⟩, _⟩ := hp
    refine h D ys k h' tk F' (fun q hq => ?_) hc
    rcases List.mem_cons.mp hq with rfl | hq
    · exact ⟨hD, hDL, hD₀⟩
    · exact N' q hq
  · intro C a v s₂ m₂ E' ha hn hv _
    obtain ⟨u, rfl⟩ := ItemKind.str_is ha
    refine wpAny_tests_one (wpAny_isTrue_Compare1 (wpAny_Name (wpAny_loadName_local hk (hl C) hn hv ?_) hd) (by rfl))
    refine Calls.Constant_str (PyProof.Rows.ne_str (wpAny_truthy_bool ?_))
    exact ⟨rfl, s₂.heap, _, rfl, fun _ _ e => e⟩
  · intro C a v s₂ m₂ E' ha _ hn hv _
    obtain ⟨u, rfl⟩ := ItemKind.str_is ha
    refine wpAny_Name (wpAny_loadName_local hk (hl C) hn hv ?_) hd
    exact ⟨.str _ _, s₂.heap, _, rfl, fun _ _ e => e⟩
end
section
variable {M : Model} {A : Around} {E : Value → Shared → Prop} {s : Shared} {h₀ : Heap} {L : Addr} {m : Str → Option Value} {env : Env}
/-- a statement that leaves a text in the frame, and nothing else that is wanted -/
def TextN (h₀ : Heap) (L : Addr) (m : Str → Option Value) (z : Str) (s : Shared) (fl : Flow) (s' : Shared) : Prop := fl = .next ∧ ∃ x t h' tk', Word x ∧ s' = { s with heap := h', toks := tk' } ∧ Fr h₀ L h' (fun y => if y = z then some (.str x t) else m y)
theorem nil_of {h : Heap} (_F : Fr h₀ L h m) : News h₀ L h [] := News.nil
theorem text_n {z x : Str} {t : Tok} {h' : Heap} {tk' : Nat} (W : Word x) (F : Fr h₀ L h' (fun y => if y = z then some (.str x t) else m y)) : TextN h₀ L m z s .next { s with heap := h', toks := tk' } :=
  ⟨rfl, x, t, h', tk', W, rfl, F⟩
theorem text_n2 {z x x0 : Str} {t t0 : Tok} {h' : Heap} {tk' : Nat} (W : Word x) (F : Fr h₀ L h' (fun y => if y = z then some (.str x t) else if y = z then some (.str x0 t0) else m y)) : TextN h₀ L m z s .next { s with heap := h', toks := tk' } := by
  refine text_n W (t := t) ?_
  have e : (fun y => if y = z then some (Value.str x t) else if y = z then some (.str x0 t0) else m y) = (fun y => if y = z then some (.str x t) else m y) := by
    funext y
    by_cases h : y = z
    · rw [if_pos h, if_pos h]
    · rw [if_neg h, if_neg h, if_neg h]
  exact e ▸ F
theorem text_cut {test : Expr} {body orelse : List Stmt} {pos : Pos} {z x0 : Str} {t0 : Tok} {Q : Flow → Shared → Prop} (_F : Fr h₀ L s.heap (fun y => if y = z then some (.str x0 t0) else m y))
    (C : wpAny M A (isTrue test env (eval test env)) (fun b s₂ => if b then wpAny M A (execs body env) (TextN h₀ L m z s) E s₂ else wpAny M A (execs orelse env) (TextN h₀ L m z s) E s₂) E s)
    (h : ∀ x t h' tk', Word x → Fr h₀ L h' (fun y => if y = z then some (.str x t) else m y) → Q .next { s with heap := h', toks := tk' }) : wpAny M A (exec (.If test body orelse pos) env) Q E s := by
  refine wpAny_mono (wpAny_If C) (fun fl s₂ hb => ?_) fun _ _ e => e
  obtain ⟨rfl, x, t, h', tk', W, rfl, F⟩ := hb
  exact h x t h' tk' W F
end
end Mine

/-! D9B -/
namespace Mine
open PySem PySem.Spec PySem.Calls PyProof.Rows PyProof.V
theorem ne_cell {h₀ h : Heap} {L : Addr} {news : List (Addr × Obj)} {c1 c2 : Addr} {o1 o2 : Obj} {v : Option Value} (N : News h₀ L h news) (m1 : (c1, o1) ∈ news) (m2 : (c2, o2) ∈ news) (hd : o2.data = .cell v) (h1 : ∀ v, o1.data ≠ .cell v) : c1 ≠ c2 := by
  intro e
  have a := N.get m1
  have b := N.get m2
  subst e
  rw [a] at b
  cases b
  exact h1 _ hd
theorem to_signs {h₀ h : Heap} {L : Addr} {a b c d e f : Addr × Obj} (N : News h₀ L h [a, b, c, d, e, f]) : News h₀ L h [e, c, d, f] := by
  intro p hp
  refine N p ?_
  simp only [List.mem_cons, List.not_mem_nil, or_false] at hp ⊢
  rcases hp with h | h | h | h
  · exact .inr (.inr (.inr (.inr (.inl h))))
  · exact .inr (.inr (.inl h))
  · exact .inr (.inr (.inr (.inl h)))
  · exact .inr (.inr (.inr (.inr (.inr h))))
theorem from_signs {h₀ h : Heap} {L : Addr} {c p q : Addr} {o o' : Obj} {g st pl : Int} {t1 t2 t3 : Tok} {k k' : Nat} {us : Array Value} {e : Addr} (N : News h₀ L h [(e, o'), (p, poolO q g st pl t1 t2 t3 k), (q, listOf us k'), (c, o)]) : News h₀ L h [(p, poolO q g st pl t1 t2 t3 k), (q, listOf us k'), (e, o'), (c, o)] := by
  intro p hp
  refine N p ?_
  simp only [List.mem_cons, List.not_mem_nil, or_false] at hp ⊢
  rcases hp with h | h | h | h
  · exact .inr (.inl h)
  · exact .inr (.inr (.inl h))
  · exact .inl h
  · exact .inr (.inr (.inr h))
theorem signs_off {h₀ h : Heap} {L : Addr} {p q c e : Addr} {o0 o1 o2 o3 : Obj} (_N : News h₀ L h [(e, o0), (p, o1), (q, o2), (c, o3)]) (h1 : e ≠ p) (h2 : q ≠ e) (h3 : c ≠ e) : ∀ x ∈ [(p, o1), (q, o2), (c, o3)], x.1 ≠ e :=
  List.forall_mem_cons.mpr ⟨Ne.symm h1, List.forall_mem_cons.mpr ⟨h2, List.forall_mem_cons.mpr ⟨h3, List.forall_mem_nil _⟩⟩⟩

theorem law_holds : PySem.Challenge.rw_nz0283_01.Holds := Mine.hd (by
  k_go0
  (all_goals try k_fold)
  k_with_none
  k_with "exec If" => (k_here; (with_reducible show wpAny _ _ (exec (Stmt.If _ [Stmt.Return _ _] _ _) _) _ _ _); (refine CbC.out (f := 0) (k := 0) ?_))
  k_with "call ref" => (k_here; k_dflt (refine' box_call _ _ _ ?z1 ?z2 _ _ _ _ _ _ _ _ _ _ _ _ _ _ _ _ _ _ _ _ _ _ _ _ _ ?k1 ?k2 ?k3 ?k4 ?k5 ?k6 ?kl ?k7 ?k8 ?_; (case z1 => assumption); (case z2 => omega); (case k1 => k_asm); (case k2 => k_asm); (case k3 => k_asm); (case k4 => k_asm); (case k5 => k_asm); (case k6 => first | exact rfl | assumption); (case kl => assumption); (case k7 => decide); (case k8 => exact Nat.le_of_ble_eq_true rfl); k_whole; intro pp cc gg st t1 t2 t3 us ms kp kc h9 tk9 hI9 hn9 g0 g1 s0 s1 e1 e2 e3 F9 N9; (try dsimp only); (try k_fold)))
  k_with "call ref" => (k_here; rename News _ _ _ _ => N6; (try simp only [List.cons_append, List.nil_append, List.append_nil] at N6); (try replace N6 := from_signs N6); k_dflt (refine' draw_call _ ?xxm0 ?xxm1 _ pp cc kp kc _ _ _ _ _ _ us ms _ hI9 hn9 ?xxg0 ?xxg1 ?xxs0 ?xxs1 ?xxp0 ?xxp1 ?xxhr (Ne.symm (Ne.symm e1)) _ _ _ _ _ _ _ _ _ _ _ _ _ _ _ _ _ _ _ _ _ ?xxk1 ?xxk2 ?xxk3 ?xxk4 ?xxk5 ?xxk6 ?xxk7 ?xxk8 ?_; (case xxk1 => k_asm); (case xxk2 => k_asm); (case xxk3 => k_asm); (case xxk4 => k_asm); (case xxk5 => k_asm); (case xxm0 => decide); (case xxm1 => decide); (case xxg0 => assumption); (case xxg1 => assumption); (case xxs0 => assumption); (case xxs1 => assumption); (case xxp0 => omega); (case xxp1 => omega); (case xxhr => (refine List.forall_mem_cons.mpr ⟨e2, List.forall_mem_cons.mpr ⟨e3, List.forall_mem_nil _⟩⟩)); (case xxk6 => first | exact rfl | assumption); (case xxk7 => decide); (case xxk8 => exact Nat.le_of_ble_eq_true rfl); k_whole; intro dd gg st tt t1 t2 t3 h9 tk9 d0 d1 g0 g1 s0 s1 F9 N9; (try dsimp only); (try k_fold)))
  k_with "call ref" => (k_here; (with_reducible rename (_ : Int) < 6000 => q1); (with_reducible rename (_ : Int) < 2 => q2); (have hM := minutes_b (by assumption) q1 (by assumption) q2); (have hM0 := hM.1); (have hM1 := hM.2); k_dflt (refine' mc_use (zone_text_call _ hM0 hM1 _) ?k1 ?k2 ?k3 ?k4 ?k5 ?k6 ?k7 ?k8 ?_; (case k1 => k_asm); (case k2 => k_asm); (case k3 => k_asm); (case k4 => k_asm); (case k5 => k_asm); (case k6 => first | exact rfl | assumption); (case k7 => first | decide | ktr_room); (case k8 => first | exact Nat.le_of_ble_eq_true rfl | ktr_units); k_whole; intro t9 h9 tk9 F9 N9; (try dsimp only); (try k_fold)))
  k_with "call ref" => (k_here; k_dflt (refine' read_call (fx _) (ztext _) _ (fx_len _) (by rw [fx_len]; decide) (fx_011 _) (fx_1220 _) (fx_21 _) (fx_0 _) (fx_2 _) (fx_11 _) (fx_20 _) (by exact Nat.le_of_ble_eq_true rfl) (ztext_pts _ hM0 hM1) (ztext_zl _ hM0 hM1) _ _ _ _ _ _ _ _ _ _ _ _ _ _ _ _ _ _ _ _ _ _ _ ?k1 ?k2 ?k3 ?k4 ?k5 ?k6 ?k7 ?k8 ?_; (case k1 => k_asm); (case k2 => k_asm); (case k3 => k_asm); (case k4 => k_asm); (case k5 => k_asm); (case k6 => first | exact rfl | assumption); (case k7 => decide); (case k8 => exact Nat.le_of_ble_eq_true rfl); k_whole; intro p7 d7 k1 k2 k3 k4 k5 k6 k7 v1 v2 v3 v4 v5 v6 v7 h9 tk9 F9 N9; (try dsimp only); (try k_fold)))
  k_with "call ref" => (k_here; k_dflt (refine' mm_use (write_call _ _ _ hM0 hM1 _ _ _ _ _ _ _ _ _ _ _ _ _ _) ?k1 ?k2 ?k3 ?k4 ?k5 ?k6 ?k7 ?k8 ?_; (case k1 => k_asm); (case k2 => k_asm); (case k3 => k_asm); (case k4 => k_asm); (case k5 => k_asm); (case k6 => first | exact rfl | assumption); (case k7 => decide); (case k8 => exact Nat.le_of_ble_eq_true rfl); k_whole; intro t9 h9 tk9 F9 N9; (try dsimp only); (try k_fold)))
  k_with "call ref" => (k_here; k_dflt (refine' mc_use (law_minutes_some (show (ztext _).length ≤ 640 by exact Nat.le_of_ble_eq_true rfl) (ztext_pts _ hM0 hM1) (ztext_zl _ hM0 hM1) _) ?k1 ?k2 ?k3 ?k4 ?k5 ?k6 ?k7 ?k8 ?_; (case k1 => k_asm); (case k2 => k_asm); (case k3 => k_asm); (case k4 => k_asm); (case k5 => k_asm); (case k6 => first | exact rfl | assumption); (case k7 => first | decide | ktr_room); (case k8 => first | exact Nat.le_of_ble_eq_true rfl | ktr_units); k_whole; intro t9 h9 tk9 F9 N9; (try dsimp only); (try k_fold)))
  k_with "call ref" => (k_here; k_dflt (refine' mc_use (zone_in_some (show (ztext _).length ≤ 640 by exact Nat.le_of_ble_eq_true rfl) (ztext_pts _ hM0 hM1) (ztext_zl _ hM0 hM1) _) ?k1 ?k2 ?k3 ?k4 ?k5 ?k6 ?k7 ?k8 ?_; (case k1 => k_asm); (case k2 => k_asm); (case k3 => k_asm); (case k4 => k_asm); (case k5 => k_asm); (case k6 => first | exact rfl | assumption); (case k7 => first | decide | ktr_room); (case k8 => first | exact Nat.le_of_ble_eq_true rfl | ktr_units); k_whole; intro t9 h9 tk9 F9 N9; (try dsimp only); (try k_fold)))
  k_with "subscriptTail Name Constant str int" => (k_here; refine' item_known (ztext_item _) ?ib ?ic ?id ?_; (case ib => decide); (case ic => exact (show (0 : Int) < ((5 : Nat) : Int) by decide)); (case id => exact Nat.le_of_ble_eq_true rfl))
  k_with "call builtin:len" => (k_here; refine' len_known (n := 5) ?ia ?ib ?_; (case ia => exact rfl); (case ib => decide))
  k_with "compareOp NotEq str str" => (k_here; first | refine ne_sgn_neg (by with_reducible assumption) ?_ | refine ne_sgn_pos (by with_reducible assumption) ?_ | refine ne_same_str ?_)
  k_with "compareOp NotEq int int" => (k_here; refine ne_same_int ?_)
  k_steps
  unfold CbC
  with_reducible rename Fr _ _ _ _ => F6
  with_reducible rename News _ _ _ _ => N6
  refine if_no F6 N6 ?_ ?_
  · k_steps
    all_goals (with_reducible rename Fr _ _ _ _ => F7)
    all_goals (with_reducible rename News _ _ _ _ => N7)
    all_goals exact no_n F7 N7 (fun p hp => hp)
  intro h6 tk6 F6' N6'
  k_steps
  unfold CbC
  with_reducible rename Fr _ _ _ _ => F6
  with_reducible rename News _ _ _ _ => N6
  refine if_no F6 N6 ?_ ?_
  · k_steps
    all_goals (with_reducible rename Fr _ _ _ _ => F7)
    all_goals (with_reducible rename News _ _ _ _ => N7)
    all_goals exact no_n F7 N7 (fun p hp => hp)
  intro h5 tk5 F5' N5'
  replace N5' := to_signs N5'
  have e4 := ne_cell N5' (.tail _ (.tail _ (.head _))) (.head _) (by assumption) (by nofun)
  have e5 := signs_off N5' e2 e4 (by (refine neN ?_; omega))
  k_with "CompSrc" => (refine CbC.out (f := 0) (k := 0) ?_)
  k_steps
  unfold CbC
  with_reducible rename News _ _ _ _ => N6
  refine LCg.CompSrc.range (by rfl) (by k_asm) N6 (by assumption) (small_one (by omega) (by omega) (by omega) (by omega)) (rangeSize_nat _ _) (by rw [PySem.sizeLine_eq]; omega) ?_
  intro g'
  refine pick_law N6 g0 g1 s0 s1 ?_ ?_
  · intro i news v I oI C oC D m₂ ys h tk E' hi hJ hC hx FC NC off ne
    obtain ⟨g, st, t1, t2, t3, g0, g1, s0, s1, rfl⟩ := hJ
    have hr7 := turn_off (oI := oI) (oC := oC) (oD := LCg.lst ys) off e2 e3
    replace NC := in_lay NC
    k_with "call ref" => (k_here; rename News _ _ _ _ => N6; (try simp only [List.cons_append, List.nil_append, List.append_nil] at N6); k_dflt (refine' draw_call _ ?xxm0 ?xxm1 _ pp cc kp kc _ _ _ _ _ _ us ms _ hI9 hn9 ?xxg0 ?xxg1 ?xxs0 ?xxs1 ?xxp0 ?xxp1 ?xxhr (Ne.symm (Ne.symm e1)) _ _ _ _ _ _ _ _ _ _ _ _ _ _ _ _ _ _ _ _ _ ?xxk1 ?xxk2 ?xxk3 ?xxk4 ?xxk5 ?xxk6 ?xxk7 ?xxk8 ?_; (case xxk1 => k_asm); (case xxk2 => k_asm); (case xxk3 => k_asm); (case xxk4 => k_asm); (case xxk5 => k_asm); (case xxm0 => decide); (case xxm1 => decide); (case xxg0 => assumption); (case xxg1 => assumption); (case xxs0 => assumption); (case xxs1 => assumption); (case xxp0 => omega); (case xxp1 => omega); (case xxhr => with_reducible assumption); (case xxk6 => first | exact rfl | assumption); (case xxk7 => decide); (case xxk8 => exact Nat.le_of_ble_eq_true rfl); k_whole; intro dd gg st tt t1 t2 t3 h9 tk9 d0 d1 g0 g1 s0 s1 F9 N9; (try dsimp only); (try k_fold)))
    k_steps
    obtain ⟨c7, hc7, hi7⟩ := signs_item _ d0 d1
    exact LCg.CompEnd.intro F9 N9 _ (out_lay N9) off trivial ⟨pools_next g0 g1 s0 s1, c7, _, hc7, congrArg (fun z => Value.str z _) hi7⟩
  · intro ys cs news hJ hy hc hs
    obtain ⟨g, st, t1, t2, t3, g0, g1, s0, s1, rfl⟩ := hJ
    clear N6
    k_with "call builtin:str.join" => (k_here; refine' join_word ?jl hy hs ?j3 ?j6 ?_; (case jl => is_list); (case j3 => omega); (case j6 => omega); intro x7 hX7 _ _; (have hX8 : x7.length ≤ 1000 := hX7.le2); (with_reducible rename News _ _ _ _ => N6); (replace N6 := dropN1 N6))
    k_with "subscriptTail Name Slice str ref" => ((with_reducible show wpAny _ _ (subscriptTail _ (Expr.Slice (some _) none none _) _ _) _ _ _); (with_reducible rename Fr _ _ _ _ => F'); (with_reducible rename News _ _ _ _ => N'); (refine slice_to_end (hsz := ?hsz) (s := ⟨_, _, _, _, _⟩) F' N' rfl ?_); (case hsz => size_fits); intro _ _ _ _ _)
    k_with "exec If" => (k_here; (with_reducible show wpAny _ _ (exec (Stmt.If _ [Stmt.Assign _ _ _] _ _) _) _ _ _); (refine CbC.out (f := 1) (k := 0) ?_))
    k_steps
    unfold CbC
    with_reducible rename Fr _ _ _ _ => F6
    refine text_cut F6 ?_ ?_
    · k_steps
      · obtain ⟨c7, hc7, hi7⟩ := pm_item _ d0 d1
        have hW := word_plus hX7 hc7
        rw [← hi7] at hW
        exact text_n2 hW (by assumption)
      · exact text_n hX7 (by assumption)
    · intro x9 t9 h9 tk9 hW F9
      k_steps
      unfold CbC
      have N9 := nil_of F9
      have hWl := hW.le
      have hWl2 := hW.le2
      have hWp := hW.pts
      with_reducible rename Fr _ _ _ _ => F6
      with_reducible rename News _ _ _ [] => N6
      refine if_no F6 N6 ?_ ?_
      k_with "call ref" => (k_here; k_dflt (refine' mc_use (law_minutes_none hWl hWp hz _) ?k1 ?k2 ?k3 ?k4 ?k5 ?k6 ?k7 ?k8 ?_; (case k1 => k_asm); (case k2 => k_asm); (case k3 => k_asm); (case k4 => k_asm); (case k5 => k_asm); (case k6 => first | exact rfl | assumption); (case k7 => first | decide | ktr_room); (case k8 => first | exact Nat.le_of_ble_eq_true rfl | ktr_units); k_whole; intro t9 h9 tk9 F9 N9; (try dsimp only); (try k_fold)))
      k_with "call ref" => (k_here; k_dflt (refine' mc_use (law_minutes_some hWl hWp hz _) ?k1 ?k2 ?k3 ?k4 ?k5 ?k6 ?k7 ?k8 ?_; (case k1 => k_asm); (case k2 => k_asm); (case k3 => k_asm); (case k4 => k_asm); (case k5 => k_asm); (case k6 => first | exact rfl | assumption); (case k7 => first | decide | ktr_room); (case k8 => first | exact Nat.le_of_ble_eq_true rfl | ktr_units); k_whole; intro t9 h9 tk9 F9 N9; (try dsimp only); (try k_fold)))
      k_with "call ref" => (k_here; k_dflt (refine' mc_use (zone_in_none hWl hWp hz _) ?k1 ?k2 ?k3 ?k4 ?k5 ?k6 ?k7 ?k8 ?_; (case k1 => k_asm); (case k2 => k_asm); (case k3 => k_asm); (case k4 => k_asm); (case k5 => k_asm); (case k6 => first | exact rfl | assumption); (case k7 => first | decide | ktr_room); (case k8 => first | exact Nat.le_of_ble_eq_true rfl | ktr_units); k_whole; intro t9 h9 tk9 F9 N9; (try dsimp only); (try k_fold)))
      k_with "call ref" => (k_here; k_dflt (refine' mc_use (zone_in_some hWl hWp hz _) ?k1 ?k2 ?k3 ?k4 ?k5 ?k6 ?k7 ?k8 ?_; (case k1 => k_asm); (case k2 => k_asm); (case k3 => k_asm); (case k4 => k_asm); (case k5 => k_asm); (case k6 => first | exact rfl | assumption); (case k7 => first | decide | ktr_room); (case k8 => first | exact Nat.le_of_ble_eq_true rfl | ktr_units); k_whole; intro t9 h9 tk9 F9 N9; (try dsimp only); (try k_fold)))
      · rcases word_cases hW with hz | ⟨z, hz⟩
        all_goals k_steps
        all_goals (with_reducible rename Fr _ _ _ _ => F7)
        all_goals exact no_n F7 News.nil (fun p hp => hp)
      · intro h4 tk4 F4 N4
        k_with "call ref" => (k_here; k_dflt (refine' mc_use (named_some hW hn _) ?k1 ?k2 ?k3 ?k4 ?k5 ?k6 ?k7 ?k8 ?_; (case k1 => k_asm); (case k2 => k_asm); (case k3 => k_asm); (case k4 => k_asm); (case k5 => k_asm); (case k6 => first | exact rfl | assumption); (case k7 => first | decide | ktr_room); (case k8 => first | exact Nat.le_of_ble_eq_true rfl | ktr_units); k_whole; intro t9 h9 tk9 F9 N9; (try dsimp only); (try k_fold)))
        k_with "call ref" => (k_here; k_dflt (refine' mc_use (named_none hW hn _) ?k1 ?k2 ?k3 ?k4 ?k5 ?k6 ?k7 ?k8 ?_; (case k1 => k_asm); (case k2 => k_asm); (case k3 => k_asm); (case k4 => k_asm); (case k5 => k_asm); (case k6 => first | exact rfl | assumption); (case k7 => first | decide | ktr_room); (case k8 => first | exact Nat.le_of_ble_eq_true rfl | ktr_units); k_whole; intro t9 h9 tk9 F9 N9; (try dsimp only); (try k_fold)))
        k_with "call ref" => (k_here; k_dflt (refine' mc_use (zone_empty _) ?k1 ?k2 ?k3 ?k4 ?k5 ?k6 ?k7 ?k8 ?_; (case k1 => k_asm); (case k2 => k_asm); (case k3 => k_asm); (case k4 => k_asm); (case k5 => k_asm); (case k6 => first | exact rfl | assumption); (case k7 => first | decide | ktr_room); (case k8 => first | exact Nat.le_of_ble_eq_true rfl | ktr_units); k_whole; intro t9 h9 tk9 F9 N9; (try dsimp only); (try k_fold)))
        k_with "call ref" => (k_here; k_dflt (refine' mc_use (named_empty _) ?k1 ?k2 ?k3 ?k4 ?k5 ?k6 ?k7 ?k8 ?_; (case k1 => k_asm); (case k2 => k_asm); (case k3 => k_asm); (case k4 => k_asm); (case k5 => k_asm); (case k6 => first | exact rfl | assumption); (case k7 => first | decide | ktr_room); (case k8 => first | exact Nat.le_of_ble_eq_true rfl | ktr_units); k_whole; intro t9 h9 tk9 F9 N9; (try dsimp only); (try k_fold)))
        k_with "eval ListComp" => ((with_reducible apply ListComp_rowsP); (case hfree => decide); (case hcell => decide); (case hkind => with_unfolding_all rfl); (case hnames => decide); (case hx => with_unfolding_all rfl); (case hs => intro _; with_unfolding_all rfl))
        k_with "pyIter str" => ((with_reducible rename Fr _ _ _ _ => F'); (refine iter_others (by with_unfolding_all rfl) F' (nil_of F') (by with_unfolding_all rfl) (fun _ => by with_unfolding_all rfl) (by decide) (Nat.le_trans hWl2 (by rw [PySem.sizeLine_eq]; decide)) ?_); intro _ _ _ _ _ _ _ _)
        k_with "compareOp Eq ref ref" => (k_here; (with_reducible show wpAny _ _ (compareOp CmpOp.Eq (Value.ref _) (Value.ref _)) _ _ _); (with_unfolding_all refine' eq_strs_is ?xk1 ?xk2 ?xk3 ?xk4 ?xk5 ?xk6 ?_; (case xk1 => is_list); (case xk2 => is_list); (case xk3 => with_reducible assumption); (case xk4 => exact pts_signs (by with_reducible assumption) _); (case xk5 => first | decide | exact Nat.le_of_ble_eq_true rfl | ktr_units); (case xk6 => exact (x_filter _ _ (fun c => by simp [bne, x_eq])).trans ha); k_whole))
        rcases nz_cases hW with ⟨hn, ha⟩ | ⟨hn, ha⟩
        all_goals k_steps
)
end Mine
set_option maxRecDepth 100000 in
set_option maxHeartbeats 8000000 in
theorem PySem.Challenge.cw_nz0283_01_holds : PySem.Challenge.rw_nz0283_01.Holds :=
  Mine.law_holds
