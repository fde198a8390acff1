import PyProof.Rows.All
import Wide.All
import OpenK.AllK
import Wide.FinOn
import PySem.Challenge.RW_pq1397_01
open PySem PySem.W PySem.Calls PySem.Spec PyProof.Rows
set_option Elab.async false
set_option maxRecDepth 100000
namespace Mine
set_option maxHeartbeats 8000000 in
open_top hd for PySem.Challenge.rw_pq1397_01
local macro_rules | `(tactic| walk_at $s:str) => `(tactic| k_extra $s)
local macro_rules | `(tactic| kt_len) => `(tactic| (with_reducible assumption))
section
/-- each group of walks starts as in a fresh process: open_top leaves a switch on, and the lines of the group before are dropped -/
theorem walk_off0 : True := by w_top off; k_with_none; trivial
/-- no address of the list is d -/
theorem allNe_of {d : Addr} {l : List (Addr × Obj)} (h : AllLt d l) : ∀ p ∈ l, p.1 ≠ d := by
  induction l with
  | nil => exact fun _ h => nomatch h
  | cons q r ih =>
    intro p hp
    rcases List.mem_cons.mp hp with rfl | hp
    · exact Nat.ne_of_lt h.1
    · exact ih h.2 p hp
/-- the caller's surroundings: any frame `env` on any frames -/
abbrev top (dp un : Nat) (gd : Option (List Code)) (env : Env) (outer : List Env) : Around :=
  { handled := none, depth := dp, frames := some (env :: outer), guards := gd, units := un }
abbrev tupOf (its : Array Value) (n : Nat) : Obj := { cls := .type "tuple", data := .seq its n }

/-- an item of a double vector: none, or a pair -/
abbrev Item := Option (Int × Int)
/-- the ledger bears the item d at v -/
def ItemIn (news : List (Addr × Obj)) (v : Value) : Item → Prop
  | none => v = .none
  | some (n, q) => ∃ a t u c, v = .ref a ∧ (a, tupOf #[.int n t, .int q u] c) ∈ news
theorem ItemIn.mono {l l' : List (Addr × Obj)} {v : Value} {d : Item} (h : ItemIn l v d) (hs : ∀ p ∈ l, p ∈ l') : ItemIn l' v d := by
  match d, h with
  | none, h => exact h
  | some (n, q), ⟨a, t, u, c, e, hm⟩ => exact ⟨a, t, u, c, e, hs _ hm⟩
/-- no denominator below nought, and none that is large -/
def ItemOk : Item → Prop
  | none => True
  | some (_, q) => 0 ≤ q ∧ q < 1000
abbrev AllNe (d : Addr) (l : List (Addr × Obj)) : Prop := ∀ p ∈ l, p.1 ≠ d

theorem news_one {h₀ h : Heap} {L : Addr} {x y z : Addr × Obj} {r : List (Addr × Obj)} (N : News h₀ L h (x :: y :: z :: r)) : News h₀ L h (y :: z :: ([x] ++ r)) := by
  intro p hp; apply N; simp only [List.mem_cons, List.cons_append, List.nil_append] at hp ⊢; grind
theorem news_three {h₀ h : Heap} {L : Addr} {a b c y z : Addr × Obj} {r : List (Addr × Obj)} (N : News h₀ L h (a :: b :: c :: y :: z :: r)) : News h₀ L h (y :: z :: ([a, b, c] ++ r)) := by
  intro p hp; apply N; simp only [List.mem_cons, List.cons_append, List.nil_append] at hp ⊢; grind
theorem allNe_lt {d : Addr} {l : List (Addr × Obj)} (h : ∀ p ∈ l, p.1 < d) : ∀ p ∈ l, p.1 ≠ d := fun p hp => Nat.ne_of_lt (h p hp)
theorem two_names (x y : Str) (m : Str → Option Value) : m = fun z => if z = x then m x else if z = y then m y else m z := by
  funext z; by_cases h : z = x <;> by_cases h' : z = y <;> simp_all
theorem one_name (x : Str) (m : Str → Option Value) : m = fun z => if z = x then m x else m z := by
  funext z; by_cases h : z = x <;> simp_all


end
local macro_rules | `(tactic| k_all) => `(tactic| first
  | exact allNe_of (by assumption)
  | exact allNe_of (And.right (by assumption))
  | exact allNe_of (And.right (And.right (by assumption)))
  | exact allNe_of (And.right (And.right (And.right (by assumption))))
  | exact allNe_of (And.right (And.right (And.right (And.right (by assumption)))))
  | exact allNe_of (And.right (And.right (And.right (And.right (And.right (by assumption))))))
  | assumption
  | exact allNe_lt (by assumption))
section
/-- each group of walks starts as in a fresh process: open_top leaves a switch on, and the lines of the group before are dropped -/
theorem walk_off1 : True := by w_top off; k_with_none; trivial
theorem walk_line1 : True := by
  k_with "m enter" => (refine' code_def ?k1 ?k2 ?k3 ?k4 ?k5 ?kA ?kF ?kK ?k6 ?k7 ?k8 ?k9 ?kB ?_ ?c2 ?c3 ?c4 ?c5; (case kA => exact rfl); (case kF => assumption); (case kK => assumption); (case k1 => k_asm); (case k2 => k_asm); (case k3 => k_asm); (case k4 => k_asm); (case k5 => k_asm); (case k6 => k_is); (case k7 => k_is); (case k8 => ktr_room); (case k9 => exact BindsTo.of_eq rfl); (case kB => exact locs rfl); (case c2 => exact rfl); (case c3 => exact rfl); (case c4 => exact rfl); (case c5 => decide); k_whole; intro g' L' h' FG' F' N' B' X' T'; (try dsimp only); (try k_fold))
  k_with "m ne" => (intro p hp; simp only [List.mem_cons, List.not_mem_nil, or_false] at hp; first | (subst hp; refine neN ?_; dsimp only; omega) | (rcases hp with h | h | h <;> (subst h; refine neN ?_; dsimp only; omega)))
  k_with "m for" => ((rename Fr _ _ _ _ => lF'); (with_unfolding_all refine' For_invVF lF' ?k1 ?k2 ?_; (case k1 => exact rfl); (case k2 => exact rfl); k_whole))
  k_with "m units" => (have hcL9 := cLine_is; (try simp only [units_in1, units_deeper, Around.mark_units, units_caller] at *); (try dsimp only [top] at *); omega)
  k_with "compareOp Eq ref ref" => (k_here; (with_reducible show wpAny _ _ (compareOp CmpOp.Eq (Value.ref _) (Value.ref _)) _ _ _); (with_unfolding_all refine' eq_intsK ?k1 ?k2 ?k3 ?k4 ?k5 ?_; (case k1 => is_list); (case k2 => l_intsC); (case k3 => is_list); (case k4 => l_intsC); (case k5 => walk_at "m units"); k_whole); (try simp only [filter_tt]))
  trivial
set_option maxHeartbeats 4000000 in
theorem ladle_spec {w : World} {mean : ExcName → Option Value} {mg mb : Str → Option Value}
    {dp un : Nat} {gd : Option (List Code)} {env : Env} {outer : List Env} {A₀ : Around} {base h₀ : Heap} {L : Addr} {m : Str → Option Value}
    {s : Shared} {Q E : Value → Shared → Prop} {rest : List (Addr × Obj)}
    {p0 l : Addr} {vs : List Value} {ns : List Int} {n1 n2 : Nat} {k : Int} {tk : Tok} {lim : Int} {tl : Tok}
    (B : Below A₀ base outer h₀) (F : Fr h₀ L s.heap m) (X : (Mine.hd.heap_39 w.params).In h₀)
    (N : News h₀ L s.heap ((p0, listOf #[.ref l, .int k tk] n1) :: (l, listOf vs.toArray n2) :: rest))
    (T : Top Mine.hd.view_39 (looseW Mine.hd.view_39 [Str.ofString "MOST_TOTAL"]) mean mg mb h₀)
    (hfr : env.frame = some L) (hk : env.scope.kind = .function) (hd : dp + 1 < recursionLimit) (hu : un + 8 < cLine)
    (h0 : 0 ≤ k) (h1 : k < 2 ^ 62) (hi : IntsAre vs ns) (hsz : ns.length < 2 ^ 62) (hlim : 0 < lim) (hne : @Ne Nat p0 l) (hap : AllNe p0 rest)
    (hret : ∀ (r : Int) t t' h' tk', 0 ≤ r → r < lim → Fr h₀ L h' m → News h₀ L h' ((p0, listOf #[.ref l, .int (k + 1) t'] n1) :: (l, listOf vs.toArray n2) :: rest) → Q (.int r t) { s with heap := h', toks := tk' }) :
    wpAny (model PySem.Challenge.rw_pq1397_01.row.prog w) (top dp un gd env outer) (call (.ref 157) [.ref p0, .int lim tl]) Q E s := by
  have hfill : ((Mine.hd.heap_39 w.params).In h₀ → PySem.Challenge.rw_pq1397_01.row.prog = PySem.Challenge.rw_pq1397_01.row.prog) := by k_fill; intro _; rfl
  clear hfill
  refine wpAny_call ?_
  k_dflt (walk_at "m enter")
  k_steps
  · exact hret _ _ _ _ _ (Int.le_refl 0) hlim (by k_asm) (by k_asm)
  · exact hret _ _ _ _ _ (Int.fmod_nonneg_of_pos _ hlim) (Int.fmod_lt_of_pos _ hlim) (by k_asm) (by k_asm)


end
section
/-- each group of walks starts as in a fresh process: open_top leaves a switch on, and the lines of the group before are dropped -/
theorem walk_off2 : True := by w_top off; k_with_none; trivial
/-- n over q, cut towards nought, as the law reckons it -/
def cut (n q : Int) : Int := if 0 ≤ n then n.fdiv q else -((-n).fdiv q)
theorem cut_pos {n q : Int} (h : 0 ≤ n) : cut n q = n.fdiv q := if_pos h
theorem cut_neg {n q : Int} (h : ¬ 0 ≤ n) : cut n q = -((-n).fdiv q) := if_neg h
/-- what an item is as an extent: the whole part, or the fault (true: missing, false: negative) -/
def ext : Item → Except Bool Int
  | none => .error true
  | some (n, q) => if q = 0 then .error true else
      if 2147483647 < cut n q ∨ cut n q < -2147483647 then .error true
      else if cut n q < 0 then .error false else .ok (cut n q)
theorem ext_zero {n q : Int} (h : q = 0) : ext (some (n, q)) = .error true := if_pos h
theorem ext_some {n q c : Int} (hq : q ≠ 0) (hc : cut n q = c) : ext (some (n, q)) = if 2147483647 < c ∨ c < -2147483647 then .error true else if c < 0 then .error false else .ok c := by
  subst hc; exact if_neg hq
theorem ext_pos {n q : Int} (hq : q ≠ 0) (h : 0 ≤ n) : ext (some (n, q)) = if 2147483647 < n.fdiv q ∨ n.fdiv q < -2147483647 then .error true else if n.fdiv q < 0 then .error false else .ok (n.fdiv q) := ext_some hq (cut_pos h)
theorem ext_neg {n q : Int} (hq : q ≠ 0) (h : ¬ 0 ≤ n) : ext (some (n, q)) = if 2147483647 < -((-n).fdiv q) ∨ -((-n).fdiv q) < -2147483647 then .error true else if -((-n).fdiv q) < 0 then .error false else .ok (-((-n).fdiv q)) := ext_some hq (cut_neg h)
def msg : Bool → Str
  | true => Str.ofString "the dims contain missing values"
  | false => Str.ofString "the dims contain negative values"
/-- what extent hands back -/
def extVal (t : Tok) (d : Item) : Value := match ext d with
  | .error b => .str (msg b) t
  | .ok k => .int k t
theorem fin_err {Q : Value → Shared → Prop} {t : Tok} {d : Item} {b : Bool} {s' : Shared} (e : ext d = .error b) (h : Q (extVal t d) s') : Q (.str (msg b) t) s' := by
  rw [show extVal t d = .str (msg b) t by unfold extVal; rw [e]] at h; exact h
theorem fin_ok {Q : Value → Shared → Prop} {t : Tok} {d : Item} {k : Int} {s' : Shared} (e : ext d = .ok k) (h : Q (extVal t d) s') : Q (.int k t) s' := by
  rw [show extVal t d = .int k t by unfold extVal; rw [e]] at h; exact h

theorem walk_line2 : True := by
  k_with "m enter" => (refine' code_def ?k1 ?k2 ?k3 ?k4 ?k5 ?kA ?kF ?kK ?k6 ?k7 ?k8 ?k9 ?kB ?_ ?c2 ?c3 ?c4 ?c5; (case kA => exact rfl); (case kF => assumption); (case kK => assumption); (case k1 => k_asm); (case k2 => k_asm); (case k3 => k_asm); (case k4 => k_asm); (case k5 => k_asm); (case k6 => k_is); (case k7 => k_is); (case k8 => ktr_room); (case k9 => exact BindsTo.of_eq rfl); (case kB => exact locs rfl); (case c2 => exact rfl); (case c3 => exact rfl); (case c4 => exact rfl); (case c5 => decide); k_whole; intro g' L' h' FG' F' N' B' X' T'; (try dsimp only); (try k_fold))
  k_with "m ne" => (intro p hp; simp only [List.mem_cons, List.not_mem_nil, or_false] at hp; first | (subst hp; refine neN ?_; dsimp only; omega) | (rcases hp with h | h | h <;> (subst h; refine neN ?_; dsimp only; omega)))
  k_with "m for" => ((rename Fr _ _ _ _ => lF'); (with_unfolding_all refine' For_invVF lF' ?k1 ?k2 ?_; (case k1 => exact rfl); (case k2 => exact rfl); k_whole))
  k_with "m units" => (have hcL9 := cLine_is; (try simp only [units_in1, units_deeper, Around.mark_units, units_caller] at *); (try dsimp only [top] at *); omega)
  k_with "compareOp Eq ref ref" => (k_here; (with_reducible show wpAny _ _ (compareOp CmpOp.Eq (Value.ref _) (Value.ref _)) _ _ _); (with_unfolding_all refine' eq_intsK ?k1 ?k2 ?k3 ?k4 ?k5 ?_; (case k1 => is_list); (case k2 => l_intsC); (case k3 => is_list); (case k4 => l_intsC); (case k5 => walk_at "m units"); k_whole); (try simp only [filter_tt]))
  trivial
set_option maxHeartbeats 4000000 in
theorem extent_spec {w : World} {mean : ExcName → Option Value} {mg mb : Str → Option Value}
    {dp un : Nat} {gd : Option (List Code)} {env : Env} {outer : List Env} {A₀ : Around} {base h₀ : Heap} {L : Addr} {m : Str → Option Value}
    {s : Shared} {Q E : Value → Shared → Prop} {rest : List (Addr × Obj)}
    {v : Value} {d : Item}
    (B : Below A₀ base outer h₀) (F : Fr h₀ L s.heap m) (X : (Mine.hd.heap_39 w.params).In h₀)
    (N : News h₀ L s.heap rest)
    (T : Top Mine.hd.view_39 (looseW Mine.hd.view_39 [Str.ofString "MOST_TOTAL"]) mean mg mb h₀)
    (hfr : env.frame = some L) (hk : env.scope.kind = .function) (hd : dp + 1 < recursionLimit) (hu : un + 8 < cLine)
    (hi : ItemIn rest v d) (hok : ItemOk d)
    (hret : ∀ t h' tk', Fr h₀ L h' m → News h₀ L h' rest → Q (extVal t d) { s with heap := h', toks := tk' }) :
    wpAny (model PySem.Challenge.rw_pq1397_01.row.prog w) (top dp un gd env outer) (call (.ref 171) [v]) Q E s := by
  have hfill : ((Mine.hd.heap_39 w.params).In h₀ → PySem.Challenge.rw_pq1397_01.row.prog = PySem.Challenge.rw_pq1397_01.row.prog) := by k_fill; intro _; rfl
  clear hfill
  match d, hi, hok with
  | none, hi, _ =>
    have hi : v = .none := hi
    subst hi
    refine wpAny_call ?_
    k_dflt (walk_at "m enter")
    k_steps
    all_goals ((rename Fr _ _ _ _ => kF9); (rename News _ _ _ _ => kN9))
    exact fin_err (b := true) (d := none) rfl (hret _ _ _ kF9 kN9)
  | some (n, q), ⟨a, t, u, c, e, hm⟩, ⟨hq0, hq1⟩ =>
    subst e
    refine wpAny_call ?_
    k_dflt (walk_at "m enter")
    k_steps
    all_goals ((rename Fr _ _ _ _ => kF9); (rename News _ _ _ _ => kN9))
    all_goals first
      | (refine fin_err (b := true) ?_ (hret _ _ _ kF9 kN9); first | (refine ext_zero ?_; assumption) | ((first | (refine (ext_pos ?x ?y).trans ?z; (case y => assumption)) | (refine (ext_neg ?x ?y).trans ?z; (case y => assumption))); (case x => assumption); (case z => ((repeat' split) <;> first | rfl | (exfalso; omega)))))
      | (refine fin_err (b := false) ?_ (hret _ _ _ kF9 kN9); ((first | (refine (ext_pos ?x ?y).trans ?z; (case y => assumption)) | (refine (ext_neg ?x ?y).trans ?z; (case y => assumption))); (case x => assumption); (case z => ((repeat' split) <;> first | rfl | (exfalso; omega)))))
      | (refine fin_ok ?_ (hret _ _ _ kF9 kN9); ((first | (refine (ext_pos ?x ?y).trans ?z; (case y => assumption)) | (refine (ext_neg ?x ?y).trans ?z; (case y => assumption))); (case x => assumption); (case z => ((repeat' split) <;> first | rfl | (exfalso; omega)))))
      | fail "none"

theorem extent_ok {w : World} {mean : ExcName → Option Value} {mg mb : Str → Option Value}
    {dp un : Nat} {gd : Option (List Code)} {env : Env} {outer : List Env} {A₀ : Around} {base h₀ : Heap} {L : Addr} {m : Str → Option Value}
    {s : Shared} {Q E : Value → Shared → Prop} {rest : List (Addr × Obj)}
    {v : Value} {d : Item} {k : Int} (B : Below A₀ base outer h₀) (F : Fr h₀ L s.heap m) (X : (Mine.hd.heap_39 w.params).In h₀)
    (T : Top Mine.hd.view_39 (looseW Mine.hd.view_39 [Str.ofString "MOST_TOTAL"]) mean mg mb h₀)
    (hfr : env.frame = some L) (hk : env.scope.kind = .function) (N : News h₀ L s.heap rest) (hd : dp + 1 < recursionLimit) (hu : un + 8 < cLine)
    (hi : ItemIn rest v d) (hok : ItemOk d) (he : ext d = .ok k)
    (hret : ∀ t h' tk', Fr h₀ L h' m → News h₀ L h' rest → Q (.int k t) { s with heap := h', toks := tk' }) :
    wpAny (model PySem.Challenge.rw_pq1397_01.row.prog w) (top dp un gd env outer) (call (.ref 171) [v]) Q E s :=
  extent_spec B F X N T hfr hk hd hu hi hok fun t h' tk' F' N' => by
    rw [show extVal t d = .int k t by unfold extVal; rw [he]]; exact hret t h' tk' F' N'
theorem extent_er {w : World} {mean : ExcName → Option Value} {mg mb : Str → Option Value}
    {dp un : Nat} {gd : Option (List Code)} {env : Env} {outer : List Env} {A₀ : Around} {base h₀ : Heap} {L : Addr} {m : Str → Option Value}
    {s : Shared} {Q E : Value → Shared → Prop} {rest : List (Addr × Obj)}
    {v : Value} {d : Item} {b : Bool} (B : Below A₀ base outer h₀) (F : Fr h₀ L s.heap m) (X : (Mine.hd.heap_39 w.params).In h₀)
    (T : Top Mine.hd.view_39 (looseW Mine.hd.view_39 [Str.ofString "MOST_TOTAL"]) mean mg mb h₀)
    (hfr : env.frame = some L) (hk : env.scope.kind = .function) (N : News h₀ L s.heap rest) (hd : dp + 1 < recursionLimit) (hu : un + 8 < cLine)
    (hi : ItemIn rest v d) (hok : ItemOk d) (he : ext d = .error b)
    (hret : ∀ t h' tk', Fr h₀ L h' m → News h₀ L h' rest → Q (.str (msg b) t) { s with heap := h', toks := tk' }) :
    wpAny (model PySem.Challenge.rw_pq1397_01.row.prog w) (top dp un gd env outer) (call (.ref 171) [v]) Q E s :=
  extent_spec B F X N T hfr hk hd hu hi hok fun t h' tk' F' N' => by
    rw [show extVal t d = .str (msg b) t by unfold extVal; rw [he]]; exact hret t h' tk' F' N'


end
section
/-- each group of walks starts as in a fresh process: open_top leaves a switch on, and the lines of the group before are dropped -/
theorem walk_off3 : True := by w_top off; k_with_none; trivial
/-- the ledger bears the items ds at vs, one by one -/
inductive ItemsIn (news : List (Addr × Obj)) : List Value → List Item → Prop
  | nil : ItemsIn news [] []
  | cons {v : Value} {d : Item} {vs : List Value} {ds : List Item} : ItemIn news v d → ItemOk d → ItemsIn news vs ds → ItemsIn news (v :: vs) (d :: ds)
theorem ItemsIn.mono {l l' : List (Addr × Obj)} {vs : List Value} {ds : List Item} (h : ItemsIn l vs ds) (hs : ∀ p ∈ l, p ∈ l') : ItemsIn l' vs ds := by
  induction h with
  | nil => exact .nil
  | cons h o _ ih => exact .cons (h.mono hs) o ih
theorem ItemsIn.length {l : List (Addr × Obj)} {vs : List Value} {ds : List Item} (h : ItemsIn l vs ds) : vs.length = ds.length := by
  induction h with
  | nil => rfl
  | cons _ _ _ ih => rw [List.length_cons, List.length_cons, ih]
theorem ItemsIn.get {l : List (Addr × Obj)} {vs : List Value} {ds : List Item} (h : ItemsIn l vs ds) {i : Nat} {v : Value} (hv : vs[i]? = some v) : ∃ d, ds[i]? = some d ∧ ItemIn l v d ∧ ItemOk d := by
  induction h generalizing i with
  | nil => cases hv
  | cons h o _ ih =>
    cases i with
    | zero => cases hv; exact ⟨_, rfl, h, o⟩
    | succ i => exact ih hv
/-- the extents of all items, or the first fault -/
def extAll : List Item → Except Bool (List Int)
  | [] => .ok []
  | d :: r => match ext d with
    | .error b => .error b
    | .ok k => match extAll r with
      | .error b => .error b
      | .ok ks => .ok (k :: ks)
def strInt (k : Int) : Str := Str.ofString (toString k)
def prodL (ks : List Int) : Int := ks.foldl (· * ·) 1
def told (p : Int) : Str := if 1000000000000000000 < p then Str.ofString "beyond 1e+18" else strInt p
def badDims (p many : Int) : Str := Str.ofString "dims [product " ++ told p ++ Str.ofString "] do not match the length of object [" ++ strInt many ++ Str.ofString "]"
/-- what is due: the extents, or a text -/
def due (ds : List Item) (many : Int) : Except Str (List Int) := match extAll ds with
  | .error b => .error (msg b)
  | .ok ks => if ks = [] then .error (Str.ofString "length-0 dimension vector is invalid") else if prodL ks = many then .ok ks else .error (badDims (prodL ks) many)

theorem ints_snoc {ws : List Value} {ks : List Int} {k : Int} {t : Tok} (h : IntsAre ws ks) : IntsAre (ws ++ [.int k t]) (ks ++ [k]) := by
  induction h with
  | nil => exact .cons k t .nil
  | cons i u _ ih => exact .cons i u ih
/-- a turn's end of a loop that fills one list of ints -/
def EndA (h₀ : Heap) (L : Addr) (x y : Str) (m₀ : Str → Option Value) (fa : Addr) (rest own : List (Addr × Obj)) (ks : List Int) (d : Item) (s s₂ : Shared) : Prop :=
  ∃ k ws n m' h' tk, ext d = .ok k ∧ IntsAre ws (ks ++ [k]) ∧ s₂ = { s with heap := h', toks := tk } ∧ Fr h₀ L h' m' ∧ (∀ z, z ≠ x → z ≠ y → m' z = m₀ z) ∧ News h₀ L h' ((fa, listOf ws.toArray n) :: (rest ++ own))
def PostA (Q : Flow → Shared → Prop) (e : Shared → Prop) (f : Flow) (s₂ : Shared) : Prop := match f with
  | .ret v => Q (.ret v) s₂
  | .brk => False
  | _ => e s₂
theorem extAll_snoc {ds : List Item} {ks : List Int} {d : Item} {k : Int} (h : extAll ds = .ok ks) (hd : ext d = .ok k) : extAll (ds ++ [d]) = .ok (ks ++ [k]) := by
  induction ds generalizing ks with
  | nil => cases h; simp [extAll, hd]
  | cons c r ih =>
    simp only [extAll, List.cons_append] at h ⊢
    cases hc : ext c with
    | error b => rw [hc] at h; cases h
    | ok j =>
      rw [hc] at h
      cases hr : extAll r with
      | error b => rw [hr] at h; cases h
      | ok js => rw [hr] at h; cases h; rw [ih hr]; rfl
theorem extAll_err {ds : List Item} {ks : List Int} {d : Item} {b : Bool} {post : List Item} (h : extAll ds = .ok ks) (hd : ext d = .error b) : extAll (ds ++ d :: post) = .error b := by
  induction ds generalizing ks with
  | nil => simp [extAll, hd]
  | cons c r ih =>
    simp only [extAll, List.cons_append] at h ⊢
    cases hc : ext c with
    | error b => rw [hc] at h; cases h
    | ok j =>
      rw [hc] at h
      cases hr : extAll r with
      | error b => rw [hr] at h; cases h
      | ok js => rw [ih hr]
theorem take_snoc {α : Type} {l : List α} {i : Nat} {a : α} (h : l[i]? = some a) : l.take (i + 1) = l.take i ++ [a] := by
  rw [List.take_add_one, h]; rfl
theorem take_split {α : Type} {l : List α} {i : Nat} {a : α} (h : l[i]? = some a) : l = l.take i ++ a :: l.drop (i + 1) := by
  have e := List.take_append_drop (i + 1) l
  rw [take_snoc h, List.append_assoc] at e
  exact e.symm
section
variable {prog : Program} {w : World} {A : Around} {E : Value → Shared → Prop} {s : Shared} {env : Env} {h₀ : Heap} {body : List Stmt} {Q : Flow → Shared → Prop}
theorem loopA {x y : Str} {l fa : Addr} {vs : List Value} {nn n0 : Nat} {ds : List Item} {m₀ : Str → Option Value} {rest : List (Addr × Obj)}
    (hh : A.handled = none) (hl : (l, listOf vs.toArray nn) ∈ rest) (hi : ItemsIn rest vs ds) (hf : AllNe fa rest)
    (F : Fr h₀ env.locals s.heap m₀) (N : News h₀ env.locals s.heap ((fa, listOf (([] : List Value)).toArray n0) :: rest))
    (turn : ∀ i d v ks ws n (u : Option Value) h tk own, ds[i]? = some d → extAll (ds.take i) = .ok ks → IntsAre ws ks → ks.length < ds.length → ItemIn (rest ++ own) v d → ItemOk d → AllNe fa (rest ++ own) →
      Fr h₀ env.locals h (fun z => if z = x then some v else if z = y then u else m₀ z) → News h₀ env.locals h ((fa, listOf ws.toArray n) :: (rest ++ own)) →
      wpAny (model prog w) A (execs body env) (PostA Q (EndA h₀ env.locals x y m₀ fa rest own ks d { s with heap := h, toks := tk })) E { s with heap := h, toks := tk })
    (done : ∀ ks ws n (u1 u2 : Option Value) h tk, extAll ds = .ok ks → IntsAre ws ks →
      Fr h₀ env.locals h (fun z => if z = x then u1 else if z = y then u2 else m₀ z) → News h₀ env.locals h ((fa, listOf ws.toArray n) :: rest) → Q .next { s with heap := h, toks := tk }) :
    wpAny (model prog w) A (pyIter (.ref l)) (fun it s₂ => LoopAtV prog w A h₀ env x body Q E it s₂) E s := by
  have key : ∀ {m₁ : Str → Option Value}, (∀ z, z ≠ x → z ≠ y → m₁ z = m₀ z) → m₁ = fun z => if z = x then m₁ x else if z = y then m₁ y else m₀ z := by
    intro m₁ hm
    funext z
    by_cases h : z = x
    · subst h; simp
    · by_cases h' : z = y
      · subst h'; simp [h]
      · simp [h, h', hm z h h']
  refine kdl_iter (fun i m₁ nx => ∃ ks ws n, extAll (ds.take i) = .ok ks ∧ ks.length = i ∧ IntsAre ws ks ∧ (∀ z, z ≠ x → z ≠ y → m₁ z = m₀ z) ∧ nx = (fa, listOf ws.toArray n) :: rest) hh (List.mem_cons_of_mem _ hl) F N ⟨[], [], n0, rfl, rfl, .nil, fun _ _ _ => rfl, rfl⟩ ?_ ?_
  · rintro i v m₁ nx h tk own hv hoff _ ⟨ks, ws, n, he, hlen, hws, hm, rfl⟩ F₁ N₁
    obtain ⟨d, hd, hI, hO⟩ := hi.get hv
    have hlt : i < ds.length := (List.getElem?_eq_some_iff.mp hd).1
    have hne : AllNe fa (rest ++ own) := by
      intro p hp
      rcases List.mem_append.mp hp with hp | hp
      · exact hf p hp
      · exact hoff p hp fa (by simp)
    have F₂ : Fr h₀ env.locals h (fun z => if z = x then some v else if z = y then m₁ y else m₀ z) := by
      have e : (fun z => if z = x then some v else m₁ z) = fun z => if z = x then some v else if z = y then m₁ y else m₀ z := by
        funext z
        by_cases h1 : z = x
        · simp [h1]
        · by_cases h2 : z = y
          · subst h2; simp [h1]
          · simp [h1, h2, hm z h1 h2]
      rw [← e]; exact F₁
    refine wpAny_mono (turn i d v ks ws n (m₁ y) h tk own hd he hws (by omega) (hI.mono fun p hp => List.mem_append_left _ hp) hO hne F₂ (by simpa using N₁)) (fun f s₂ p => ?_) fun _ _ e => e
    have fin : EndA h₀ env.locals x y m₀ fa rest own ks d { s with heap := h, toks := tk } s₂ → InvEndG h₀ env.locals (fun m' nx => (l, listOf vs.toArray nn) ∈ nx ∧ ∃ ks ws n, extAll (ds.take (i + 1)) = .ok ks ∧ ks.length = i + 1 ∧ IntsAre ws ks ∧ (∀ z, z ≠ x → z ≠ y → m' z = m₀ z) ∧ nx = (fa, listOf ws.toArray n) :: rest) own { s with heap := h, toks := tk } s₂ := by
      rintro ⟨k, ws', n', m', h', tk', hk, hws', rfl, F', hm', N'⟩
      refine ⟨h', tk', m', _, (fa, listOf ws'.toArray n') :: rest, rfl, F', N', fun p hp => ?_, fun p hp => ?_, fun p hp b hb => ?_, List.mem_cons_of_mem _ hl, ks ++ [k], ws', n', ?_, by simp [hlen], hws', hm', rfl⟩
      · rcases List.mem_cons.mp hp with rfl | hp
        · exact .head _
        · exact .tail _ (List.mem_append_left _ hp)
      · exact .tail _ (List.mem_append_right _ hp)
      · exact hoff p hp b (by simpa using hb)
      · rw [take_snoc hd]; exact extAll_snoc he hk
    cases f with
    | ret v => exact p
    | brk => exact p.elim
    | next => exact fin p
    | cont => exact fin p
  · rintro m₁ nx h tk ⟨ks, ws, n, he, hlen, hws, hm, rfl⟩ F₁ N₁
    have hl' := hi.length
    rw [hl', List.take_length] at he
    refine done ks ws n (m₁ x) (m₁ y) h tk he hws ?_ N₁
    rw [← key hm]; exact F₁
end

theorem ext_range {d : Item} {k : Int} (h : ext d = .ok k) : 0 ≤ k ∧ k ≤ 2147483647 := by
  match d with
  | none => cases h
  | some (n, q) =>
    by_cases hq : q = 0
    · rw [ext_zero hq] at h; cases h
    · rw [ext_some hq rfl] at h
      split at h
      · cases h
      · split at h
        · cases h
        · cases h; omega
theorem extAll_range {ds : List Item} {ks : List Int} (h : extAll ds = .ok ks) : ∀ k ∈ ks, 0 ≤ k ∧ k ≤ 2147483647 := by
  induction ds generalizing ks with
  | nil => cases h; intro k hk; cases hk
  | cons d r ih =>
    simp only [extAll] at h
    cases hd : ext d with
    | error b => rw [hd] at h; cases h
    | ok j =>
      rw [hd] at h
      cases hr : extAll r with
      | error b => rw [hr] at h; cases h
      | ok js =>
        rw [hr] at h; cases h
        intro k hk
        rcases List.mem_cons.mp hk with rfl | hk
        · exact ext_range hd
        · exact ih hr k hk
theorem extAll_length {ds : List Item} {ks : List Int} (h : extAll ds = .ok ks) : ks.length = ds.length := by
  induction ds generalizing ks with
  | nil => cases h; rfl
  | cons d r ih =>
    simp only [extAll] at h
    cases hd : ext d with
    | error b => rw [hd] at h; cases h
    | ok j =>
      rw [hd] at h
      cases hr : extAll r with
      | error b => rw [hr] at h; cases h
      | ok js => rw [hr] at h; cases h; simp [ih hr]
def EndB (h₀ : Heap) (L : Addr) (x y : Str) (m₀ : Str → Option Value) (news : List (Addr × Obj)) (J : Int → Prop) (s s₂ : Shared) : Prop :=
  ∃ a ta m' h' tk, J a ∧ s₂ = { s with heap := h', toks := tk } ∧ Fr h₀ L h' m' ∧ m' y = some (.int a ta) ∧ (∀ z, z ≠ x → z ≠ y → m' z = m₀ z) ∧ News h₀ L h' news
theorem prodL_snoc (ks : List Int) (k : Int) : prodL (ks ++ [k]) = prodL ks * k := by simp [prodL]
section
variable {prog : Program} {w : World} {A : Around} {E : Value → Shared → Prop} {s : Shared} {env : Env} {h₀ : Heap} {body : List Stmt} {Q : Flow → Shared → Prop}
theorem loopB {x y : Str} (hxy : x ≠ y) {l : Addr} {ws : List Value} {ks : List Int} {nn : Nat} {m₀ : Str → Option Value} {news : List (Addr × Obj)} {a₀ : Int} {t₀ : Tok} (J : Nat → Int → Prop)
    (hh : A.handled = none) (hl : (l, listOf ws.toArray nn) ∈ news) (hi : IntsAre ws ks) (F : Fr h₀ env.locals s.heap m₀) (hy : m₀ y = some (.int a₀ t₀)) (N : News h₀ env.locals s.heap news) (hj : J 0 a₀)
    (turn : ∀ i k t a ta h tk own, ks[i]? = some k → J i a →
      Fr h₀ env.locals h (fun z => if z = x then some (.int k t) else if z = y then some (.int a ta) else m₀ z) → News h₀ env.locals h (news ++ own) →
      wpAny (model prog w) A (execs body env) (PostA Q (EndB h₀ env.locals x y m₀ (news ++ own) (J (i + 1)) { s with heap := h, toks := tk })) E { s with heap := h, toks := tk })
    (done : ∀ a ta (u : Option Value) h tk, J ks.length a → Fr h₀ env.locals h (fun z => if z = x then u else if z = y then some (.int a ta) else m₀ z) → News h₀ env.locals h news → Q .next { s with heap := h, toks := tk }) :
    wpAny (model prog w) A (pyIter (.ref l)) (fun it s₂ => LoopAtV prog w A h₀ env x body Q E it s₂) E s := by
  refine kdl_iter (fun i m₁ nx => ∃ a ta, J i a ∧ m₁ y = some (.int a ta) ∧ (∀ z, z ≠ x → z ≠ y → m₁ z = m₀ z) ∧ nx = news) hh hl F N ⟨a₀, t₀, hj, hy, fun _ _ _ => rfl, rfl⟩ ?_ ?_
  · rintro i v m₁ nx h tk own hv hoff _ ⟨a, ta, ha, hm1, hm, rfl⟩ F₁ N₁
    have hi' : i < ks.length := by rw [← hi.length]; exact (List.getElem?_eq_some_iff.mp hv).1
    obtain ⟨t, hx⟩ := hi.get i (ks[i]'hi') (List.getElem?_eq_getElem hi')
    have ev : v = .int (ks[i]'hi') t := by rw [hx] at hv; exact (Option.some.inj hv).symm
    subst ev
    have F₂ : Fr h₀ env.locals h (fun z => if z = x then some (.int (ks[i]'hi') t) else if z = y then some (.int a ta) else m₀ z) := by
      have e : (fun z => if z = x then some (Value.int (ks[i]'hi') t) else m₁ z) = fun z => if z = x then some (.int (ks[i]'hi') t) else if z = y then some (.int a ta) else m₀ z := by
        funext z
        by_cases h1 : z = x
        · simp [h1]
        · by_cases h2 : z = y
          · subst h2; simp [h1, hm1]
          · simp [h1, h2, hm z h1 h2]
      rw [← e]; exact F₁
    refine wpAny_mono (turn i _ t a ta h tk own (List.getElem?_eq_getElem hi') ha F₂ N₁) (fun f s₂ p => ?_) fun _ _ e => e
    have fin : EndB h₀ env.locals x y m₀ (nx ++ own) (J (i + 1)) { s with heap := h, toks := tk } s₂ → InvEndG h₀ env.locals (fun m' n' => (l, listOf ws.toArray nn) ∈ n' ∧ ∃ a ta, J (i + 1) a ∧ m' y = some (.int a ta) ∧ (∀ z, z ≠ x → z ≠ y → m' z = m₀ z) ∧ n' = nx) own { s with heap := h, toks := tk } s₂ := by
      rintro ⟨a', ta', m', h', tk', ha', rfl, F', hy', hm', N'⟩
      exact ⟨h', tk', m', _, nx, rfl, F', N', fun p hp => List.mem_append_left _ hp, fun p hp => List.mem_append_right _ hp, hoff, hl, a', ta', ha', hy', hm', rfl⟩
    cases f with
    | ret v => exact p
    | brk => exact p.elim
    | next => exact fin p
    | cont => exact fin p
  · rintro m₁ nx h tk ⟨a, ta, ha, hm1, hm, rfl⟩ F₁ N₁
    rw [hi.length] at ha
    refine done a ta (m₁ x) h tk ha ?_ N₁
    have e : m₁ = fun z => if z = x then m₁ x else if z = y then some (.int a ta) else m₀ z := by
      funext z
      by_cases h1 : z = x
      · subst h1; simp
      · by_cases h2 : z = y
        · subst h2; simp [h1, hm1]
        · simp [h1, h2, hm z h1 h2]
    rw [← e]; exact F₁
end
theorem foldl_mul_nonneg : ∀ (ks : List Int) (a : Int), 0 ≤ a → (∀ k ∈ ks, 0 ≤ k) → 0 ≤ ks.foldl (· * ·) a
  | [], _, h, _ => h
  | k :: r, a, h, hk => foldl_mul_nonneg r (a * k) (Int.mul_nonneg h (hk k (.head _))) fun j hj => hk j (.tail _ hj)
theorem prodL_nonneg {ks : List Int} (h : ∀ k ∈ ks, 0 ≤ k ∧ k ≤ 2147483647) : 0 ≤ prodL ks := foldl_mul_nonneg ks 1 (by decide) fun k hk => (h k hk).1
theorem strlen {n : Int} (h0 : 0 ≤ n) (h1 : n ≤ 1000000000000000000) : (Str.ofString (toString n)).length ≤ 19 := toString_length_le h0 (by decide) (by omega)
theorem due_ok {ds : List Item} {ks : List Int} {many : Int} (he : extAll ds = .ok ks) (h0 : decide (ks = []) = false) (h : prodL ks = many) : due ds many = .ok ks := by
  unfold due; rw [he]; dsimp only; rw [if_neg (of_decide_eq_false h0), if_pos h]
theorem due_bad {ds : List Item} {ks : List Int} {many : Int} (he : extAll ds = .ok ks) (h0 : decide (ks = []) = false) (h : prodL ks ≠ many) : due ds many = .error (badDims (prodL ks) many) := by
  unfold due; rw [he]; dsimp only; rw [if_neg (of_decide_eq_false h0), if_neg h]
theorem bad_big {p many : Int} (h : ¬ p ≤ 1000000000000000000) : badDims p many = Str.ofString "dims [product " ++ Str.ofString "beyond 1e+18" ++ Str.ofString "] do not match the length of object [" ++ Str.ofString (toString many) ++ Str.ofString "]" := by
  unfold badDims told strInt; rw [if_pos (by omega)]
theorem bad_small {p many : Int} (h : p ≤ 1000000000000000000) : badDims p many = Str.ofString "dims [product " ++ Str.ofString (toString p) ++ Str.ofString "] do not match the length of object [" ++ Str.ofString (toString many) ++ Str.ofString "]" := by
  unfold badDims told strInt; rw [if_neg (by omega)]


end
section
/-- each group of walks starts as in a fresh process: open_top leaves a switch on, and the lines of the group before are dropped -/
theorem walk_off4 : True := by w_top off; k_with_none; trivial
theorem walk_line3 : True := by
  k_with "m enter" => (refine' code_def ?k1 ?k2 ?k3 ?k4 ?k5 ?kA ?kF ?kK ?k6 ?k7 ?k8 ?k9 ?kB ?_ ?c2 ?c3 ?c4 ?c5; (case kA => exact rfl); (case kF => assumption); (case kK => assumption); (case k1 => k_asm); (case k2 => k_asm); (case k3 => k_asm); (case k4 => k_asm); (case k5 => k_asm); (case k6 => k_is); (case k7 => k_is); (case k8 => ktr_room); (case k9 => exact BindsTo.of_eq rfl); (case kB => exact locs rfl); (case c2 => exact rfl); (case c3 => exact rfl); (case c4 => exact rfl); (case c5 => decide); k_whole; intro g' L' h' FG' F' N' B' X' T'; (try dsimp only); (try k_fold))
  k_with "m ne" => (intro p hp; simp only [List.mem_cons, List.not_mem_nil, or_false] at hp; first | (subst hp; refine neN ?_; dsimp only; omega) | (rcases hp with h | h | h <;> (subst h; refine neN ?_; dsimp only; omega)))
  k_with "m for" => ((rename Fr _ _ _ _ => lF'); (with_unfolding_all refine' For_invVF lF' ?k1 ?k2 ?_; (case k1 => exact rfl); (case k2 => exact rfl); k_whole))
  k_with "m units" => (have hcL9 := cLine_is; (try simp only [units_in1, units_deeper, Around.mark_units, units_caller] at *); (try dsimp only [top] at *); omega)
  k_with "compareOp Eq ref ref" => (k_here; (with_reducible show wpAny _ _ (compareOp CmpOp.Eq (Value.ref _) (Value.ref _)) _ _ _); (with_unfolding_all refine' eq_intsK ?k1 ?k2 ?k3 ?k4 ?k5 ?_; (case k1 => is_list); (case k2 => l_intsC); (case k3 => is_list); (case k4 => l_intsC); (case k5 => walk_at "m units"); k_whole); (try simp only [filter_tt]))
  trivial
theorem itemIn_cons {x : Addr × Obj} {l : List (Addr × Obj)} {v : Value} {d : Item} (h : ItemIn l v d) : ItemIn (x :: l) v d := h.mono fun _ hp => .tail _ hp
theorem walk_line4 : True := by
  k_with "call ref" => (k_here; (with_reducible show wpAny _ _ (PySem.call (Value.ref 171) [_]) _ _ _); k_dflt (first | (refine' extent_ok ?B ?F ?X ?T ?hfr ?hk ?N ?hd ?hu ?hi ?hok ?he ?_; (case he => assumption)) | (refine' extent_er ?B ?F ?X ?T ?hfr ?hk ?N ?hd ?hu ?hi ?hok ?he ?_; (case he => assumption))); (case B => k_asm); (case F => k_asm); (case X => k_asm); (case N => k_asm); (case T => k_asm); (case hfr => first | exact rfl | assumption); (case hk => first | exact rfl | assumption); (case hd => ktr_room); (case hu => ktr_units); (case hi => first | assumption | (refine itemIn_cons ?_; assumption)); (case hok => assumption); k_whole; intro t' h' tk' F' N'; (try dsimp only); (try k_fold))
  trivial
set_option maxHeartbeats 4000000 in
theorem due_spec {w : World} {mean : ExcName → Option Value} {mg mb : Str → Option Value}
    {dp un : Nat} {gd : Option (List Code)} {env : Env} {outer : List Env} {A₀ : Around} {base h₀ : Heap} {L : Addr} {m : Str → Option Value}
    {s : Shared} {Q E : Value → Shared → Prop} {rest : List (Addr × Obj)}
    {li : Addr} {vs : List Value} {nl : Nat} {ds : List Item} {many : Int} {tm : Tok}
    (B : Below A₀ base outer h₀) (F : Fr h₀ L s.heap m) (X : (Mine.hd.heap_39 w.params).In h₀)
    (T : Top Mine.hd.view_39 (looseW Mine.hd.view_39 [Str.ofString "MOST_TOTAL"]) mean mg mb h₀)
    (hfr : env.frame = some L) (hk : env.scope.kind = .function) (N : News h₀ L s.heap rest) (hd : dp + 3 < recursionLimit) (hu : un + 200 < cLine)
    (hl : (li, listOf vs.toArray nl) ∈ rest) (hi : ItemsIn rest vs ds) (hsz : ds.length < 1000) (hm0 : 0 ≤ many) (hm1 : many < 1000)
    (hretE : ∀ e t h' tk', due ds many = .error e → Fr h₀ L h' m → News h₀ L h' rest → Q (.str e t) { s with heap := h', toks := tk' })
    (hretO : ∀ ks a ws n h' tk', due ds many = .ok ks → IntsAre ws ks → AllLt a rest → Fr h₀ L h' m → News h₀ L h' ((a, listOf ws.toArray n) :: rest) → Q (.ref a) { s with heap := h', toks := tk' }) :
    wpAny (model PySem.Challenge.rw_pq1397_01.row.prog w) (top dp un gd env outer) (call (.ref 178) [.ref li, .int many tm]) Q E s := by
  have hfill : ((Mine.hd.heap_39 w.params).In h₀ → PySem.Challenge.rw_pq1397_01.row.prog = PySem.Challenge.rw_pq1397_01.row.prog) := by k_fill; intro _; rfl
  clear hfill
  refine wpAny_call ?_
  k_dflt (refine' code_def ?k1 ?k2 ?k3 ?k4 ?k5 ?kA ?kF ?kK ?k6 ?k7 ?k8 ?k9 ?kB ?_ ?c2 ?c3 ?c4 ?c5; (case kA => exact rfl); (case kF => assumption); (case kK => assumption); (case k1 => k_asm); (case k2 => k_asm); (case k3 => k_asm); (case k4 => k_asm); (case k5 => k_asm); (case k6 => k_is); (case k7 => k_is); (case k8 => ktr_room); (case k9 => exact BindsTo.of_eq rfl); (case kB => exact locs rfl); (case c2 => exact rfl); (case c3 => exact rfl); (case c4 => exact rfl); (case c5 => decide); k_whole; intro g1 L1 h1 FG1 F1 N1 B1 X1 T1; (try dsimp only); (try k_fold))
  k_steps
  walk_at "m for"
  walk1
  rename Fr _ _ _ _ => F2
  rename News _ _ _ _ => N2
  refine loopA (x := Str.ofString "item") (y := Str.ofString "extent") rfl hl hi (allNe_lt (by assumption)) F2 N2 ?_ ?_
  · intro i d v ks ws n u h tk own hdi he hws hlt hI hO hne F3 N3
    cases hE : ext d with
    | error b =>
      try dsimp only
      k_steps
      (try dsimp only [PostA])
      k_steps
      rename Fr _ _ _ _ => F4
      rename News _ _ _ _ => N4
      refine hretE _ _ _ _ ?_ F4 fun p hp => N4 p (.tail _ (List.mem_append_left _ hp))
      rw [show due ds many = .error (msg b) by unfold due; rw [take_split hdi, extAll_err he hE]]
    | ok k =>
      try dsimp only
      k_steps
      rename Fr _ _ _ _ => F4
      rename News _ _ _ _ => N4
      (try simp only [List.push_toArray] at N4)
      exact ⟨k, _, _, _, _, _, hE, ints_snoc hws, rfl, F4, fun z h1 h2 => by simp [h1, h2], N4⟩
  · intro ks ws n u1 u2 h tk he hws F3 N3
    try dsimp only
    k_steps
    · rename Fr _ _ _ _ => F4
      rename News _ _ _ _ => N4
      rename decide (ks = []) = true => e4
      refine hretE _ _ _ _ ?_ F4 fun p hp => N4 p (.tail _ (.tail _ hp))
      unfold due; rw [he]; simp only [of_decide_eq_true e4, if_true]
    walk_at "m for"
    walk1
    rename decide (ks = []) = false => e4
    have hrange := extAll_range he
    rename Fr _ _ _ _ => F5
    rename News _ _ _ _ => N5
    refine loopB (x := Str.ofString "extent") (y := Str.ofString "multiplied") (by decide) (fun i a => a = prodL (ks.take i)) rfl (.tail _ (.head _)) hws F5 rfl N5 rfl ?_ ?_
    · intro i k t a ta h tk own hki hJ F6 N6
      have hkr := hrange k (List.mem_of_getElem? hki)
      try dsimp only
      k_steps
      rename Fr _ _ _ _ => F7
      rename News _ _ _ _ => N7
      exact ⟨_, _, _, _, _, by rw [take_snoc hki, prodL_snoc, hJ], rfl, F7, rfl, fun z h1 h2 => by simp [h1, h2], N7⟩
    · intro a ta u h tk hJ F6 N6
      rw [List.take_length] at hJ
      have ha0 : 0 ≤ a := hJ ▸ prodL_nonneg hrange
      have h18 : (10 : Int) ^ Int.toNat 18 = 1000000000000000000 := by decide
      by_cases h18' : a ≤ 1000000000000000000
      · have hlen := strlen ha0 h18'
        try dsimp only
        k_steps
        · rename Fr _ _ _ _ => F7
          rename News _ _ _ _ => N7
          rename a = many => e7
          exact hretO ks _ ws n _ _ (due_ok he e4 (hJ ▸ e7)) hws (allLt_of (by assumption)) F7 fun p hp => N7 p (.tail _ hp)
        · rename Fr _ _ _ _ => F7
          rename News _ _ _ _ => N7
          rename a ≠ many => e7
          have e8 := due_bad he e4 (hJ ▸ e7)
          rw [← hJ, bad_small h18'] at e8
          exact hretE _ _ _ _ e8 F7 fun p hp => N7 p (.tail _ (.tail _ hp))
      · try dsimp only
        k_steps
        · rename Fr _ _ _ _ => F7
          rename News _ _ _ _ => N7
          rename a = many => e7
          exact absurd e7 (by omega)
        · rename Fr _ _ _ _ => F7
          rename News _ _ _ _ => N7
          rename a ≠ many => e7
          have e8 := due_bad he e4 (hJ ▸ e7)
          rw [← hJ, bad_big h18'] at e8
          exact hretE _ _ _ _ e8 F7 fun p hp => N7 p (.tail _ (.tail _ hp))


end
section
/-- each group of walks starts as in a fresh process: open_top leaves a switch on, and the lines of the group before are dropped -/
theorem walk_off5 : True := by w_top off; k_with_none; trivial
section
open PySem.Builtin PySem.Builtin.ObjectAttr
variable {prog : Program} {w : World} {A : Around} {E : Value → Shared → Prop} {s : Shared}
theorem ref_ga (P : Params) : findIn (Mine.hd.heap_39 P) (.ref 51) "__getattribute__" = some (some (.builtin "BaseException.__getattribute__")) := by kernel_rfl
theorem ref_gh (P : Params) : findIn (Mine.hd.heap_39 P) (.ref 51) "__getattr__" = some none := by kernel_rfl
theorem ref_sa (P : Params) : findIn (Mine.hd.heap_39 P) (.ref 51) "__setattr__" = some (some (.builtin "object.__setattr__")) := by kernel_rfl
theorem ref_me (P : Params) : findIn (Mine.hd.heap_39 P) (.ref 51) "message" = some none := by kernel_rfl
theorem ref_hd (P : Params) : hasDictIn (Mine.hd.heap_39 P) 51 = true := by kernel_rfl
theorem noGet_none (K : Frag) : noGet K none = true := rfl
theorem ref_mro (P : Params) : (clsIn (Mine.hd.heap_39 P) 51).map (·.mro) = some [.ref 51, .ref 31, .type "Exception", .type "BaseException", .type "object"] := by kernel_rfl
set_option maxHeartbeats 400000 in
/-- what a refusal's attribute `message` is -/
theorem get_message {e : Addr} {ox : Obj} {es : List DictEntry} {n : Nat} {v : Value} {expr : Bool} {Q : Value → Shared → Prop}
    (X : (Mine.hd.heap_39 w.params).In s.heap) (I : InstAt s.heap e ox 51 (some (dictOf es n))) (hl : getL "message" es = some (some v)) (hh : handedIn v = true) (h : Q v { s with toks := s.toks + 1 }) :
    wpAny (model prog w) A (getAttr (.ref e) "message" expr) Q E s := by
  have hf := findObj_own (od := dictOf es n) (attr := none) (ref_hd w.params) (ref_me w.params) (noGet_none _) ((lookIn_dict _ es n).trans hl)
  obtain ⟨hp, g, d, t, os⟩ := s
  have L0 := I.type (M := model prog w)
  have L1 := looks_findIn (M := model prog w) X (ref_ga _)
  have L2 := looks_findIn (M := model prog w) X (ref_gh _)
  have L3 := looks_find (M := model prog w) X I hf
  have LB : Looks (model prog w) hp (isInstance (.ref e) (.type "BaseException")) true := L0.andThen (looks_mroIn X (by kernel_rfl))
  unfold getAttr getAttrBy
  refine wpAny_bind (wpAny_mkText (wpAny_holding (wpAny_bind (L0.at (wpAny_bind (L1.at ?_))))))
  have hx : (onTheHeap (Value.ref 51) && Value.builtin "BaseException.__getattribute__" == Value.builtin "object.__getattribute__") = false := by decide +kernel
  dsimp only
  rw [hx]
  simp only [Bool.false_eq_true, if_false]
  unfold getAttrByItsOwn hookBefore
  refine wpAny_bind (L2.at ?_)
  have f3 := PySem.F.attr_Exception.ga.bind (.ref e)
  have hx0 : (expr && onTheHeap (Value.builtin "BaseException.__getattribute__")) = false := by cases expr <;> rfl
  unfold callGetattribute
  rw [hx0]
  simp only [Bool.false_eq_true, if_false]
  unfold boundAndCalled
  rw [f3]
  refine wpAny_bind (wpAny_attempt (wpAny_holding ?_))
  refine wpAny_bind (wpAny_pure ?_)
  show wpAny _ _ (call (.builtin "BaseException.__getattribute__") [.ref e, .str "message" t]) _ _ _
  refine wpAny_call ?_
  refine codeAny_call_builtin PySem.F.attr_Exception.ga.plain PySem.F.entry_bexc_ga ?_
  have hk : builtinKind "BaseException.__getattribute__" = some .slot := by decide +kernel
  have hs : splitId "BaseException.__getattribute__" = some ("BaseException", "__getattribute__") := by decide +kernel
  have ha := PySem.F.args_bexc_ga (.ref e) (.str "message" t)
  refine @check_slot (model prog w) _ _ ⟨hp, g, d, t + 1, os⟩ "BaseException.__getattribute__" "BaseException" "__getattribute__" (.ref e) [.str "message" t] [] _ hk hs LB ha ?_
  unfold «object.__getattribute__»
  refine wpAny_bind (wpAny_pure (wpAny_bind (wpAny_pure (wpAny_bind (L0.at (wpAny_bind (L3.at ?_)))))))
  refine wpAny_pure ?_
  show wpAny _ _ (handedOut v) _ _ _
  rw [handedOut_of hh]; exact wpAny_pure h
end


end
section
/-- each group of walks starts as in a fresh process: open_top leaves a switch on, and the lines of the group before are dropped -/
theorem walk_off6 : True := by w_top off; k_with_none; trivial
section
open PySem.Builtin PySem.Builtin.ObjectAttr
variable {prog : Program} {w : World} {A : Around} {E : Value → Shared → Prop} {s : Shared}
set_option maxHeartbeats 1000000 in
/-- `self.message = v` on a refusal that has no dict yet -/
theorem set_message {e : Addr} {ox : Obj} {vs : Array Value} {v : Value} {Q : Unit → Shared → Prop}
    (X : (Mine.hd.heap_39 w.params).In s.heap) (hx : s.heap.get? e = some ox) (hc : ox.cls = .ref 51) (hd : ox.dict = none) (hv : ox.data = .fields vs)
    (h : ∀ h' tk tk', h'.get? e = some { ox with dict := some s.heap.objs.size } → h'.get? s.heap.objs.size = some (dictOf [⟨PyData.keyHash w.params "message", .str "message" tk, v⟩] 1) →
      (∀ b o, b ≠ e → s.heap.get? b = some o → h'.get? b = some o) → Q () { s with heap := h', toks := tk' }) :
    wpAny (model prog w) A (setAttr (.ref e) "message" v) Q E s := by
  obtain ⟨hp, g, d, t, os⟩ := s
  dsimp only at X hx h
  have I : InstAt hp e ox 51 none := ⟨hx, hc, by obtain ⟨c, d, dt, sl⟩ := ox; cases hv; rfl, by rw [hd]; trivial⟩
  refine set_plain X I (ref_sa _) ?_
  have SF := PySem.F.store_object
  have L0 := I.type (M := model prog w)
  have L1 := looks_findIn (M := model prog w) X (ref_me _)
  have hm : Looks (model prog w) hp (mroOf (.ref 51)) [.ref 51, .ref 31, .type "Exception", .type "BaseException", .type "object"] := by
    obtain ⟨cd, hc1, hc2⟩ := Option.map_eq_some_iff.mp (ref_mro w.params)
    rw [← hc2]
    exact (looks_clsIn X hc1).andThen .now
  have sub : Looks (model prog w) hp (isInstance (.ref e) (.type "object")) true := L0.andThen (looks_mroIn X (by kernel_rfl))
  refine codeAny_call_builtin SF.slot.plain SF.entry (@check_slot (model prog w) _ _ ⟨hp, g, d, t + 1, os⟩ "object.__setattr__" "object" "__setattr__" (.ref e) [.str "message" t, v] [] _ SF.kind SF.split sub (SF.args (.ref e) (.str "message" t) v) ?_)
  rw [osa_eq, refuse_eq]
  refine wpAny_bind (wpAny_bind (L0.at ?_))
  refine wpAny_bind (hm.at ?_)
  rw [refuseLoop_ref, refuseLoop_ref, PySem.F.store_Exception.passes]
  refine wpAny_pure (wpAny_bind (L0.at (wpAny_bind (L1.at (wpAny_bind (wpAny_pure ?_))))))
  show wpAny _ _ (storeInOwnDict (.ref e) (.ref 51) (.str "message" t) "message" v false) _ _ _
  obtain ⟨oc, odi, oda, osl⟩ := ox
  dsimp only at hc hd hv
  subst hc hd hv
  obtain ⟨cd, hcd, hdd⟩ := any_some (ref_hd w.params)
  have L2 := looks_clsIn (M := model prog w) X hcd
  unfold storeInOwnDict ownDictForStores instanceDict
  refine wpAny_bind (wpAny_pure (wpAny_bind (wpAny_bind (wpAny_loadPart hx (wpAny_bind (L2.at ?_))))))
  rw [hdd]
  have hes : e ≠ hp.objs.size := Nat.ne_of_lt (Heap.lt_size hx)
  show wpAny _ _ (alloc { cls := .type "dict", data := .dict #[] } >>= fun d' => update e (fun o => { cls := o.cls, dict := some d', data := o.data, slots := o.slots }) >>= fun _ => pure (some d')) _ _ _
  refine wpAny_bind (wpAny_alloc (wpAny_bind (wpAny_update (Heap.get?_push_of_some _ hx) (wpAny_pure ?_))))
  show wpAny _ _ (storeInDict hp.objs.size (.str "message" t) "message" v) _ _ _
  have hx1 : (hp.push { cls := .type "dict", data := .dict #[] }).get? e = some { cls := .ref 51, data := .fields vs, slots := osl } := Heap.get?_push_of_some _ hx
  have hg2 : ((hp.push { cls := .type "dict", data := .dict #[] }).update e fun o => { cls := o.cls, dict := some hp.objs.size, data := o.data, slots := o.slots }).get? hp.objs.size = some { cls := .type "dict", data := .dict #[] } :=
    (Heap.get?_update_ne _ _ _ _ hes.symm).trans (Heap.get?_push_at rfl rfl)
  have hx2 : ((hp.push { cls := .type "dict", data := .dict #[] }).update e fun o => { cls := o.cls, dict := some hp.objs.size, data := o.data, slots := o.slots }).get? e = some { cls := .ref 51, dict := some hp.objs.size, data := .fields vs, slots := osl } :=
    Heap.get?_update_self _ hx1 rfl
  unfold storeInDict newKeyGuard
  refine wpAny_bind (wpAny_pure (wpAny_bind ?_))
  unfold nsSet
  refine wpAny_bind (wpAny_bind (wpAny_askSetting (wpAny_pure (wpAny_bind (wpAny_mkText (wpAny_bind (wpAny_loadPart hg2 ?_)))))))
  dsimp only
  rw [show aRefKeyMayBeTheName (Str.ofString "message") #[] = false from rfl]
  refine wpAny_updatePart hg2 ?_
  have hg3 : (((hp.push { cls := .type "dict", data := .dict #[] }).update e fun o => { cls := o.cls, dict := some hp.objs.size, data := o.data, slots := o.slots }).update hp.objs.size
      (Obj.putName (Str.ofString "message") (PyData.keyHash w.params (Str.ofString "message")) (.str (Str.ofString "message") (t + 1)) v)).get? hp.objs.size = some (dictOf [⟨PyData.keyHash w.params (Str.ofString "message"), .str (Str.ofString "message") (t + 1), v⟩] 1) :=
    Heap.get?_update_self _ hg2 rfl
  refine wpAny_bind (wpAny_lookBehind hg3 (by exact pastItsLine_dict (by rw [sizeLine_eq]; exact Nat.le_of_ble_eq_true rfl)) ?_)
  refine wpAny_pure ?_
  refine h _ _ _ ?_ hg3 fun b o hb ho => ?_
  · exact (Heap.get?_update_ne _ _ _ _ hes).trans hx2
  · rw [Heap.get?_update_ne _ _ _ _ (Nat.ne_of_lt (Heap.lt_size ho)), Heap.get?_update_ne _ _ _ _ hb]
    exact Heap.get?_push_of_some _ ho
end


end
section
/-- each group of walks starts as in a fresh process: open_top leaves a switch on, and the lines of the group before are dropped -/
theorem walk_off7 : True := by w_top off; k_with_none; trivial
section
variable {prog : Program} {w : World} {A : Around} {E : Value → Shared → Prop} {h : Heap} {g : Array GenState} {d : Drawn} {t : Nat} {os : OsState}
abbrev refBm : List Value := [.type "Exception", .type "BaseException", .type "object"]
theorem ref_tail (P : Params) : tailIn (Mine.hd.heap_39 P) refBm (.ref 31 :: refBm) = true := by kernel_rfl
theorem ref_init (P : Params) : findIn (Mine.hd.heap_39 P) (.ref 51) "__init__" = some (some (.ref 48)) := by kernel_rfl
theorem ref_fn (P : Params) : typeIn (Mine.hd.heap_39 P) (.ref 48) = some (.type "function") := by kernel_rfl
abbrev refCls : Obj := excClassObj (Str.ofString "Refusal") (Str.ofString "Refusal") 51 50 [.ref 31] (.ref 31 :: refBm) true [] [] false none none (some (.ref 35)) none (some (.str (Str.ofString "Refusal") 216)) (some (.str (Str.ofString "Refusal") 224)) (some (.bool true)) "Exception.__new__"
theorem ref_obj (P : Params) : (Mine.hd.heap_39 P).lookup 51 = some refCls := by kernel_rfl
set_option maxHeartbeats 1000000 in
theorem refusal_type_call {rest : List Value} {Q : Fin → Shared → Prop} (X : (Mine.hd.heap_39 w.params).In h)
    (hq : ∀ h' e, Heap.MadeExcOf h h' e (.ref 51) rest → wpAny (model prog w) A (call (.ref 48) (.ref e :: rest)) (fun r s' => r = .none ∧ Q (.done (.ret (.ref e))) s') E ⟨h', g, d, t, os⟩) (hrest : rest.length ≤ sizeLine) :
    wpAny (model prog w) A (Builtin.«type.__call__» ⟨.ref 51 :: rest, []⟩) Q E ⟨h, g, d, t, os⟩ := by
  have hC : h.get? 51 = some refCls := X _ _ (ref_obj _)
  have T : OwnTail h refBm (.ref 31 :: refBm) := tail_of_in X (ref_tail _)
  have F := PySem.F.excBase_Exception
  repeat (first | with_reducible refine wpAny_loadPart_at hC ?_ | with_reducible refine wpAny_madeBy_exc hC ?_ | wp_step)
  refine codeAny_call_builtin_code (Code.quiet_builtin _ F.quiet) (wpAny_check_new_subT F T hC ?_)
  refine codeAny_exc_new_subT F T hC ?_ hrest
  show wpAny _ _ _ _ _ _
  have kp : ∀ b o, h.get? b = some o → ((h.push { cls := .type "tuple", data := .seq rest.toArray }).push { cls := .ref 51, data := .fields #[.ref h.objs.size, .none, .none, .none, .bool false, .none] }).get? b = some o :=
    fun b o e => Heap.get?_push_of_some _ (Heap.get?_push_of_some _ e)
  have hC₁ := kp _ _ hC
  have X₁ : (Mine.hd.heap_39 w.params).In ((h.push { cls := .type "tuple", data := .seq rest.toArray }).push { cls := .ref 51, data := .fields #[.ref h.objs.size, .none, .none, .none, .bool false, .none] }) := X.keeps kp
  have hget : ((h.push { cls := .type "tuple", data := .seq rest.toArray }).push
      { cls := .ref 51, data := .fields #[.ref h.objs.size, .none, .none, .none, .bool false, .none] }).get? (h.objs.size + 1) = some
      { cls := .ref 51, data := .fields #[.ref h.objs.size, .none, .none, .none, .bool false, .none] } := by heap_get
  have hcC : (Value.ref 51 :: (.ref 31 :: refBm)).contains (.ref 51) = true := by simp
  unfold isInstance
  repeat (first | with_reducible refine wpAny_loadPart_at hget ?_ | (with_reducible refine wpAny_isSubtype_exc hC₁ ?_; rw [hcC]) | wp_step)
  show wpAny _ _ (typeLookup (.ref 51) _) _ _ _
  refine (looks_findIn X₁ (ref_init _)).at ?_
  refine wpAny_holding (wpAny_bind ((bind_fn X₁ _ (ref_fn _)).at ?_))
  refine wpAny_bind (wpAny_mono (hq _ (h.objs.size + 1) ⟨kp, Heap.get?_none_of_le (Nat.le_succ _), h.objs.size, hget, Heap.get?_none_of_le (Nat.le_refl _), Heap.get?_push_of_some _ (Heap.get?_push_at rfl rfl)⟩) (fun r s' hr => ?_) fun _ _ x => x)
  obtain ⟨rfl, hQ⟩ := hr
  wp_walk
  exact hQ
theorem refusal_call {rest : List Value} {Q : Value → Shared → Prop} (X : (Mine.hd.heap_39 w.params).In h)
    (hq : ∀ h' e, Heap.MadeExcOf h h' e (.ref 51) rest → wpAny (model prog w) (A.under (.builtin "type.__call__" ⟨.ref 51 :: rest, []⟩)) (call (.ref 48) (.ref e :: rest)) (fun r s' => r = .none ∧ Q (.ref e) s') E ⟨h', g, d, t, os⟩) (hrest : rest.length ≤ sizeLine) :
    wpAny (model prog w) A (call (.ref 51) rest) Q E ⟨h, g, d, t, os⟩ := by
  have hC : h.get? 51 = some refCls := X _ _ (ref_obj _)
  have f1 := tc_lookup
  have f2 := tc_bind (.ref 51)
  have hT : (⟨h, g, d, t, os⟩ : Shared).TypeIs (.ref 51) "type" := ⟨_, hC, rfl⟩
  refine wpAny_call (codeAny_of_tree ?_)
  show wpAny _ _ (callAny (.ref 51) _) _ _ _
  repeat (any_goals (first | assumption | with_reducible refine wpAny_loadPart_at hC ?_ | wp_step))
  refine ⟨rfl, ?_⟩
  refine codeAny_call_builtin_at (Code.quiet_builtin _ (by decide +kernel)) entry_typeCall (wpAny_check_type_call_sub hC (refusal_type_call X (fun h' e hm => ?_) hrest))
  exact hq h' e hm
end


end
section
/-- each group of walks starts as in a fresh process: open_top leaves a switch on, and the lines of the group before are dropped -/
theorem walk_off8 : True := by w_top off; k_with_none; trivial
theorem walk_line5 : True := by
  k_with "m enter" => (refine' code_def ?k1 ?k2 ?k3 ?k4 ?k5 ?kA ?kF ?kK ?k6 ?k7 ?k8 ?k9 ?kB ?_ ?c2 ?c3 ?c4 ?c5; (case kA => exact rfl); (case kF => assumption); (case kK => assumption); (case k1 => k_asm); (case k2 => k_asm); (case k3 => k_asm); (case k4 => k_asm); (case k5 => k_asm); (case k6 => k_is); (case k7 => k_is); (case k8 => ktr_room); (case k9 => exact BindsTo.of_eq rfl); (case kB => exact locs rfl); (case c2 => exact rfl); (case c3 => exact rfl); (case c4 => exact rfl); (case c5 => decide); k_whole; intro g' L' h' FG' F' N' B' X' T'; (try dsimp only); (try k_fold))
  k_with "m ne" => (intro p hp; simp only [List.mem_cons, List.not_mem_nil, or_false] at hp; first | (subst hp; refine neN ?_; dsimp only; omega) | (rcases hp with h | h | h <;> (subst h; refine neN ?_; dsimp only; omega)))
  k_with "m for" => ((rename Fr _ _ _ _ => lF'); (with_unfolding_all refine' For_invVF lF' ?k1 ?k2 ?_; (case k1 => exact rfl); (case k2 => exact rfl); k_whole))
  k_with "m units" => (have hcL9 := cLine_is; (try simp only [units_in1, units_deeper, Around.mark_units, units_caller] at *); (try dsimp only [top] at *); omega)
  k_with "compareOp Eq ref ref" => (k_here; (with_reducible show wpAny _ _ (compareOp CmpOp.Eq (Value.ref _) (Value.ref _)) _ _ _); (with_unfolding_all refine' eq_intsK ?k1 ?k2 ?k3 ?k4 ?k5 ?_; (case k1 => is_list); (case k2 => l_intsC); (case k3 => is_list); (case k4 => l_intsC); (case k5 => walk_at "m units"); k_whole); (try simp only [filter_tt]))
  trivial
/-- a refusal, its dict and its args stand in the ledger's head -/
abbrev excObj (dx tt : Addr) : Obj := { cls := .ref 51, dict := some dx, data := .fields #[.ref tt, .none, .none, .none, .bool false, .none] }
abbrev msgDict (P : Params) (tk : Tok) (x : Str) (t : Tok) : Obj := dictOf [⟨PyData.keyHash P (Str.ofString "message"), .str (Str.ofString "message") tk, .str x t⟩] 1
theorem set_frame {h₀ h h' : Heap} {L e dx : Addr} {m : Str → Option Value} {ox ox' od' : Obj} {rest : List (Addr × Obj)} (F : Fr h₀ L h m) (N : News h₀ L h ((e, ox) :: rest)) (hne : AllNe e rest)
    (he : h'.get? e = some ox') (hd : h'.get? dx = some od') (hdx : h.get? dx = none) (hdL : h.objs.size ≤ dx) (k : ∀ b o, b ≠ e → h.get? b = some o → h'.get? b = some o) : Fr h₀ L h' m ∧ News h₀ L h' ((e, ox') :: (dx, od') :: rest) := by
  have NE := N (e, ox) (.head _)
  obtain ⟨oL, es, ep, hL, r⟩ := F.ns
  have hdn : h₀.get? dx = none := by
    cases q : h₀.get? dx with
    | none => rfl
    | some o => have := F.keep _ _ q; rw [hdx] at this; cases this
  refine ⟨⟨⟨oL, es, ep, k _ _ (Ne.symm NE.2.1) hL, r⟩, fun b o q => k b o (fun z => ?_) (F.keep b o q), F.above⟩, fun p hp => ?_⟩
  · have := NE.2.2; rw [← z, q] at this; cases this
  · rcases List.mem_cons.mp hp with rfl | hp
    · exact ⟨he, NE.2⟩
    rcases List.mem_cons.mp hp with rfl | hp
    · exact ⟨hd, fun z => by have := Heap.lt_size hL; rw [← z] at this; exact absurd this (Nat.not_lt.mpr hdL), hdn⟩
    · have P := N p (.tail _ hp)
      exact ⟨k _ _ (hne p hp) P.1, P.2⟩
set_option maxHeartbeats 4000000 in
theorem refusal_new {w : World} {mean : ExcName → Option Value} {mg mb : Str → Option Value}
    {dp un : Nat} {gd : Option (List Code)} {env : Env} {outer : List Env} {A₀ : Around} {base h₀ : Heap} {L : Addr} {m : Str → Option Value}
    {s : Shared} {Q E : Value → Shared → Prop} {rest : List (Addr × Obj)} {x : Str} {t : Tok}
    (B : Below A₀ base outer h₀) (F : Fr h₀ L s.heap m) (X : (Mine.hd.heap_39 w.params).In h₀)
    (T : Top Mine.hd.view_39 (looseW Mine.hd.view_39 [Str.ofString "MOST_TOTAL"]) mean mg mb h₀)
    (hfr : env.frame = some L) (hk : env.scope.kind = .function) (N : News h₀ L s.heap rest) (hd : dp + 5 < recursionLimit) (hu : un + 40 < cLine)
    (hret : ∀ e dx tt h' tk tk', Fr h₀ L h' m → News h₀ L h' ((e, excObj dx tt) :: (dx, msgDict w.params tk x t) :: (tt, tupOf #[.str x t] 0) :: rest) → AllNe e ((dx, msgDict w.params tk x t) :: (tt, tupOf #[.str x t] 0) :: rest) →
      Q (.ref e) { s with heap := h', toks := tk' }) :
    wpAny (model PySem.Challenge.rw_pq1397_01.row.prog w) (top dp un gd env outer) (call (.ref 51) [.str x t]) Q E s := by
  have hfill : ((Mine.hd.heap_39 w.params).In h₀ → PySem.Challenge.rw_pq1397_01.row.prog = PySem.Challenge.rw_pq1397_01.row.prog) := by k_fill; intro _; rfl
  clear hfill
  obtain ⟨hp, g, d, tk0, os⟩ := s
  refine refusal_call (X.keeps F.keep) (fun h1 e hm => ?_) (by rw [sizeLine_eq]; exact Nat.le_of_ble_eq_true rfl)
  obtain ⟨tt, he, hte, htt⟩ := hm.there
  have F1 : Fr h₀ L h1 m := ⟨by obtain ⟨oL, es, ep, hL, r⟩ := F.ns; exact ⟨oL, es, ep, hm.keeps _ _ hL, r⟩, fun b o q => hm.keeps _ _ (F.keep b o q), F.above⟩
  have hLs : hp.get? L ≠ none := by obtain ⟨oL, es, ep, hL, r⟩ := F.ns; rw [hL]; exact fun q => by cases q
  have f0 : ∀ b, hp.get? b = none → h₀.get? b = none := fun b q => by
    cases z : h₀.get? b with
    | none => rfl
    | some o => have := F.keep _ _ z; rw [q] at this; cases this
  have N1 : News h₀ L h1 ((e, { cls := .ref 51, data := .fields #[.ref tt, .none, .none, .none, .bool false, .none] }) :: (tt, tupOf #[.str x t] 0) :: rest) := by
    intro p hp'
    rcases List.mem_cons.mp hp' with rfl | hp'
    · exact ⟨he, fun z => hLs (z ▸ hm.new), f0 _ hm.new⟩
    rcases List.mem_cons.mp hp' with rfl | hp'
    · exact ⟨htt, fun z => hLs (z ▸ hte), f0 _ hte⟩
    · exact ⟨hm.keeps _ _ (N p hp').1, (N p hp').2⟩
  have hne : AllNe e ((tt, tupOf #[.str x t] 0) :: rest) := by
    intro p hp' z
    rcases List.mem_cons.mp hp' with rfl | hp'
    · dsimp only at z; rw [z] at htt; rw [he] at htt; cases htt
    · have := (N p hp').1; rw [z, hm.new] at this; cases this
  refine wpAny_call ?_
  k_dflt (refine' code_def ?k1 ?k2 ?k3 ?k4 ?k5 ?kA ?kF ?kK ?k6 ?k7 ?k8 ?k9 ?kB ?_ ?c2 ?c3 ?c4 ?c5; (case kA => exact rfl); (case kF => assumption); (case kK => assumption); (case k1 => k_asm); (case k2 => exact F1); (case k3 => k_asm); (case k4 => exact N1); (case k5 => k_asm); (case k6 => k_is); (case k7 => k_is); (case k8 => ktr_room); (case k9 => exact BindsTo.of_eq rfl); (case kB => exact locs rfl); (case c2 => exact rfl); (case c3 => exact rfl); (case c4 => exact rfl); (case c5 => decide); k_whole; intro g1 L1 h1' FG1 F1' N1' B1 X1 T1; (try dsimp only); (try k_fold))
  k_steps
  refine set_message (X1.keeps F1'.keep) (N1' _ (.head _)).1 rfl rfl rfl fun h2 tk1 tk2 he2 hd2 hk2 => ?_
  obtain ⟨F2, N2⟩ := set_frame F1' N1' hne he2 hd2 (Heap.get?_none_of_le (Nat.le_refl _)) (Nat.le_refl _) hk2
  try dsimp only
  k_steps
  rename Fr h₀ L _ _ => F9
  rename News h₀ L _ _ => N9
  refine hret _ _ _ _ _ _ F9 N9 fun p hp' z => ?_
  rcases List.mem_cons.mp hp' with rfl | hp'
  · have h9 := (N9 _ (.tail _ (.head _))).1
    dsimp only at z h9
    rw [z, (N9 _ (.head _)).1] at h9; cases h9
  · exact hne p hp' z


end
section
/-- each group of walks starts as in a fresh process: open_top leaves a switch on, and the lines of the group before are dropped -/
theorem walk_off9 : True := by w_top off; k_with_none; trivial
def RaiseIn (E : Value → Shared → Prop) (v : Value) (s₁ : Shared) : Prop :=
  ∃ e dx tt, v = .ref e ∧ s₁.heap.get? 51 = some refCls ∧ s₁.heap.get? e = some (excObj dx tt) ∧ E (.ref e) s₁
section
variable {M : Model} {A : Around} {E : Value → Shared → Prop} {env : Env}
set_option maxHeartbeats 1000000 in
theorem raise_refusal {s : Shared} {x : Sem Value} {Q : Flow → Shared → Prop} (hh : A.handled = none) (h : wpAny M A x (RaiseIn E) E s) : wpAny M A (raiseStmt env (some x) none) Q E s := by
  have hcB : (Value.ref 51 :: (.ref 31 :: refBm)).contains (.type "BaseException") = true := by decide +kernel
  unfold raiseStmt
  refine wpAny_bind (wpAny_mono h (fun v s₁ h₁ => ?_) fun _ _ x => x)
  obtain ⟨e, dx, tt, rfl, hC, he, hE⟩ := h₁
  obtain ⟨hp, g, d, tk, os⟩ := s₁
  repeat (first | with_reducible refine wpAny_loadPart_at he ?_ | with_reducible refine wpAny_loadPart_at hC ?_ | (with_reducible refine wpAny_isSubtype_exc hC ?_; rw [hcB]) | wp_step)
  exact wpAny_raiseNew_none hh hE
theorem Raise_refusal {s : Shared} {x : Expr} {pos : Pos} {Q : Flow → Shared → Prop} (hh : A.handled = none) (h : wpAny M A (eval x env) (RaiseIn E) E s) : wpAny M A (exec (.Raise (some x) none pos) env) Q E s := by
  rw [arm_exec_Raise]
  refine wpAny_bind (wpAny_standAt (raise_refusal hh ?_))
  exact wpAny_bind (wpAny_mono h (fun v s₁ h₁ => wpAny_bind (wpAny_standAt (wpAny_pure h₁))) fun _ _ x => x)
end


end
section
/-- each group of walks starts as in a fresh process: open_top leaves a switch on, and the lines of the group before are dropped -/
theorem walk_off10 : True := by w_top off; k_with_none; trivial
/-- an exception's context -/
def ctxOf (o : Obj) : Option Value := match o.data with
  | .fields vs => vs[2]?
  | _ => none
/-- a tree that leaves every object's dict and context where they are -/
def Tame {α : Type} : Sem α → Prop
  | .pure _ | .raise _ | .unsupported _ | .finish _ | .register _ _ | .yield .. | .fork .. | .await .. => True
  | .rule _ k | .at _ k | .point _ k => Tame (k ())
  | .load _ _ k => ∀ o, Tame (k o)
  | .update _ _ f k => (∀ o, (f o).dict = o.dict ∧ (o.isFreed = false → (f o).isFreed = false) ∧ ctxOf (f o) = ctxOf o) ∧ Tame (k ())
  | .alloc _ k => ∀ a, Tame (k a)
  | .loadIfAlive _ k => ∀ o, Tame (k o)
  | .fresh k => ∀ a, Tame (k a)
  | .ask k => ∀ a, Tame (k a)
  | .choose _ _ k => ∀ a, Tame (k a)
  | .os _ _ k => ∀ a, Tame (k a)
  | .call .. | .resume .. => False
  | .handled _ k => ∀ a, Tame (k a)
  | .newGen _ k => ∀ a, Tame (k a)
  | .genState _ k => ∀ a, Tame (k a)
  | .stack k => ∀ a, Tame (k a)
  | .thread k => ∀ a, Tame (k a)
theorem tame_bind {α β : Type} {m : Sem α} {f : α → Sem β} (h : Tame m) (h' : ∀ a, Tame (f a)) : Tame (m.bind f) := by
  induction m with
  | pure a => exact h' a
  | raise | unsupported | finish | register | yield | fork | await => trivial
  | call | resume => exact h.elim
  | rule _ k ih | «at» _ k ih | point _ k ih => exact ih () h
  | update _ _ _ k ih => exact ⟨h.1, ih () h.2⟩
  | load _ _ k ih | alloc _ k ih | loadIfAlive _ k ih | fresh k ih | ask k ih | choose _ _ k ih | os _ _ k ih | handled _ k ih | newGen _ k ih | genState _ k ih | stack k ih | thread k ih => exact fun a => ih a (h a)
def DictKept (h h' : Heap) : Prop := ∀ b o, h.get? b = some o → ∃ o', h'.get? b = some o' ∧ o'.dict = o.dict ∧ ctxOf o' = ctxOf o
theorem DictKept.refl (h : Heap) : DictKept h h := fun _ o e => ⟨o, e, rfl, rfl⟩
theorem DictKept.trans {a b c : Heap} (x : DictKept a b) (y : DictKept b c) : DictKept a c := fun i o e => by
  obtain ⟨o1, e1, d1, c1⟩ := x i o e
  obtain ⟨o2, e2, d2, c2⟩ := y i o1 e1
  exact ⟨o2, e2, d2.trans d1, c2.trans c1⟩
theorem wp_tame {α : Type} {M : Model} {Γ : PySem.Ctx} {t : Sem α} {Q : α → Pos → Shared → Prop} {E : Value → Pos → Shared → Prop} {p : Pos} {s : Shared} (h₀ : Heap) (ht : Tame t) (hk : DictKept h₀ s.heap)
    (h : Sem.wp M Γ t Q E p s) : Sem.wp M Γ t (fun a p' s' => Q a p' s' ∧ DictKept h₀ s'.heap) (fun v p' s' => E v p' s' ∧ DictKept h₀ s'.heap) p s := by
  induction t generalizing p s with
  | pure a => exact ⟨h, hk⟩
  | raise e => exact ⟨h, hk⟩
  | unsupported | finish | register | yield | fork | await => exact h.elim
  | call | resume => exact ht.elim
  | rule _ k ih | «at» _ k ih | point _ k ih => exact ih () ht hk h
  | load a _ k ih => obtain ⟨o, ho, h⟩ := h; exact ⟨o, ho, ih o (ht o) hk h⟩
  | update a _ f k ih =>
    obtain ⟨ha, h⟩ := h
    refine ⟨ha, ih () ht.2 (hk.trans fun b o e => ?_) h⟩
    by_cases hb : b = a
    · subst hb
      exact ⟨f o, Heap.get?_update_self f e ((ht.1 o).2.1 (Heap.get?_some_iff.mp e).2), (ht.1 o).1, (ht.1 o).2.2⟩
    · exact ⟨o, (Heap.get?_update_ne _ _ _ _ hb).trans e, rfl, rfl⟩
  | alloc o k ih => exact ih _ (ht _) (hk.trans fun b o e => ⟨o, Heap.get?_push_of_some _ e, rfl, rfl⟩) h
  | loadIfAlive a k ih => exact ih _ (ht _) hk h
  | fresh k ih => exact ih _ (ht _) hk h
  | ask k ih => exact ih _ (ht _) hk h
  | choose _ _ k ih => exact ⟨h.1, ih _ (ht _) hk h.2⟩
  | os _ _ k ih => exact ih _ (ht _) hk h
  | handled _ k ih => exact ih _ (ht _) hk h
  | newGen _ k ih => exact ih _ (ht _) hk h
  | genState _ k ih => obtain ⟨st, hst, h⟩ := h; exact ⟨st, hst, ih _ (ht _) hk h⟩
  | stack k ih => exact ih _ (ht _) hk h
  | thread k ih => exact ih _ (ht _) hk h
theorem wpAny_tame {α : Type} {M : Model} {A : Around} {t : Sem α} {Q : α → Shared → Prop} {E : Value → Shared → Prop} {s : Shared} (ht : Tame t) (h : wpAny M A t Q E s) :
    wpAny M A t (fun a s' => Q a s' ∧ DictKept s.heap s'.heap) (fun v s' => E v s' ∧ DictKept s.heap s'.heap) s :=
  fun Γ p hΓ => wp_tame s.heap ht (DictKept.refl _) (h Γ p hΓ)
theorem tame_field (v : Value) (i : Nat) : Tame (field v i) := by
  unfold field fieldsOf
  refine tame_bind ?_ fun a => ?_
  · cases v <;> first | trivial | (refine tame_bind (fun o => trivial) fun o => ?_; split <;> trivial)
  · split <;> trivial
theorem dict_mapFields {i : Nat} (hi : i ≠ 2) (x : Value) (o : Obj) : (Obj.mapFields (·.setIfInBounds i x) o).dict = o.dict ∧ (o.isFreed = false → (Obj.mapFields (·.setIfInBounds i x) o).isFreed = false) ∧ ctxOf (Obj.mapFields (·.setIfInBounds i x) o) = ctxOf o := by
  obtain ⟨c, d, dt, sl⟩ := o
  cases dt
  case fields vs => exact ⟨rfl, fun h => h, by show (vs.setIfInBounds i x)[2]? = vs[2]?; rw [Array.getElem?_setIfInBounds_ne hi]⟩
  all_goals exact ⟨rfl, fun h => h, rfl⟩
theorem tame_setField (v : Value) {i : Nat} (hi : i ≠ 2) (x : Value) : Tame (setField v i x) := by
  unfold setField updateField
  cases v <;> first | trivial | skip
  refine tame_bind (fun o => trivial) fun o => ?_
  split
  · split
    · exact ⟨fun o => dict_mapFields hi x o, trivial⟩
    · trivial
  · trivial
theorem tame_setFlight (e : Value) (f : Option Addr) : Tame (setFlight e f) := by
  unfold setFlight
  refine tame_bind (tame_field _ _) fun tb => ?_
  split
  · exact tame_setField _ (by decide) _
  · trivial
theorem tame_readyFrames : ∀ l : List Env, Tame (readyFrames l)
  | [] => trivial
  | env :: outer => by
    unfold readyFrames
    split
    · refine tame_bind (fun o => trivial) fun o => ?_
      split
      · trivial
      · refine tame_bind ?_ fun b => tame_bind ?_ fun v => tame_bind ⟨fun o => ⟨rfl, fun h => (kts_isFreed o _).trans h, rfl⟩, trivial⟩ fun _ => tame_readyFrames outer
        · unfold behindIsImport
          split
          · trivial
          · split
            · trivial
            · exact tame_bind (tame_field _ _) fun _ => trivial
        · cases outer
          · show Tame (if _ then _ else _)
            split
            · trivial
            · unfold underTheClaimsCaller
              exact tame_bind (tame_bind (m := stack) (fun a => trivial) fun _ => trivial) fun _ => trivial
          · trivial
    · trivial
theorem tame_frameOf (env : Env) : Tame (PySem.frameOf env) := by
  unfold PySem.frameOf frameEnvs
  refine tame_bind (fun l => ?_) fun l => ?_
  · trivial
  · refine tame_bind ?_ fun v => ?_
    · generalize (List.dropWhile _ _) = l
      cases l
      · trivial
      · exact tame_bind (tame_readyFrames _) fun _ => trivial
    · cases v <;> trivial
theorem tame_newFields (ty : String) (vs : List Value) : Tame (newFields ty vs) := by
  unfold newFields newObj newObjAsIs
  dsimp only
  split
  · exact tame_bind trivial fun _ => tame_bind (fun _ => trivial) fun _ => trivial
  · exact tame_bind (fun _ => trivial) fun _ => trivial
theorem tame_noteFrame (e : Value) (env : Env) : Tame (noteFrame e env) := by
  unfold noteFrame entryPlaceOf EntryCells.newEntry
  split
  · refine tame_bind (tame_field _ _) fun hd => ?_
    dsimp only
    split
    · refine tame_bind (tame_field _ _) fun x => ?_
      split
      · trivial
      · exact tame_bind (tame_setField _ (by decide) _) fun _ => tame_bind (tame_frameOf _) fun _ => tame_bind (tame_bind (m := stack) (fun a => trivial) fun acts => by split <;> trivial) fun _ => tame_bind (tame_newFields _ _) fun _ => tame_setField _ (by decide) _
    · exact tame_bind (tame_frameOf _) fun _ => tame_bind (tame_bind (m := stack) (fun a => trivial) fun acts => by split <;> trivial) fun _ => tame_bind (tame_newFields _ _) fun _ => tame_setField _ (by decide) _
  · trivial
theorem tame_leaving (e : Value) (env : Env) : Tame (leaving env e) := by
  unfold leaving
  exact tame_bind (tame_noteFrame _ _) fun _ => tame_setFlight _ _


end
section
/-- each group of walks starts as in a fresh process: open_top leaves a switch on, and the lines of the group before are dropped -/
theorem walk_off11 : True := by w_top off; k_with_none; trivial
/-- a refusal with the message x is in flight -/
def Flown (P : Params) (base G : Heap) (l : List Env) (e dx : Addr) (x : Str) (t tk : Tok) (news : List (Addr × Obj)) (h : Heap) : Prop :=
  ∃ B tt, base.StaysIn B ∧ (∀ b o, G.get? b = some o → b ∉ l.filterMap (·.frame) → B.get? b = some o) ∧ (∀ q ∈ (dx, msgDict P tk x t) :: news, B.get? q.1 = some q.2 ∧ G.get? q.1 = none ∧ base.get? q.1 = none) ∧
    Heap.FlyingW B l e (.ref 51) (.ref tt) h ∧ ∃ oe, h.get? e = some oe ∧ oe.dict = some dx ∧ ctxOf oe = some .none
theorem Flown.sub {P : Params} {base G : Heap} {l : List Env} {e dx : Addr} {x : Str} {t tk : Tok} {news news' : List (Addr × Obj)} {h : Heap} (R : Flown P base G l e dx x t tk news h) (k : ∀ q ∈ news', q ∈ news) : Flown P base G l e dx x t tk news' h := by
  obtain ⟨B, tt, a, b, c, d⟩ := R
  exact ⟨B, tt, a, b, fun q hq => c q (by rcases List.mem_cons.mp hq with rfl | hq; exact .head _; exact .tail _ (k q hq)), d⟩
section
variable {M : Model} {A : Around} {E : Value → Shared → Prop} {s' : Shared} {base g g₂ : Heap} {outer : List Env} {L a e dx tt : Addr} {m : Str → Option Value} {name : Str} {scope : Scope} {cd : Value} {Q : Unit → Shared → Prop} {rest : List (Addr × Obj)} {P : Params} {x : Str} {t tk : Tok}
theorem leave_flown1 (K : Below A base outer g) (F : Fr g L s'.heap m) (N : News g L s'.heap ((e, excObj dx tt) :: (dx, msgDict P tk x t) :: rest)) (hne : AllNe e ((dx, msgDict P tk x t) :: rest))
    (hQ : ∀ h', Flown P base g outer e dx x t tk rest h' → g.UpToSlots h' → Q () { s' with heap := h' }) (hk : scope.kind = .function := by rfl) :
    wpAny M (A.deeper (envOf name scope L a cd)) (leaving (envOf name scope L a cd) (.ref e)) Q E s' := by
  have K' := K.push (name := name) (a := a) (cd := cd) F hk
  obtain ⟨fs, hfs⟩ : ∃ fs, fs = (envOf name scope L a cd :: outer).filterMap (·.frame) := ⟨_, rfl⟩
  have hin : ∀ env ∈ (envOf name scope L a cd :: outer), ∀ b, env.frame = some b → b ∈ e :: fs := fun env he b hb => List.mem_cons_of_mem _ (hfs ▸ List.mem_filterMap.mpr ⟨env, he, hb⟩)
  have NE := N _ (.head _)
  dsimp only at NE
  have st : base.StaysIn (hideAll s'.heap (e :: fs)) := fun b o q => hideAll_get _ (K'.stays b o q) fun hm => by
    rcases List.mem_cons.mp hm with z | z
    · rw [z, fresh_of_stays K.stays NE.2.2] at q; cases q
    · rw [hfs] at z; rw [(K'.frames.mem z).1] at q; cases q
  have sg : ∀ b o, g.get? b = some o → b ∉ outer.filterMap (·.frame) → (hideAll s'.heap (e :: fs)).get? b = some o := fun b o q nm => hideAll_get _ (F.keep b o q) fun hm => by
    rcases List.mem_cons.mp hm with z | z
    · rw [z, NE.2.2] at q; cases q
    · rw [hfs] at z
      rcases kts_mem z with z | z
      · rw [z, kts_self F] at q; cases q
      · exact nm z
  have hl : ∀ q ∈ (dx, msgDict P tk x t) :: rest, (hideAll s'.heap (e :: fs)).get? q.1 = some q.2 ∧ g.get? q.1 = none ∧ base.get? q.1 = none := fun q hq => by
    have NQ := N q (.tail _ hq)
    refine ⟨hideAll_get _ NQ.1 fun hm => ?_, NQ.2.2, fresh_of_stays K.stays NQ.2.2⟩
    rcases List.mem_cons.mp hm with z | z
    · exact hne q hq z
    · rw [hfs] at z
      rcases kts_mem z with z | z
      · exact NQ.2.1 z
      · obtain ⟨o, ho, _⟩ := (K.frames.mem z).2
        rw [NQ.2.2] at ho; cases ho
  have hle : (hideAll s'.heap (e :: fs)).get? e = none := hideAll_none _ (.head _)
  refine wpAny_mono (wpAny_tame (tame_leaving _ _) (wpAny_leaving_firstW (base := hideAll s'.heap (e :: fs)) (Q := fun _ s₂ => ∃ h', s₂ = { s' with heap := h' } ∧ Heap.LeftW (hideAll s'.heap (e :: fs)) (envOf name scope L a cd :: outer) e (.ref 51) (.ref tt) s'.heap h') (E := E) K'.stack (funFrames_hide K'.frames hin) rfl NE.1 (fun b o q => of_hideAll _ q) hle rfl rfl rfl fun h' hL => ⟨h', rfl, hL⟩)) (fun _ s₂ q => ?_) fun _ _ q => q.1
  obtain ⟨⟨h', rfl, k1, ⟨_, _, k2⟩, k3, k4⟩, hd⟩ := q
  obtain ⟨oe, he, hde, hce⟩ := hd _ _ NE.1
  exact hQ h' ⟨_, tt, st, sg, hl, ⟨k1, hle, k2, k3⟩, oe, he, hde, hce⟩ ((Heap.UpToSlots.of_keeps F.keep).trans k4)
theorem leave_flown2 (K : Below A base outer g) (F : Fr g L g₂ m) (R : Flown P base g₂ (envOf name scope L a cd :: outer) e dx x t tk rest s'.heap) (hsm : g₂.UpToSlots s'.heap)
    (hQ : ∀ h', Flown P base g outer e dx x t tk rest h' → g.UpToSlots h' → Q () { s' with heap := h' }) :
    wpAny M (A.deeper (envOf name scope L a cd)) (leaving (envOf name scope L a cd) (.ref e)) Q E s' := by
  obtain ⟨B, tt, hB, hBG, hl, hfl, oe, he, hde, hce⟩ := R
  refine wpAny_mono (wpAny_tame (tame_leaving _ _) (wpAny_leaves_onW (Q := fun _ s₂ => ∃ h', s₂ = { s' with heap := h' } ∧ Heap.FlyingW B outer e (.ref 51) (.ref tt) h' ∧ s'.heap.UpToSlots h') (E := E) (Around.frames_deeper K.stack) rfl hfl fun h' x1 x2 => ⟨h', rfl, x1, x2⟩)) (fun _ s₂ q => ?_) fun _ _ q => q.1
  obtain ⟨⟨h', rfl, x1, x2⟩, hd⟩ := q
  obtain ⟨oe', he', hde', hce'⟩ := hd _ _ he
  exact hQ h' ⟨B, tt, hB, fun b o q nm => hBG b o (F.keep b o q) (fun hm => by
      rcases kts_mem hm with z | z
      · rw [z, kts_self F] at q; cases q
      · exact nm z), fun q hq => ⟨(hl q hq).1, kts_none F.keep (hl q hq).2.1, (hl q hq).2.2⟩, x1, oe', he', hde'.trans hde, hce'.trans hce⟩ ((Heap.UpToSlots.of_keeps F.keep).trans (hsm.trans x2))
end
section
variable {prog : Program} {w : World} {A₀ : Around} {E : Value → Shared → Prop} {s' : Shared} {base g g₀ G : Heap} {outer : List Env} {L a e dx : Addr} {m : Str → Option Value} {name : Str} {scope : Scope} {cd : Value}
  {n : Str} {b₀ : Stmt} {suite : List Stmt} {pos np : Pos} {rest : List ExceptHandler} {Q : Flow → Shared → Prop} {news : List (Addr × Obj)} {KF : Frag}
  {p : Program} {loose : List Str} {mean : ExcName → Option Value} {mg mb : Str → Option Value} {x y : Str} {P : Params} {t tk : Tok}
theorem caught_flown (R : Flown P base G (envOf name scope L a cd :: outer) e dx y t tk news s'.heap) (F : Fr g L G m) (K : Below A₀ base outer g) (hsm : G.UpToSlots s'.heap) (XB : KF.In base) (TB : Top p loose mean mg mb base)
    (D : KtsDicts (outer.filterMap (·.frame)) g) (T0 : KtsTurn (outer.filterMap (·.frame)) g₀ g)
    (ex : nsIn KF mainGlobals x = some (some (.ref 51))) (q : ktsIn KF 51 "BaseException" = true)
    (k : ∀ h' g' tk' oe vs, KtsTurn (outer.filterMap (·.frame)) g₀ g' → Fr g' L h' (fun y => if y = n then some (.ref e) else m y) → oe.cls = .ref 51 → oe.data = .fields vs → oe.dict = some dx → ctxOf oe = some .none → News g' L h' ((e, oe) :: (dx, msgDict P tk y t) :: news) → Below A₀ base outer g' → KF.In g' → Top p loose mean mg mb g' → KtsDicts (outer.filterMap (·.frame)) g' →
      wpAny (model prog w) ((A₀.deeper (envOf name scope L a cd)).mark (some (.ref e))) (execs (b₀ :: suite) (envOf name scope L a cd))
        (fun f s₄ => wpAny (model prog w) (A₀.deeper (envOf name scope L a cd)) (do bindName (envOf name scope L a cd) n .none; unbindBehindTheSuite (envOf name scope L a cd) n pos) (fun _ s₅ => Q f s₅) E s₄)
        (AsSuiteRaised (model prog w) ((A₀.deeper (envOf name scope L a cd)).mark (some (.ref e))) (envOf name scope L a cd) n pos (notedBy (model prog w) ((A₀.deeper (envOf name scope L a cd)).mark (some (.ref e))) (envOf name scope L a cd) (cameBackBy (model prog w) (A₀.deeper (envOf name scope L a cd)) (envOf name scope L a cd) E)))
        { s' with heap := h', toks := tk' })
    (hk : scope.kind = .function := by rfl) (hlo : (envOf name scope L a cd).kindOf n = some .local := by rfl) (hx : (envOf name scope L a cd).kindOf x = some .globalImplicit := by rfl) (hd : (x == ("__debug__" : Str)) = false := by decide) :
    wpAny (model prog w) (A₀.deeper (envOf name scope L a cd)) (noteFrame (.ref e) (envOf name scope L a cd))
      (fun _ s₂ => wpAny (model prog w) (A₀.deeper (envOf name scope L a cd)) (setFlight (.ref e) none) (fun _ s₃ =>
        wpAny (model prog w) (A₀.deeper (envOf name scope L a cd)) (handleBy (.ref e) (envOf name scope L a cd) (.ExceptHandler (some (.Name x np)) (some n) (b₀ :: suite) pos :: rest)) Q E s₃) E s₂) E s' := by
  obtain ⟨B, tt, hB, hBG, hl, hfl, oe0, hoe0, hde0, hce0⟩ := R
  have hL : B.get? L = none := by
    obtain ⟨_, ⟨L', _, hf, hn', _⟩, _⟩ := hfl.2.2.1
    obtain rfl : L = L' := Option.some.inj hf
    exact hn'
  refine wpAny_mono (wpAny_tame (tame_noteFrame _ _) (wpAny_looks_onW (Q := fun _ s₂ => ∃ h', s₂ = { s' with heap := h' } ∧ Heap.HeldW B (envOf name scope L a cd :: outer) e (.ref 51) (.ref tt) L h' ∧ s'.heap.UpToSlots h') (E := E) (Around.frames_deeper K.stack) rfl hfl fun h' x1 x2 => ⟨h', rfl, x1, x2⟩)) (fun _ s₂ q => ?_) fun _ _ q => q.1
  obtain ⟨⟨h₄, rfl, hheld₄, hsm₄⟩, hdk⟩ := q
  obtain ⟨oe4, hoe4, hde4, hce4⟩ := hdk _ _ hoe0
  refine wpAny_mono (wpAny_tame (tame_setFlight _ _) (wpAny_landsW (Q := fun _ s₂ => ∃ h', s₂ = { s' with heap := h' } ∧ Heap.FlyingW B (envOf name scope L a cd :: outer) e (.ref 51) (.ref tt) h' ∧ h₄.UpToSlots h') (E := E) hheld₄ fun h' x1 x2 => ⟨h', rfl, x1, x2⟩)) (fun _ s₂ q => ?_) fun _ _ q => q.1
  obtain ⟨⟨h₅, rfl, hheld, hsm₅'⟩, hdk⟩ := q
  obtain ⟨oe5, hoe5, hde5, hce5⟩ := hdk _ _ hoe4
  have hsm₅ := hsm₄.trans hsm₅'
  obtain ⟨g₅, T₅, F₅, K₅⟩ := kts_ground K F hBG hheld.1 (hsm.trans hsm₅)
  have X₅ : KF.In g₅ := XB.keeps K₅.stays
  have P₅ : TopRead p loose mg mb g₅ := topRead_of (TB.keeps K₅.stays)
  obtain ⟨ob, hob, hobc⟩ := hheld.there
  obtain ⟨nm, q', N, bs, bm, hdct, sn, sub, ab, col, dd, k0, k1, k2, k3, k5, newId, hC, hbase, hbT⟩ := kts_cls X₅ q
  have hC₅ := F₅.keep _ _ hC
  refine wpAny_handleBy_cons (codeAny_handlers_test (name_K F₅ X₅ P₅ ex ?_ hk hx hd)) (by intro q; cases q)
  refine wpAny_excMatches_sub_self hC₅ hob hobc hbase (codeAny_handlers_suite_as ?_)
  refine wpAny_mono (wpAny_tame (tame_setFlight _ _) (lands_againW (Q := fun _ s₂ => ∃ h', s₂ = { s' with heap := h' } ∧ Heap.FlyingW B (envOf name scope L a cd :: outer) e (.ref 51) (.ref tt) h' ∧ h₅.UpToSlots h') (E := notedBy (model prog w) ((A₀.deeper (envOf name scope L a cd)).mark (some (.ref e))) (envOf name scope L a cd) (cameBackBy (model prog w) (A₀.deeper (envOf name scope L a cd)) (envOf name scope L a cd) E)) hheld fun h' x1 x2 => ⟨h', rfl, x1, x2⟩)) (fun _ s₂ q => ?_) fun _ _ q => q.1
  obtain ⟨⟨h₆, rfl, hfl₆, hsm₆⟩, hdk⟩ := q
  obtain ⟨oe6, hoe6, hde6, hce6⟩ := hdk _ _ hoe5
  obtain ⟨g₆, T₆, F₆, K₆⟩ := kts_ground K F hBG hfl₆.1 ((hsm.trans hsm₅).trans hsm₆)
  obtain ⟨oe, ws, hoe, hoec, hoed, hoe0⟩ := hfl₆.first
  obtain rfl : oe = oe6 := Option.some.inj (hoe.symm.trans hoe6)
  have ne₆ : g₆.get? e = none := T₆.none_ _ (kts_fresh F hBG hfl₆.2.1 fun o ho m => by
    obtain ⟨_, o', ho', hd⟩ := K.frames.mem m
    rw [ho] at ho'
    cases ho'
    obtain ⟨sl, hs⟩ := ((hsm.trans hsm₅).trans hsm₆) _ _ (F.keep _ _ ho) hd
    rw [hoe] at hs
    cases hs
    exact hd _ hoed)
  have N₆ : News g₆ L h₆ ((e, oe) :: (dx, msgDict P tk y t) :: news) := News.more F₆ (fun q hq => ⟨hfl₆.1 _ _ (hl q hq).1, (fun z => by have := (hl q hq).1; rw [z, hL] at this; cases this), T₆.none_ _ (kts_none F.keep (hl q hq).2.1)⟩) hoe (fun es n q => by rw [hoed] at q; cases q) ne₆
  have X₆ : KF.In g₆ := XB.keeps K₆.stays
  have P₆ : Top p loose mean mg mb g₆ := TB.keeps K₆.stays
  have D₆ : KtsDicts (outer.filterMap (·.frame)) g₆ := D.turn T₆
  refine stN F₆ N₆ (fun h₇ F₇ N₇ => ?_) hk hlo
  exact k h₇ g₆ _ _ _ (T0.trans T₆) F₇ hoec hoed (hde6.trans (hde5.trans (hde4.trans hde0))) (hce6.trans (hce5.trans (hce4.trans hce0))) N₇ K₆ X₆ P₆ D₆
end


end
section
/-- each group of walks starts as in a fresh process: open_top leaves a switch on, and the lines of the group before are dropped -/
theorem walk_off12 : True := by w_top off; k_with_none; trivial
theorem walk_line6 : True := by
  k_with "m enter" => (refine' code_def ?k1 ?k2 ?k3 ?k4 ?k5 ?kA ?kF ?kK ?k6 ?k7 ?k8 ?k9 ?kB ?_ ?c2 ?c3 ?c4 ?c5; (case kA => exact rfl); (case kF => assumption); (case kK => assumption); (case k1 => k_asm); (case k2 => k_asm); (case k3 => k_asm); (case k4 => k_asm); (case k5 => k_asm); (case k6 => k_is); (case k7 => k_is); (case k8 => ktr_room); (case k9 => exact BindsTo.of_eq rfl); (case kB => exact locs rfl); (case c2 => exact rfl); (case c3 => exact rfl); (case c4 => exact rfl); (case c5 => decide); k_whole; intro g' L' h' FG' F' N' B' X' T'; (try dsimp only); (try k_fold))
  k_with "m ne" => (intro p hp; simp only [List.mem_cons, List.not_mem_nil, or_false] at hp; first | (subst hp; refine neN ?_; dsimp only; omega) | (rcases hp with h | h | h <;> (subst h; refine neN ?_; dsimp only; omega)))
  k_with "m for" => ((rename Fr _ _ _ _ => lF'); (with_unfolding_all refine' For_invVF lF' ?k1 ?k2 ?_; (case k1 => exact rfl); (case k2 => exact rfl); k_whole))
  k_with "m units" => (have hcL9 := cLine_is; (try simp only [units_in1, units_deeper, Around.mark_units, units_caller] at *); (try dsimp only [top] at *); omega)
  k_with "compareOp Eq ref ref" => (k_here; (with_reducible show wpAny _ _ (compareOp CmpOp.Eq (Value.ref _) (Value.ref _)) _ _ _); (with_unfolding_all refine' eq_intsK ?k1 ?k2 ?k3 ?k4 ?k5 ?_; (case k1 => is_list); (case k2 => l_intsC); (case k3 => is_list); (case k4 => l_intsC); (case k5 => walk_at "m units"); k_whole); (try simp only [filter_tt]))
  trivial
theorem allLt_up {a b : Addr} {l : List (Addr × Obj)} (h : ∀ p ∈ l, p.1 < a) (k : a < b) : ∀ p ∈ l, p.1 < b := fun p hp => Nat.lt_trans (h p hp) k
/-- a Vector's own dict -/
abbrev vecD (P : Params) (a b c d e : Tok) (kind : Str) (t : Tok) (items attrs : Value) (sh : Bool) : Obj :=
  dictOf [⟨PyData.keyHash P (Str.ofString "kind"), .str (Str.ofString "kind") a, .str kind t⟩, ⟨PyData.keyHash P (Str.ofString "items"), .str (Str.ofString "items") b, items⟩, ⟨PyData.keyHash P (Str.ofString "attrs"), .str (Str.ofString "attrs") c, attrs⟩,
    ⟨PyData.keyHash P (Str.ofString "shared"), .str (Str.ofString "shared") d, .bool sh⟩, ⟨PyData.keyHash P (Str.ofString "loose"), .str (Str.ofString "loose") e, .bool false⟩] 5
set_option maxHeartbeats 4000000 in
theorem vec_new2 {w : World} {mean : ExcName → Option Value} {mg mb : Str → Option Value}
    {dp un : Nat} {gd : Option (List Code)} {env : Env} {outer : List Env} {A₀ : Around} {base h₀ : Heap} {L : Addr} {m : Str → Option Value}
    {s : Shared} {Q E : Value → Shared → Prop} {rest : List (Addr × Obj)} {kind : Str} {t : Tok} {v : Value}
    (B : Below A₀ base outer h₀) (F : Fr h₀ L s.heap m) (X : (Mine.hd.heap_39 w.params).In h₀)
    (T : Top Mine.hd.view_39 (looseW Mine.hd.view_39 [Str.ofString "MOST_TOTAL"]) mean mg mb h₀)
    (hfr : env.frame = some L) (hk : env.scope.kind = .function) (N : News h₀ L s.heap rest) (hd : dp + 2 < recursionLimit) (hu : un + 10 < cLine)
    (hret : ∀ x dx a b c d e h' tk', (∀ p ∈ rest, p.1 < dx) → @LT.lt Nat _ dx x → Fr h₀ L h' m → News h₀ L h' ((x, instObj 78 dx) :: (dx, vecD w.params a b c d e kind t v .none false) :: rest) → Q (.ref x) { s with heap := h', toks := tk' }) :
    wpAny (model PySem.Challenge.rw_pq1397_01.row.prog w) (top dp un gd env outer) (call (.ref 78) [.str kind t, v]) Q E s := by
  have hfill : ((Mine.hd.heap_39 w.params).In h₀ → PySem.Challenge.rw_pq1397_01.row.prog = PySem.Challenge.rw_pq1397_01.row.prog) := by k_fill; intro _; rfl
  clear hfill
  k_dflt (refine' call_cls F X N ?k4 ?k5 ?k6 ?_; (case k4 => k_is); (case k5 => k_is); (case k6 => k_is); k_whole; intro x' d' h' F' N' l1 l2; have l1' := allNe_lt l1; have l1x := allNe_lt (allLt_up l1 l2); have l12 : @LT.lt Nat _ d' x' := l2)
  k_dflt (refine' code_def ?k1 ?k2 ?k3 ?k4 ?k5 ?kA ?kF ?kK ?k6 ?k7 ?k8 ?k9 ?kB ?_ ?c2 ?c3 ?c4 ?c5; (case kA => exact rfl); (case kF => assumption); (case kK => assumption); (case k1 => k_asm); (case k2 => k_asm); (case k3 => k_asm); (case k4 => k_asm); (case k5 => k_asm); (case k6 => k_is); (case k7 => k_is); (case k8 => ktr_room); (case k9 => exact binds_K (by k_in) rfl (by k_is) rfl rfl rfl); (case kB => exact locs rfl); (case c2 => exact rfl); (case c3 => exact rfl); (case c4 => exact rfl); (case c5 => decide); k_whole; intro g1 L1 h1 FG1 F1 N1 B1 X1 T1; (try dsimp only); (try k_fold))
  k_steps
  rename Fr h₀ L _ _ => F9
  rename News h₀ L _ _ => N9
  exact hret _ _ _ _ _ _ _ _ _ l1 l12 F9 N9
set_option maxHeartbeats 4000000 in
theorem vec_new3 {w : World} {mean : ExcName → Option Value} {mg mb : Str → Option Value}
    {dp un : Nat} {gd : Option (List Code)} {env : Env} {outer : List Env} {A₀ : Around} {base h₀ : Heap} {L : Addr} {m : Str → Option Value}
    {s : Shared} {Q E : Value → Shared → Prop} {rest : List (Addr × Obj)} {kind : Str} {t : Tok} {v : Value} {da : Addr}
    (B : Below A₀ base outer h₀) (F : Fr h₀ L s.heap m) (X : (Mine.hd.heap_39 w.params).In h₀)
    (T : Top Mine.hd.view_39 (looseW Mine.hd.view_39 [Str.ofString "MOST_TOTAL"]) mean mg mb h₀)
    (hfr : env.frame = some L) (hk : env.scope.kind = .function) (N : News h₀ L s.heap rest) (hd : dp + 2 < recursionLimit) (hu : un + 10 < cLine)
    (hret : ∀ x dx a b c d e h' tk', (∀ p ∈ rest, p.1 < dx) → @LT.lt Nat _ dx x → Fr h₀ L h' m → News h₀ L h' ((x, instObj 78 dx) :: (dx, vecD w.params a b c d e kind t v (.ref da) false) :: rest) → Q (.ref x) { s with heap := h', toks := tk' }) :
    wpAny (model PySem.Challenge.rw_pq1397_01.row.prog w) (top dp un gd env outer) (call (.ref 78) [.str kind t, v, .ref da]) Q E s := by
  have hfill : ((Mine.hd.heap_39 w.params).In h₀ → PySem.Challenge.rw_pq1397_01.row.prog = PySem.Challenge.rw_pq1397_01.row.prog) := by k_fill; intro _; rfl
  clear hfill
  k_dflt (refine' call_cls F X N ?k4 ?k5 ?k6 ?_; (case k4 => k_is); (case k5 => k_is); (case k6 => k_is); k_whole; intro x' d' h' F' N' l1 l2; have l1' := allNe_lt l1; have l1x := allNe_lt (allLt_up l1 l2); have l12 : @LT.lt Nat _ d' x' := l2)
  k_dflt (refine' code_def ?k1 ?k2 ?k3 ?k4 ?k5 ?kA ?kF ?kK ?k6 ?k7 ?k8 ?k9 ?kB ?_ ?c2 ?c3 ?c4 ?c5; (case kA => exact rfl); (case kF => assumption); (case kK => assumption); (case k1 => k_asm); (case k2 => k_asm); (case k3 => k_asm); (case k4 => k_asm); (case k5 => k_asm); (case k6 => k_is); (case k7 => k_is); (case k8 => ktr_room); (case k9 => first | exact BindsTo.of_eq rfl | exact binds_K (by k_in) rfl (by k_is) rfl rfl rfl); (case kB => exact locs rfl); (case c2 => exact rfl); (case c3 => exact rfl); (case c4 => exact rfl); (case c5 => decide); k_whole; intro g1 L1 h1 FG1 F1 N1 B1 X1 T1; (try dsimp only); (try k_fold))
  k_steps
  rename Fr h₀ L _ _ => F9
  rename News h₀ L _ _ => N9
  exact hret _ _ _ _ _ _ _ _ _ l1 l12 F9 N9


end
section
/-- each group of walks starts as in a fresh process: open_top leaves a switch on, and the lines of the group before are dropped -/
theorem walk_off13 : True := by w_top off; k_with_none; trivial
def extRes (ds : List Item) : Except Str (List Int) := match extAll ds with
  | .error b => .error (msg b)
  | .ok ks => if ks = [] then .error (Str.ofString "length-0 dimension vector is invalid") else .ok ks
theorem extRes_err {ds : List Item} {i : Nat} {d : Item} {ks : List Int} {b : Bool} (hdi : ds[i]? = some d) (he : extAll (ds.take i) = .ok ks) (hE : ext d = .error b) : extRes ds = .error (msg b) := by
  unfold extRes; rw [take_split hdi, extAll_err he hE]
theorem extRes_ok {ds : List Item} {ks : List Int} (he : extAll ds = .ok ks) (h : (ds.length : Int) ≠ 0) : extRes ds = .ok ks := by
  unfold extRes; rw [he]; dsimp only; rw [if_neg]
  rintro rfl
  have := extAll_length he
  simp at this; omega
theorem allLt_to {d : Addr} {l : List (Addr × Obj)} (h : AllLt d l) : ∀ p ∈ l, p.1 < d := by
  induction l with
  | nil => exact fun _ h => nomatch h
  | cons q r ih =>
    intro p hp
    rcases List.mem_cons.mp hp with rfl | hp
    · exact h.1
    · exact ih h.2 p hp
theorem absq_nonneg {n q : Int} (hq : 0 < q) : 0 ≤ (if n < 0 then -n else n).fdiv q := Int.fdiv_nonneg (by split <;> omega) (by omega)
theorem absq_pos {n q : Int} (h : 0 ≤ n) : (if n < 0 then -n else n).fdiv q = n.fdiv q := by rw [if_neg (by omega)]
theorem absq_neg {n q : Int} (h : ¬ 0 ≤ n) : (if n < 0 then -n else n).fdiv q = (-n).fdiv q := by rw [if_pos (by omega)]
theorem extc_big {n q : Int} (hq : 0 < q) (h : 2147483647 < (if n < 0 then -n else n).fdiv q) : ext (some (n, q)) = .error true := by
  by_cases h0 : 0 ≤ n
  · rw [absq_pos h0] at h; rw [ext_pos (by omega) h0, if_pos (.inl h)]
  · rw [absq_neg h0] at h; rw [ext_neg (by omega) h0, if_pos (.inr (by omega))]
theorem extc_pos {n q : Int} (hq : 0 < q) (h : ¬ 2147483647 < (if n < 0 then -n else n).fdiv q) (h0 : 0 ≤ n) : ext (some (n, q)) = .ok ((if n < 0 then -n else n).fdiv q) := by
  have h1 := absq_nonneg (n := n) hq
  rw [absq_pos h0] at h h1 ⊢; rw [ext_pos (by omega) h0, if_neg (by omega), if_neg (by omega)]
theorem extc_bad {n q : Int} (hq : 0 < q) (h : ¬ 2147483647 < (if n < 0 then -n else n).fdiv q) (h0 : ¬ 0 ≤ n) (h2 : 0 - (if n < 0 then -n else n).fdiv q < 0) : ext (some (n, q)) = .error false := by
  have h1 := absq_nonneg (n := n) hq
  rw [absq_neg h0] at h h1 h2; rw [ext_neg (by omega) h0, if_neg (by omega), if_pos (by omega)]
theorem extc_neg {n q : Int} (hq : 0 < q) (h : ¬ 2147483647 < (if n < 0 then -n else n).fdiv q) (h0 : ¬ 0 ≤ n) (h2 : ¬ 0 - (if n < 0 then -n else n).fdiv q < 0) : ext (some (n, q)) = .ok (0 - (if n < 0 then -n else n).fdiv q) := by
  have h1 := absq_nonneg (n := n) hq
  rw [absq_neg h0] at h h1 h2 ⊢; rw [ext_neg (by omega) h0, if_neg (by omega), if_neg (by omega), Int.zero_sub]
theorem extc_zero {n q : Int} (hq : ¬ 0 < q) (h : 0 ≤ q) : ext (some (n, q)) = .error true := ext_zero (by omega)
theorem News_head {h₀ h : Heap} {L e : Addr} {o : Obj} {r : List (Addr × Obj)} (N : News h₀ L h ((e, o) :: r)) : h.get? e = some o := (N _ (.head _)).1
theorem news_cons {h₀ h : Heap} {L : Addr} {p : Addr × Obj} {r : List (Addr × Obj)} (N : News h₀ L h r) (h1 : p ∈ r) : News h₀ L h (p :: r) := fun q hq => by
  rcases List.mem_cons.mp hq with rfl | hq
  · exact N _ h1
  · exact N _ hq

theorem walk_line7 : True := by
  k_with "m enter" => (refine' code_def ?k1 ?k2 ?k3 ?k4 ?k5 ?kA ?kF ?kK ?k6 ?k7 ?k8 ?k9 ?kB ?_ ?c2 ?c3 ?c4 ?c5; (case kA => exact rfl); (case kF => assumption); (case kK => assumption); (case k1 => k_asm); (case k2 => k_asm); (case k3 => k_asm); (case k4 => k_asm); (case k5 => k_asm); (case k6 => k_is); (case k7 => k_is); (case k8 => ktr_room); (case k9 => exact BindsTo.of_eq rfl); (case kB => exact locs rfl); (case c2 => exact rfl); (case c3 => exact rfl); (case c4 => exact rfl); (case c5 => decide); k_whole; intro g' L' h' FG' F' N' B' X' T'; (try dsimp only); (try k_fold))
  k_with "m ne" => (intro p hp; simp only [List.mem_cons, List.not_mem_nil, or_false] at hp; first | (subst hp; refine neN ?_; dsimp only; omega) | (rcases hp with h | h | h <;> (subst h; refine neN ?_; dsimp only; omega)))
  k_with "m for" => ((rename Fr _ _ _ _ => lF'); (with_unfolding_all refine' For_invVF lF' ?k1 ?k2 ?_; (case k1 => exact rfl); (case k2 => exact rfl); k_whole))
  k_with "m units" => (have hcL9 := cLine_is; (try simp only [units_in1, units_deeper, Around.mark_units, units_caller] at *); (try dsimp only [top] at *); omega)
  k_with "compareOp Eq ref ref" => (k_here; (with_reducible show wpAny _ _ (compareOp CmpOp.Eq (Value.ref _) (Value.ref _)) _ _ _); (with_unfolding_all refine' eq_intsK ?k1 ?k2 ?k3 ?k4 ?k5 ?_; (case k1 => is_list); (case k2 => l_intsC); (case k3 => is_list); (case k4 => l_intsC); (case k5 => walk_at "m units"); k_whole); (try simp only [filter_tt]))
  k_with "call builtin:len" => (k_here; (with_reducible show wpAny _ _ (call (Value.builtin "len") [Value.ref _]) _ _ _); k_dflt (refine' kst_len ?k1 ?k2 ?k3 ?k4 ?_; (case k1 => k_asm); (case k2 => (repeat (first | assumption | exact List.Mem.head _ | refine List.Mem.tail _ ?_))); (case k3 => first | exact ItemsIn.length (by assumption) | exact IntsAre.length (by assumption)); (case k4 => omega); k_whole))
  k_with "exec Raise some none" => (k_here; k_dflt (refine' Raise_refusal ?hh ?_; (case hh => exact rfl)))
  k_with "call ref" => (k_here; (with_reducible show wpAny _ _ (PySem.call (Value.ref 51) [Value.str _ _]) _ _ _); k_dflt (refine' refusal_new ?B ?F ?X ?T ?hfr ?hk ?N ?hd ?hu ?_; (case B => k_asm); (case F => k_asm); (case X => k_asm); (case N => k_asm); (case T => k_asm); (case hfr => first | exact rfl | assumption); (case hk => first | exact rfl | assumption); (case hd => ktr_room); (case hu => ktr_units)); intro e' dx' tt' h' tk' tk2' F' N' ne'; (try dsimp only); (try k_fold); (refine' ⟨_, _, _, rfl, ?ra, ?rb, ?_⟩; (case ra => exact (Frag.In.keeps (by k_asm) (Fr.keep (by k_asm))) _ _ (ref_obj _)); (case rb => exact (News_head (by k_asm)))))
  trivial
set_option maxHeartbeats 4000000 in
theorem extents_spec {w : World} {mean : ExcName → Option Value} {mg mb : Str → Option Value}
    {dp un : Nat} {gd : Option (List Code)} {env : Env} {outer : List Env} {A₀ : Around} {base h₀ : Heap} {L : Addr} {m : Str → Option Value}
    {s : Shared} {Q E : Value → Shared → Prop} {rest : List (Addr × Obj)}
    {x dx li : Addr} {a b c d e t : Tok} {at' : Value} {sh : Bool} {vs : List Value} {nl : Nat} {ds : List Item}
    (B : Below A₀ base outer h₀) (F : Fr h₀ L s.heap m) (X : (Mine.hd.heap_39 w.params).In h₀)
    (T : Top Mine.hd.view_39 (looseW Mine.hd.view_39 [Str.ofString "MOST_TOTAL"]) mean mg mb h₀)
    (hfr : env.frame = some L) (hk : env.scope.kind = .function) (N : News h₀ L s.heap rest) (hd : dp + 8 < recursionLimit) (hu : un + 250 < cLine)
    (hx : (x, instObj 78 dx) ∈ rest) (hdx : (dx, vecD w.params a b c d e (Str.ofString "double") t (.ref li) at' sh) ∈ rest)
    (hl : (li, listOf vs.toArray nl) ∈ rest) (hi : ItemsIn rest vs ds) (hsz : ds.length < 1000)
    (hretO : ∀ ks fa ws n h' tk', extRes ds = .ok ks → IntsAre ws ks → (∀ p ∈ rest, p.1 < fa) → Fr h₀ L h' m → News h₀ L h' ((fa, listOf ws.toArray n) :: rest) → Q (.ref fa) { s with heap := h', toks := tk' })
    (hretE : ∀ y g2 ex dxx t tk h' tk', extRes ds = .error y → Fr h₀ L g2 m → g2.UpToSlots h' → Flown w.params base g2 (env :: outer) ex dxx y t tk rest h' → E (.ref ex) { s with heap := h', toks := tk' }) :
    wpAny (model PySem.Challenge.rw_pq1397_01.row.prog w) (top dp un gd env outer) (call (.ref 138) [.ref x]) Q E s := by
  have hfill : ((Mine.hd.heap_39 w.params).In h₀ → PySem.Challenge.rw_pq1397_01.row.prog = PySem.Challenge.rw_pq1397_01.row.prog) := by k_fill; intro _; rfl
  clear hfill
  have N0 : News h₀ L s.heap ((x, instObj 78 dx) :: (dx, vecD w.params a b c d e (Str.ofString "double") t (.ref li) at' sh) :: rest) := by
    intro p hp
    rcases List.mem_cons.mp hp with rfl | hp
    · exact N _ hx
    rcases List.mem_cons.mp hp with rfl | hp
    · exact N _ hdx
    · exact N _ hp
  refine wpAny_call ?_
  k_dflt (refine' code_def ?k1 ?k2 ?k3 ?k4 ?k5 ?kA ?kF ?kK ?k6 ?k7 ?k8 ?k9 ?kB ?_ ?c2 ?c3 ?c4 ?c5; (case kA => exact rfl); (case kF => assumption); (case kK => assumption); (case k1 => k_asm); (case k2 => k_asm); (case k3 => k_asm); (case k4 => exact N0); (case k5 => k_asm); (case k6 => k_is); (case k7 => k_is); (case k8 => ktr_room); (case k9 => exact BindsTo.of_eq rfl); (case kB => exact locs rfl); (case c2 => exact rfl); (case c3 => exact rfl); (case c4 => exact rfl); (case c5 => decide); k_whole; intro g1 L1 h1 FG1 F1 N1 B1 X1 T1; (try dsimp only); (try k_fold))
  k_steps
  · rename Fr g1 L1 _ _ => F9
    rename News g1 L1 _ _ => N9
    rename AllNe _ _ => ne9
    rename ((ds.length : Int) = 0) => e0
    refine leave_flown1 B1 F9 N9 ne9 (fun h' R up => hretE _ _ _ _ _ _ _ _ ?_ FG1 up (R.sub fun q hq => ?_))
    · have : ds = [] := List.eq_nil_of_length_eq_zero (by omega)
      subst this; rfl
    · exact .tail _ (.tail _ (.tail _ (.tail _ hq)))
  rename Fr g1 L1 _ _ => F2
  rename News g1 L1 _ _ => N2
  rename (_ < _ ∧ _ < _ ∧ _ < _ ∧ AllLt _ rest) => l2
  refine loopA (x := Str.ofString "item") (y := Str.ofString "found") rfl (.tail _ (.tail _ (.tail _ hl))) (hi.mono fun p hp => .tail _ (.tail _ (.tail _ hp))) ?_ F2 N2 ?_ ?_
  · exact allNe_of l2
  · intro i d v ks ws n u h tk own hdi he hws hlt hI hO hne F3 N3
    match d, hI, hO with
    | none, hI, hO =>
      have hI : v = .none := hI
      subst hI
      try dsimp only
      k_steps
      rename Fr g1 _ _ _ => F9
      rename News g1 _ _ _ => N9
      rename AllNe _ _ => ne9
      exact leave_flown1 B1 F9 N9 ne9 (fun h' R up => hretE _ _ _ _ _ _ _ _ (extRes_err hdi he (b := true) rfl) FG1 up (R.sub fun q hq => .tail _ (.tail _ (List.mem_append_left _ (.tail _ (.tail _ (.tail _ hq)))))))
    | some (n1, q1), ⟨a1, t1, u1, c1, e1, hm1⟩, hO =>
      subst e1
      obtain ⟨q0, q9⟩ := hO
      have N4 := news_cons N3 (.tail _ hm1)
      have ha1 : @Ne Nat a1 _ := hne _ hm1
      clear N3
      try dsimp only
      k_steps
      · rename Fr g1 _ _ _ => F9
        rename News g1 _ _ _ => N9
        rename AllNe _ _ => ne9
        exact leave_flown1 B1 F9 N9 ne9 (fun h' R up => hretE _ _ _ _ _ _ _ _ (extRes_err hdi he (extc_big (by assumption) (by assumption))) FG1 up (R.sub fun q hq => .tail _ (.tail _ (.tail _ (List.mem_append_left _ (.tail _ (.tail _ (.tail _ hq))))))))
      · exfalso
        have := absq_nonneg (n := n1) (q := q1) (by assumption)
        omega
      · rename Fr g1 _ _ _ => F9
        rename News g1 _ _ _ => N9
        (try simp only [List.push_toArray] at N9)
        exact ⟨_, _, _, _, _, _, extc_pos (by assumption) (by assumption) (by assumption), ints_snoc hws, rfl, F9, fun z h1 h2 => by simp [h1, h2], fun p hp => N9 p (.tail _ hp)⟩
      · rename Fr g1 _ _ _ => F9
        rename News g1 _ _ _ => N9
        rename AllNe _ _ => ne9
        exact leave_flown1 B1 F9 N9 ne9 (fun h' R up => hretE _ _ _ _ _ _ _ _ (extRes_err hdi he (extc_bad (by assumption) (by assumption) (by assumption) (by assumption))) FG1 up (R.sub fun q hq => .tail _ (.tail _ (.tail _ (List.mem_append_left _ (.tail _ (.tail _ (.tail _ hq))))))))
      · rename Fr g1 _ _ _ => F9
        rename News g1 _ _ _ => N9
        (try simp only [List.push_toArray] at N9)
        exact ⟨_, _, _, _, _, _, extc_neg (by assumption) (by assumption) (by assumption) (by assumption), ints_snoc hws, rfl, F9, fun z h1 h2 => by simp [h1, h2], fun p hp => N9 p (.tail _ hp)⟩
      · rename Fr g1 _ _ _ => F9
        rename News g1 _ _ _ => N9
        rename AllNe _ _ => ne9
        exact leave_flown1 B1 F9 N9 ne9 (fun h' R up => hretE _ _ _ _ _ _ _ _ (extRes_err hdi he (extc_zero (by assumption) (by assumption))) FG1 up (R.sub fun q hq => .tail _ (.tail _ (.tail _ (List.mem_append_left _ (.tail _ (.tail _ (.tail _ hq))))))))
  · intro ks ws n u1 u2 h tk he hws F3 N3
    try dsimp only
    k_steps
    rename Fr h₀ L _ _ => F9
    rename News h₀ L _ _ => N9
    exact hretO ks _ ws n _ _ (extRes_ok he (by assumption)) hws (allLt_to l2.2.2.2) F9 (fun p hp => N9 p (by
      rcases List.mem_cons.mp hp with rfl | hp
      · exact .head _
      · exact .tail _ (.tail _ (.tail _ (.tail _ hp)))))


end
section
/-- each group of walks starts as in a fresh process: open_top leaves a switch on, and the lines of the group before are dropped -/
theorem walk_off14 : True := by w_top off; k_with_none; trivial
theorem walk_line8 : True := by
  k_with "m enter" => (refine' code_def ?k1 ?k2 ?k3 ?k4 ?k5 ?kA ?kF ?kK ?k6 ?k7 ?k8 ?k9 ?kB ?_ ?c2 ?c3 ?c4 ?c5; (case kA => exact rfl); (case kF => assumption); (case kK => assumption); (case k1 => k_asm); (case k2 => k_asm); (case k3 => k_asm); (case k4 => k_asm); (case k5 => k_asm); (case k6 => k_is); (case k7 => k_is); (case k8 => ktr_room); (case k9 => exact BindsTo.of_eq rfl); (case kB => exact locs rfl); (case c2 => exact rfl); (case c3 => exact rfl); (case c4 => exact rfl); (case c5 => decide); k_whole; intro g' L' h' FG' F' N' B' X' T'; (try dsimp only); (try k_fold))
  k_with "m ne" => (intro p hp; simp only [List.mem_cons, List.not_mem_nil, or_false] at hp; first | (subst hp; refine neN ?_; dsimp only; omega) | (rcases hp with h | h | h <;> (subst h; refine neN ?_; dsimp only; omega)))
  k_with "m for" => ((rename Fr _ _ _ _ => lF'); (with_unfolding_all refine' For_invVF lF' ?k1 ?k2 ?_; (case k1 => exact rfl); (case k2 => exact rfl); k_whole))
  k_with "m units" => (have hcL9 := cLine_is; (try simp only [units_in1, units_deeper, Around.mark_units, units_caller] at *); (try dsimp only [top] at *); omega)
  k_with "compareOp Eq ref ref" => (k_here; (with_reducible show wpAny _ _ (compareOp CmpOp.Eq (Value.ref _) (Value.ref _)) _ _ _); (with_unfolding_all refine' eq_intsK ?k1 ?k2 ?k3 ?k4 ?k5 ?_; (case k1 => is_list); (case k2 => l_intsC); (case k3 => is_list); (case k4 => l_intsC); (case k5 => walk_at "m units"); k_whole); (try simp only [filter_tt]))
  k_with "call ref" => (k_here; k_dflt (refine wpAny_call ?_; (refine' code_def ?k1 ?k2 ?k3 ?k4 ?k5 ?kA ?kF ?kK ?k6 ?k7 ?k8 ?k9 ?kB ?_ ?c2 ?c3 ?c4 ?c5; (case kA => exact rfl); (case kF => exact rfl); (case kK => exact rfl); (case k1 => k_asm); (case k2 => k_asm); (case k3 => k_asm); (case k4 => k_asm); (case k5 => k_asm); (case k6 => k_is); (case k7 => k_is); (case k8 => ktr_room); (case k9 => exact BindsTo.of_eq rfl); (case kB => exact locs rfl); (case c2 => exact rfl); (case c3 => exact rfl); (case c4 => exact rfl); (case c5 => decide); k_whole; intro g' L' h' FG' F' N' B' X' T'; (try dsimp only); (try k_fold))))
  k_with "call builtin:len" => (k_here; (with_reducible show wpAny _ _ (call (Value.builtin "len") [Value.ref _]) _ _ _); k_dflt (refine' kst_len ?k1 ?k2 ?k3 ?k4 ?_; (case k1 => k_asm); (case k2 => (repeat (first | assumption | exact List.Mem.head _ | refine List.Mem.tail _ ?_))); (case k3 => first | exact ItemsIn.length (by assumption) | exact IntsAre.length (by assumption)); (case k4 => omega); k_whole))
  k_with "exec Raise some none" => (k_here; k_dflt (refine' Raise_refusal ?hh ?_; (case hh => exact rfl)))
  k_with "call ref" => (k_here; (with_reducible show wpAny _ _ (PySem.call (Value.ref 51) [Value.str _ _]) _ _ _); k_dflt (refine' refusal_new ?B ?F ?X ?T ?hfr ?hk ?N ?hd ?hu ?_; (case B => k_asm); (case F => k_asm); (case X => k_asm); (case N => k_asm); (case T => k_asm); (case hfr => first | exact rfl | assumption); (case hk => first | exact rfl | assumption); (case hd => ktr_room); (case hu => ktr_units)); intro e' dx' tt' h' tk' tk2' F' N' ne'; (try dsimp only); (try k_fold); (refine' ⟨_, _, _, rfl, ?ra, ?rb, ?_⟩; (case ra => exact (Frag.In.keeps (by k_asm) (Fr.keep (by k_asm))) _ _ (ref_obj _)); (case rb => exact (News_head (by k_asm)))))
  k_with "call ref" => (k_here; (with_reducible show wpAny _ _ (PySem.call (Value.ref 78) [Value.str _ _, _]) _ _ _); k_dflt (refine' vec_new2 ?B ?F ?X ?T ?hfr ?hk ?N ?hd ?hu ?_; (case B => k_asm); (case F => k_asm); (case X => k_asm); (case N => k_asm); (case T => k_asm); (case hfr => first | exact rfl | assumption); (case hk => first | exact rfl | assumption); (case hd => ktr_room); (case hu => ktr_units)); k_whole; intro x' dx' a' b' c' d' e' h' tk' l1 l2 F' N'; (try dsimp only); (try k_fold); (try k_lt l1); (try k_lt2 l2))
  k_with "call ref" => (k_here; (with_reducible show wpAny _ _ (PySem.call (Value.ref 78) [Value.str _ _, _, Value.ref _]) _ _ _); k_dflt (refine' vec_new3 ?B ?F ?X ?T ?hfr ?hk ?N ?hd ?hu ?_; (case B => k_asm); (case F => k_asm); (case X => k_asm); (case N => k_asm); (case T => k_asm); (case hfr => first | exact rfl | assumption); (case hk => first | exact rfl | assumption); (case hd => ktr_room); (case hu => ktr_units)); k_whole; intro x' dx' a' b' c' d' e' h' tk' l1 l2 F' N'; (try dsimp only); (try k_fold); (try k_lt l1); (try k_lt2 l2))
  k_with "call type:list" => (k_here; (with_reducible show wpAny _ _ (call (Value.type _) [Value.ref _]) _ _ _); k_dflt (refine' kup_listOf ?F ?N ?b ?e ?_ ?z; (case F => k_asm); (case N => k_asm); (case b => (repeat (first | assumption | refine List.Mem.tail _ ?_))); (case e => exact rfl); (case z => assumption)); intro D' c' h' F' N' l1; (try k_lt l1))
  trivial
def Stop (p : Prop) : Prop := p
theorem stopIt {p : Prop} (h : Stop p) : p := h
theorem goOn {p : Prop} (h : p) : Stop p := h
theorem rot1 {h₀ h : Heap} {L : Addr} {a b c d : Addr × Obj} {r : List (Addr × Obj)} (N : News h₀ L h (a :: b :: c :: d :: r)) : News h₀ L h (b :: c :: d :: a :: r) := by
  intro p hp; apply N; simp only [List.mem_cons] at hp ⊢; grind
theorem rot3 {h₀ h : Heap} {L : Addr} {a b c d e f : Addr × Obj} {r : List (Addr × Obj)} (N : News h₀ L h (a :: b :: c :: d :: e :: f :: r)) : News h₀ L h (a :: b :: d :: e :: f :: c :: r) := by
  intro p hp; apply N; simp only [List.mem_cons] at hp ⊢; grind
set_option maxHeartbeats 4000000 in
theorem length_spec {w : World} {mean : ExcName → Option Value} {mg mb : Str → Option Value}
    {dp un : Nat} {gd : Option (List Code)} {env : Env} {outer : List Env} {A₀ : Around} {base h₀ : Heap} {L : Addr} {m : Str → Option Value}
    {s : Shared} {Q E : Value → Shared → Prop} {rest : List (Addr × Obj)} {v dv lv : Addr} {a b c d e tv : Tok} {at' : Value} {sh : Bool} {zs : List Value} {nz : Nat} {many : Int} {js : List Int}
    (B : Below A₀ base outer h₀) (F : Fr h₀ L s.heap m) (X : (Mine.hd.heap_39 w.params).In h₀)
    (T : Top Mine.hd.view_39 (looseW Mine.hd.view_39 [Str.ofString "MOST_TOTAL"]) mean mg mb h₀)
    (hfr : env.frame = some L) (hk : env.scope.kind = .function) (N : News h₀ L s.heap rest) (hd : dp + 3 < recursionLimit) (hu : un + 20 < cLine)
    (hv : (v, instObj 78 dv) ∈ rest) (hdv : (dv, vecD w.params a b c d e (Str.ofString "integer") tv (.ref lv) at' sh) ∈ rest)
    (hlv : (lv, listOf zs.toArray nz) ∈ rest) (hzs : IntsAre zs js) (hz : (js.length : Int) = many) (hm1 : many < 1000)
    (hret : ∀ t h' tk', Fr h₀ L h' m → News h₀ L h' rest → Q (.int many t) { s with heap := h', toks := tk' }) :
    wpAny (model PySem.Challenge.rw_pq1397_01.row.prog w) (top dp un gd env outer) (call (.ref 103) [.ref v]) Q E s := by
  have hfill : ((Mine.hd.heap_39 w.params).In h₀ → PySem.Challenge.rw_pq1397_01.row.prog = PySem.Challenge.rw_pq1397_01.row.prog) := by k_fill; intro _; rfl
  clear hfill
  have N0 : News h₀ L s.heap ((v, instObj 78 dv) :: (dv, vecD w.params a b c d e (Str.ofString "integer") tv (.ref lv) at' sh) :: rest) := news_cons (news_cons N hdv) (.tail _ hv)
  subst hz
  refine wpAny_call ?_
  k_dflt (refine' code_def ?k1 ?k2 ?k3 ?k4 ?k5 ?kA ?kF ?kK ?k6 ?k7 ?k8 ?k9 ?kB ?_ ?c2 ?c3 ?c4 ?c5; (case kA => exact rfl); (case kF => assumption); (case kK => assumption); (case k1 => k_asm); (case k2 => k_asm); (case k3 => k_asm); (case k4 => exact N0); (case k5 => k_asm); (case k6 => k_is); (case k7 => k_is); (case k8 => ktr_room); (case k9 => exact BindsTo.of_eq rfl); (case kB => exact locs rfl); (case c2 => exact rfl); (case c3 => exact rfl); (case c4 => exact rfl); (case c5 => decide); k_whole; intro g1 L1 h1 FG1 F1 N1 B1 X1 T1; (try dsimp only); (try k_fold))
  k_steps
  rename Fr h₀ L _ _ => F9
  rename News h₀ L _ _ => N9
  exact hret _ _ _ F9 fun p hp => N9 p (.tail _ (.tail _ hp))
set_option maxHeartbeats 4000000 in
theorem drop_names {w : World} {mean : ExcName → Option Value} {mg mb : Str → Option Value}
    {dp un : Nat} {gd : Option (List Code)} {env : Env} {outer : List Env} {A₀ : Around} {base h₀ : Heap} {L : Addr} {m : Str → Option Value}
    {s : Shared} {Q E : Value → Shared → Prop} {rest : List (Addr × Obj)} {v dv da xn xu : Addr} {a b c d e tv tn : Tok} {it : Value} {sh : Bool} {o : Obj}
    (B : Below A₀ base outer h₀) (F : Fr h₀ L s.heap m) (X : (Mine.hd.heap_39 w.params).In h₀)
    (T : Top Mine.hd.view_39 (looseW Mine.hd.view_39 [Str.ofString "MOST_TOTAL"]) mean mg mb h₀)
    (hfr : env.frame = some L) (hk : env.scope.kind = .function) (N : News h₀ L s.heap ((v, instObj 78 dv) :: (dv, vecD w.params a b c d e (Str.ofString "integer") tv it (.ref da) sh) :: (da, o) :: rest)) (hd : dp + 3 < recursionLimit) (hu : un + 20 < cLine)
    (hdo : Obj.IsDictOf (PySem.strKind PySem.Challenge.rw_pq1397_01.row.prog w) o [(Str.ofString "names", .ref xn), (Str.ofString "unit", .ref xu)]) (hds : (da == sysModules) = false)
    (hva : @Ne Nat v da) (hdva : @Ne Nat dv da) (hda : ∀ p ∈ rest, p.1 ≠ da)
    (hret : ∀ o' h' tk', Obj.IsDictOf (PySem.strKind PySem.Challenge.rw_pq1397_01.row.prog w) o' [(Str.ofString "unit", .ref xu)] → Fr h₀ L h' m → News h₀ L h' ((v, instObj 78 dv) :: (dv, vecD w.params a b c d e (Str.ofString "integer") tv it (.ref da) sh) :: (da, o') :: rest) → Q .none { s with heap := h', toks := tk' }) :
    wpAny (model PySem.Challenge.rw_pq1397_01.row.prog w) (top dp un gd env outer) (call (.ref 117) [.ref v, .str (Str.ofString "names") tn]) Q E s := by
  have hfill : ((Mine.hd.heap_39 w.params).In h₀ → PySem.Challenge.rw_pq1397_01.row.prog = PySem.Challenge.rw_pq1397_01.row.prog) := by k_fill; intro _; rfl
  clear hfill
  refine wpAny_call ?_
  k_dflt (refine' code_def ?k1 ?k2 ?k3 ?k4 ?k5 ?kA ?kF ?kK ?k6 ?k7 ?k8 ?k9 ?kB ?_ ?c2 ?c3 ?c4 ?c5; (case kA => exact rfl); (case kF => assumption); (case kK => assumption); (case k1 => k_asm); (case k2 => k_asm); (case k3 => k_asm); (case k4 => k_asm); (case k5 => k_asm); (case k6 => k_is); (case k7 => k_is); (case k8 => ktr_room); (case k9 => exact BindsTo.of_eq rfl); (case kB => exact locs rfl); (case c2 => exact rfl); (case c3 => exact rfl); (case c4 => exact rfl); (case c5 => decide); k_whole; intro g1 L1 h1 FG1 F1 N1 B1 X1 T1; (try dsimp only); (try k_fold))
  k_steps
  · rename (_ = (0 : Int)) => e0
    simp at e0
  rename Fr h₀ L _ _ => F9
  rename News h₀ L _ _ => N9
  exact hret _ _ _ (by assumption) F9 N9
set_option maxHeartbeats 4000000 in
theorem drop_dimnames {w : World} {mean : ExcName → Option Value} {mg mb : Str → Option Value}
    {dp un : Nat} {gd : Option (List Code)} {env : Env} {outer : List Env} {A₀ : Around} {base h₀ : Heap} {L : Addr} {m : Str → Option Value}
    {s : Shared} {Q E : Value → Shared → Prop} {rest : List (Addr × Obj)} {v dv da xu : Addr} {a b c d e tv tn : Tok} {it : Value} {sh : Bool} {o : Obj}
    (B : Below A₀ base outer h₀) (F : Fr h₀ L s.heap m) (X : (Mine.hd.heap_39 w.params).In h₀)
    (T : Top Mine.hd.view_39 (looseW Mine.hd.view_39 [Str.ofString "MOST_TOTAL"]) mean mg mb h₀)
    (hfr : env.frame = some L) (hk : env.scope.kind = .function) (N : News h₀ L s.heap ((v, instObj 78 dv) :: (dv, vecD w.params a b c d e (Str.ofString "integer") tv it (.ref da) sh) :: (da, o) :: rest)) (hd : dp + 3 < recursionLimit) (hu : un + 20 < cLine)
    (hdo : Obj.IsDictOf (PySem.strKind PySem.Challenge.rw_pq1397_01.row.prog w) o [(Str.ofString "unit", .ref xu)]) (hds : (da == sysModules) = false)
    (hret : ∀ h' tk', Fr h₀ L h' m → News h₀ L h' ((v, instObj 78 dv) :: (dv, vecD w.params a b c d e (Str.ofString "integer") tv it (.ref da) sh) :: (da, o) :: rest) → Q .none { s with heap := h', toks := tk' }) :
    wpAny (model PySem.Challenge.rw_pq1397_01.row.prog w) (top dp un gd env outer) (call (.ref 117) [.ref v, .str (Str.ofString "dimnames") tn]) Q E s := by
  have hfill : ((Mine.hd.heap_39 w.params).In h₀ → PySem.Challenge.rw_pq1397_01.row.prog = PySem.Challenge.rw_pq1397_01.row.prog) := by k_fill; intro _; rfl
  clear hfill
  refine wpAny_call ?_
  k_dflt (refine' code_def ?k1 ?k2 ?k3 ?k4 ?k5 ?kA ?kF ?kK ?k6 ?k7 ?k8 ?k9 ?kB ?_ ?c2 ?c3 ?c4 ?c5; (case kA => exact rfl); (case kF => assumption); (case kK => assumption); (case k1 => k_asm); (case k2 => k_asm); (case k3 => k_asm); (case k4 => k_asm); (case k5 => k_asm); (case k6 => k_is); (case k7 => k_is); (case k8 => ktr_room); (case k9 => exact BindsTo.of_eq rfl); (case kB => exact locs rfl); (case c2 => exact rfl); (case c3 => exact rfl); (case c4 => exact rfl); (case c5 => decide); k_whole; intro g1 L1 h1 FG1 F1 N1 B1 X1 T1; (try dsimp only); (try k_fold))
  k_steps
  rename Fr h₀ L _ _ => F9
  rename News h₀ L _ _ => N9
  exact hret _ _ F9 N9
set_option maxHeartbeats 4000000 in
theorem integer_spec {w : World} {mean : ExcName → Option Value} {mg mb : Str → Option Value}
    {dp un : Nat} {gd : Option (List Code)} {env : Env} {outer : List Env} {A₀ : Around} {base h₀ : Heap} {L : Addr} {m : Str → Option Value}
    {s : Shared} {Q E : Value → Shared → Prop} {rest : List (Addr × Obj)} {fa : Addr} {ws : List Value} {n : Nat} {ks : List Int}
    (B : Below A₀ base outer h₀) (F : Fr h₀ L s.heap m) (X : (Mine.hd.heap_39 w.params).In h₀)
    (T : Top Mine.hd.view_39 (looseW Mine.hd.view_39 [Str.ofString "MOST_TOTAL"]) mean mg mb h₀)
    (hfr : env.frame = some L) (hk : env.scope.kind = .function) (N : News h₀ L s.heap rest) (hd : dp + 5 < recursionLimit) (hu : un + 40 < cLine)
    (hfa : (fa, listOf ws.toArray n) ∈ rest) (hws : IntsAre ws ks) (hk1 : ks.length < 1000)
    (hret : ∀ x dx nl ws' n' a b c d e t h' tk', IntsAre ws' ks → (∀ p ∈ rest, p.1 < nl) → @LT.lt Nat _ nl dx → @LT.lt Nat _ dx x → Fr h₀ L h' m → News h₀ L h' ((x, instObj 78 dx) :: (dx, vecD w.params a b c d e (Str.ofString "integer") t (.ref nl) .none false) :: (nl, listOf ws'.toArray n') :: rest) → Q (.ref x) { s with heap := h', toks := tk' }) :
    wpAny (model PySem.Challenge.rw_pq1397_01.row.prog w) (top dp un gd env outer) (call (.ref 96) [.ref fa]) Q E s := by
  have hfill : ((Mine.hd.heap_39 w.params).In h₀ → PySem.Challenge.rw_pq1397_01.row.prog = PySem.Challenge.rw_pq1397_01.row.prog) := by k_fill; intro _; rfl
  clear hfill
  have hz9 : ws.toArray.toList.length ≤ sizeLine := by
    rw [sizeLine_eq]; have := hws.length; simp only [List.toList_toArray]; omega
  refine wpAny_call ?_
  k_dflt (refine' code_def ?k1 ?k2 ?k3 ?k4 ?k5 ?kA ?kF ?kK ?k6 ?k7 ?k8 ?k9 ?kB ?_ ?c2 ?c3 ?c4 ?c5; (case kA => exact rfl); (case kF => assumption); (case kK => assumption); (case k1 => k_asm); (case k2 => k_asm); (case k3 => k_asm); (case k4 => k_asm); (case k5 => k_asm); (case k6 => k_is); (case k7 => k_is); (case k8 => ktr_room); (case k9 => exact BindsTo.of_eq rfl); (case kB => exact locs rfl); (case c2 => exact rfl); (case c3 => exact rfl); (case c4 => exact rfl); (case c5 => decide); k_whole; intro g1 L1 h1 FG1 F1 N1 B1 X1 T1; (try dsimp only); (try k_fold))
  k_steps
  rename Fr h₀ L _ _ => F9
  rename News h₀ L _ _ => N9
  exact hret _ _ _ _ _ _ _ _ _ _ _ _ _ hws (by first | assumption | exact allLt_to (by assumption)) (And.left (by assumption)) (by assumption) F9 N9
set_option maxHeartbeats 4000000 in
theorem put_dim {w : World} {mean : ExcName → Option Value} {mg mb : Str → Option Value}
    {dp un : Nat} {gd : Option (List Code)} {env : Env} {outer : List Env} {A₀ : Around} {base h₀ : Heap} {L : Addr} {m : Str → Option Value}
    {s : Shared} {Q E : Value → Shared → Prop} {rest : List (Addr × Obj)} {nx ndx v dv da xu : Addr} {a b c d e tv tn : Tok} {a' b' c' d' e' t' : Tok} {it it' : Value} {sh : Bool} {o : Obj}
    (B : Below A₀ base outer h₀) (F : Fr h₀ L s.heap m) (X : (Mine.hd.heap_39 w.params).In h₀)
    (T : Top Mine.hd.view_39 (looseW Mine.hd.view_39 [Str.ofString "MOST_TOTAL"]) mean mg mb h₀)
    (hfr : env.frame = some L) (hk : env.scope.kind = .function) (N : News h₀ L s.heap ((nx, instObj 78 ndx) :: (ndx, vecD w.params a' b' c' d' e' (Str.ofString "integer") t' it' .none false) :: (v, instObj 78 dv) :: (dv, vecD w.params a b c d e (Str.ofString "integer") tv it (.ref da) sh) :: (da, o) :: rest)) (hd : dp + 3 < recursionLimit) (hu : un + 20 < cLine)
    (hdo : Obj.IsDictOf (PySem.strKind PySem.Challenge.rw_pq1397_01.row.prog w) o [(Str.ofString "unit", .ref xu)]) (hds : (da == sysModules) = false)
    (hva : @Ne Nat v da) (hdva : @Ne Nat dv da) (hda : ∀ p ∈ rest, p.1 ≠ da) (hvn : @Ne Nat v ndx) (hdvn : @Ne Nat dv ndx) (hnx : @Ne Nat nx ndx) (hnn : @Ne Nat nx da) (hnd : @Ne Nat ndx da) (hdn : ∀ p ∈ rest, p.1 ≠ ndx)
    (hret : ∀ o' h' tk', Obj.IsDictOf (PySem.strKind PySem.Challenge.rw_pq1397_01.row.prog w) o' [(Str.ofString "unit", .ref xu), (Str.ofString "dim", .ref nx)] → Fr h₀ L h' m → News h₀ L h' ((nx, instObj 78 ndx) :: (ndx, vecD w.params a' b' c' d' e' (Str.ofString "integer") t' it' .none true) :: (v, instObj 78 dv) :: (dv, vecD w.params a b c d e (Str.ofString "integer") tv it (.ref da) sh) :: (da, o') :: rest) → Q .none { s with heap := h', toks := tk' }) :
    wpAny (model PySem.Challenge.rw_pq1397_01.row.prog w) (top dp un gd env outer) (call (.ref 124) [.ref v, .str (Str.ofString "dim") tn, .ref nx]) Q E s := by
  have hfill : ((Mine.hd.heap_39 w.params).In h₀ → PySem.Challenge.rw_pq1397_01.row.prog = PySem.Challenge.rw_pq1397_01.row.prog) := by k_fill; intro _; rfl
  clear hfill
  have had : @Ne Nat da ndx := Ne.symm hnd
  refine wpAny_call ?_
  k_dflt (refine' code_def ?k1 ?k2 ?k3 ?k4 ?k5 ?kA ?kF ?kK ?k6 ?k7 ?k8 ?k9 ?kB ?_ ?c2 ?c3 ?c4 ?c5; (case kA => exact rfl); (case kF => assumption); (case kK => assumption); (case k1 => k_asm); (case k2 => k_asm); (case k3 => k_asm); (case k4 => k_asm); (case k5 => k_asm); (case k6 => k_is); (case k7 => k_is); (case k8 => ktr_room); (case k9 => exact BindsTo.of_eq rfl); (case kB => exact locs rfl); (case c2 => exact rfl); (case c3 => exact rfl); (case c4 => exact rfl); (case c5 => decide); k_whole; intro g1 L1 h1 FG1 F1 N1 B1 X1 T1; (try dsimp only); (try k_fold))
  k_steps
  rename Fr h₀ L _ _ => F9
  rename News h₀ L _ _ => N9
  exact hret _ _ _ (by assumption) F9 N9


end
section
/-- each group of walks starts as in a fresh process: open_top leaves a switch on, and the lines of the group before are dropped -/
theorem walk_off15 : True := by w_top off; k_with_none; trivial
theorem foldl_mul_zero : ∀ (ks : List Int), ks.foldl (· * ·) 0 = (0 : Int)
  | [] => rfl
  | k :: r => by rw [List.foldl_cons, Int.zero_mul]; exact foldl_mul_zero r
theorem foldl_mul_any : ∀ (ks : List Int) (a : Int), ks.any (fun x => x == 0) = true → ks.foldl (· * ·) a = (0 : Int)
  | [], _, h => by cases h
  | k :: r, a, h => by
    rw [List.foldl_cons]
    by_cases hk : k = 0
    · rw [hk, Int.mul_zero]; exact foldl_mul_zero r
    · refine foldl_mul_any r _ ?_
      rw [List.any_cons] at h
      simpa [hk] using h
theorem prodL_zero {ks : List Int} (h : (ks.any fun x => x == 0) = true) : prodL ks = 0 := foldl_mul_any ks 1 h
theorem foldl_mul_ge : ∀ (ks : List Int) (a : Int), 0 ≤ a → (∀ k ∈ ks, 1 ≤ k) → a ≤ ks.foldl (· * ·) a
  | [], _, _, _ => Int.le_refl _
  | k :: r, a, h, hk => by
    have h1 : a ≤ a * k := by
      have := Int.mul_le_mul_of_nonneg_left (hk k (.head _)) h
      rwa [Int.mul_one] at this
    exact Int.le_trans h1 (foldl_mul_ge r _ (Int.le_trans h h1) fun j hj => hk j (.tail _ hj))
theorem prodL_take_le {ks : List Int} (h : (ks.any fun x => x == 0) = false) (hr : ∀ k ∈ ks, 0 ≤ k ∧ k ≤ 2147483647) (i : Nat) : prodL (ks.take i) ≤ prodL ks := by
  have h1 : ∀ k ∈ ks, 1 ≤ k := fun k hk => by
    have h0 := (hr k hk).1
    have := List.any_eq_false.mp h k hk
    have : k ≠ 0 := by simpa using this
    omega
  have e : prodL ks = (ks.drop i).foldl (· * ·) (prodL (ks.take i)) := by
    show ks.foldl (· * ·) 1 = _
    conv => lhs; rw [← List.take_append_drop i ks]
    rw [List.foldl_append]; rfl
  rw [e]
  exact foldl_mul_ge _ _ (prodL_nonneg fun k hk => hr k (List.mem_of_mem_take hk)) fun k hk => h1 k (List.mem_of_mem_drop hk)
theorem extRes_all {ds : List Item} {ks : List Int} (h : extRes ds = .ok ks) : extAll ds = .ok ks ∧ ks ≠ [] := by
  unfold extRes at h
  split at h
  · cases h
  · split at h
    · cases h
    · cases h; exact ⟨by assumption, by assumption⟩
theorem due_of_err {ds : List Item} {y : Str} {many : Int} (h : extRes ds = .error y) : due ds many = .error y := by
  unfold extRes at h; unfold due
  split at h
  · rename_i hh; (try rw [hh]); exact h ▸ rfl
  · rename_i ks hh; (try rw [hh]); (try dsimp only)
    split at h
    · rename_i h0; rw [if_pos h0]; exact h ▸ rfl
    · cases h
theorem due_of_ok {ds : List Item} {ks : List Int} {many : Int} (h : extRes ds = .ok ks) (hp : prodL ks = many) : due ds many = .ok ks := by
  obtain ⟨h1, h2⟩ := extRes_all h
  unfold due; rw [h1]; dsimp only; rw [if_neg h2, if_pos hp]
theorem due_of_bad {ds : List Item} {ks : List Int} {many : Int} (h : extRes ds = .ok ks) (hp : prodL ks ≠ many) : due ds many = .error (badDims (prodL ks) many) := by
  obtain ⟨h1, h2⟩ := extRes_all h
  unfold due; rw [h1]; dsimp only; rw [if_neg h2, if_neg hp]
theorem ne_cons {da fa : Addr} {o : Obj} {rest : List (Addr × Obj)} (h : @Ne Nat fa da) (k : ∀ p ∈ rest, p.1 ≠ da) : ∀ p ∈ (fa, o) :: rest, p.1 ≠ da := fun p hp => by
  rcases List.mem_cons.mp hp with rfl | hp
  · exact h
  · exact k p hp
theorem len_lt {a b n : Nat} (h : a = b) (k : b < n) : a < n := h ▸ k
theorem rotL {h₀ h : Heap} {L : Addr} {a b c d e f g : Addr × Obj} {r : List (Addr × Obj)} (N : News h₀ L h (a :: b :: c :: d :: e :: f :: g :: r)) : News h₀ L h (a :: b :: f :: c :: d :: e :: r) := by
  intro p hp; apply N; simp only [List.mem_cons] at hp ⊢; grind

theorem walk_line9 : True := by
  k_with "m enter" => (refine' code_def ?k1 ?k2 ?k3 ?k4 ?k5 ?kA ?kF ?kK ?k6 ?k7 ?k8 ?k9 ?kB ?_ ?c2 ?c3 ?c4 ?c5; (case kA => exact rfl); (case kF => assumption); (case kK => assumption); (case k1 => k_asm); (case k2 => k_asm); (case k3 => k_asm); (case k4 => k_asm); (case k5 => k_asm); (case k6 => k_is); (case k7 => k_is); (case k8 => ktr_room); (case k9 => exact BindsTo.of_eq rfl); (case kB => exact locs rfl); (case c2 => exact rfl); (case c3 => exact rfl); (case c4 => exact rfl); (case c5 => decide); k_whole; intro g' L' h' FG' F' N' B' X' T'; (try dsimp only); (try k_fold))
  k_with "m ne" => (intro p hp; simp only [List.mem_cons, List.not_mem_nil, or_false] at hp; first | (subst hp; refine neN ?_; dsimp only; omega) | (rcases hp with h | h | h <;> (subst h; refine neN ?_; dsimp only; omega)))
  k_with "m for" => ((rename Fr _ _ _ _ => lF'); (with_unfolding_all refine' For_invVF lF' ?k1 ?k2 ?_; (case k1 => exact rfl); (case k2 => exact rfl); k_whole))
  k_with "m units" => (have hcL9 := cLine_is; (try simp only [units_in1, units_deeper, Around.mark_units, units_caller] at *); (try dsimp only [top] at *); omega)
  k_with "compareOp Eq ref ref" => (k_here; (with_reducible show wpAny _ _ (compareOp CmpOp.Eq (Value.ref _) (Value.ref _)) _ _ _); (with_unfolding_all refine' eq_intsK ?k1 ?k2 ?k3 ?k4 ?k5 ?_; (case k1 => is_list); (case k2 => l_intsC); (case k3 => is_list); (case k4 => l_intsC); (case k5 => walk_at "m units"); k_whole); (try simp only [filter_tt]))
  k_with "call builtin:len" => (k_here; (with_reducible show wpAny _ _ (call (Value.builtin "len") [Value.ref _]) _ _ _); k_dflt (refine' kst_len ?k1 ?k2 ?k3 ?k4 ?_; (case k1 => k_asm); (case k2 => (repeat (first | assumption | exact List.Mem.head _ | refine List.Mem.tail _ ?_))); (case k3 => first | exact ItemsIn.length (by assumption) | exact IntsAre.length (by assumption)); (case k4 => omega); k_whole))
  k_with "exec Raise some none" => (k_here; k_dflt (refine' Raise_refusal ?hh ?_; (case hh => exact rfl)))
  k_with "call ref" => (k_here; (with_reducible show wpAny _ _ (PySem.call (Value.ref 51) [Value.str _ _]) _ _ _); k_dflt (refine' refusal_new ?B ?F ?X ?T ?hfr ?hk ?N ?hd ?hu ?_; (case B => k_asm); (case F => k_asm); (case X => k_asm); (case N => k_asm); (case T => k_asm); (case hfr => first | exact rfl | assumption); (case hk => first | exact rfl | assumption); (case hd => ktr_room); (case hu => ktr_units)); intro e' dx' tt' h' tk' tk2' F' N' ne'; (try dsimp only); (try k_fold); (refine' ⟨_, _, _, rfl, ?ra, ?rb, ?_⟩; (case ra => exact (Frag.In.keeps (by k_asm) (Fr.keep (by k_asm))) _ _ (ref_obj _)); (case rb => exact (News_head (by k_asm)))))
  k_with "call ref" => (k_here; (with_reducible show wpAny _ _ (PySem.call (Value.ref 78) [Value.str _ _, _]) _ _ _); k_dflt (refine' vec_new2 ?B ?F ?X ?T ?hfr ?hk ?N ?hd ?hu ?_; (case B => k_asm); (case F => k_asm); (case X => k_asm); (case N => k_asm); (case T => k_asm); (case hfr => first | exact rfl | assumption); (case hk => first | exact rfl | assumption); (case hd => ktr_room); (case hu => ktr_units)); k_whole; intro x' dx' a' b' c' d' e' h' tk' l1 l2 F' N'; (try dsimp only); (try k_fold); (try k_lt l1); (try k_lt2 l2))
  k_with "call ref" => (k_here; (with_reducible show wpAny _ _ (PySem.call (Value.ref 78) [Value.str _ _, _, Value.ref _]) _ _ _); k_dflt (refine' vec_new3 ?B ?F ?X ?T ?hfr ?hk ?N ?hd ?hu ?_; (case B => k_asm); (case F => k_asm); (case X => k_asm); (case N => k_asm); (case T => k_asm); (case hfr => first | exact rfl | assumption); (case hk => first | exact rfl | assumption); (case hd => ktr_room); (case hu => ktr_units)); k_whole; intro x' dx' a' b' c' d' e' h' tk' l1 l2 F' N'; (try dsimp only); (try k_fold); (try k_lt l1); (try k_lt2 l2))
  k_with "exec For Name Name cons nil" => (k_here; refine stopIt ?_)
  k_with "call ref" => (k_here; (with_reducible show wpAny _ _ (PySem.call (Value.ref 103) [_]) _ _ _); k_dflt (refine' length_spec ?B ?F ?X ?T ?hfr ?hk ?N ?hd ?hu ?hv ?hdv ?hlv ?hzs ?hz ?hm1 ?_; (case B => k_asm); (case F => k_asm); (case X => k_asm); (case N => k_asm); (case T => k_asm); (case hfr => first | exact rfl | assumption); (case hk => first | exact rfl | assumption); (case hd => ktr_room); (case hu => ktr_units); (case hv => exact List.Mem.head _); (case hdv => exact List.Mem.tail _ (List.Mem.head _)); (case hlv => (repeat (first | assumption | exact List.mem_append_left _ (by assumption) | refine List.Mem.tail _ ?_))); (case hzs => assumption); (case hz => assumption); (case hm1 => assumption)); k_whole; intro t' h' tk' F' N'; (try dsimp only); (try k_fold))
  k_with "call ref" => (k_here; (with_reducible show wpAny _ _ (PySem.call (Value.ref 138) [_]) _ _ _); k_dflt (refine' extents_spec ?B ?F ?X ?T ?hfr ?hk ?N ?hd ?hu ?hx ?hdx ?hl ?hi ?hsz ?o ?e; (case B => k_asm); (case F => k_asm); (case X => k_asm); (case N => k_asm); (case T => k_asm); (case hfr => first | exact rfl | assumption); (case hk => first | exact rfl | assumption); (case hd => ktr_room); (case hu => ktr_units); (case hx => (repeat (first | assumption | refine List.Mem.tail _ ?_))); (case hdx => (repeat (first | assumption | refine List.Mem.tail _ ?_))); (case hl => (repeat (first | assumption | refine List.Mem.tail _ ?_))); (case hi => (refine ItemsIn.mono (by assumption) ?_; intro p hp; (repeat (first | assumption | refine List.Mem.tail _ ?_)))); (case hsz => assumption); (case' o => (intro ks' fa' ws' n' h' tk' re' ws2 l1 F' N'; replace N' := rot1 N'; (try dsimp only); (try k_fold); (try k_lt l1))); (case' e => (intro y' g2' ex' dx' t' tk1 h' tk' re' F' up' R'))))
  k_with "call ref" => (k_here; (with_reducible show wpAny _ _ (PySem.call (Value.ref 117) [_, Value.str (Str.ofString "names") _]) _ _ _); k_dflt (refine' drop_names ?B ?F ?X ?T ?hfr ?hk ?N ?hd ?hu ?hdo ?hds ?hva ?hdva ?hda ?_; (case B => k_asm); (case F => k_asm); (case X => k_asm); (case N => k_asm); (case T => k_asm); (case hfr => first | exact rfl | assumption); (case hk => first | exact rfl | assumption); (case hd => ktr_room); (case hu => ktr_units); (case hdo => assumption); (case hds => assumption); (case hva => assumption); (case hdva => assumption); (case hda => exact ne_cons (by assumption) (by assumption))); k_whole; intro o' h' tk' do' F' N'; (try dsimp only); (try k_fold))
  k_with "call ref" => (k_here; (with_reducible show wpAny _ _ (PySem.call (Value.ref 117) [_, Value.str (Str.ofString "dimnames") _]) _ _ _); k_dflt (refine' drop_dimnames ?B ?F ?X ?T ?hfr ?hk ?N ?hd ?hu ?hdo ?hds ?_; (case B => k_asm); (case F => k_asm); (case X => k_asm); (case N => k_asm); (case T => k_asm); (case hfr => first | exact rfl | assumption); (case hk => first | exact rfl | assumption); (case hd => ktr_room); (case hu => ktr_units); (case hdo => assumption); (case hds => assumption)); k_whole; intro h' tk' F' N'; (try dsimp only); (try k_fold))
  k_with "call ref" => (k_here; (with_reducible show wpAny _ _ (PySem.call (Value.ref 96) [_]) _ _ _); k_dflt (refine' integer_spec ?B ?F ?X ?T ?hfr ?hk ?N ?hd ?hu ?hfa ?hws ?hk1 ?_; (case B => k_asm); (case F => k_asm); (case X => k_asm); (case N => k_asm); (case T => k_asm); (case hfr => first | exact rfl | assumption); (case hk => first | exact rfl | assumption); (case hd => ktr_room); (case hu => ktr_units); (case hfa => exact List.Mem.tail _ (List.Mem.tail _ (List.Mem.tail _ (List.Mem.head _)))); (case hws => assumption); (case hk1 => assumption)); k_whole; intro nx' ndx' nn' nws' nc' a' b' c' d' e' t' h' tk' nwi' nl1 nl2 nl3 F' N'; (try dsimp only); (try k_fold); replace N' := rot3 N'; have nl4 := And.intro nl1 (And.intro nl2 nl3); clear nl1 nl2 nl3)
  trivial
set_option maxHeartbeats 8000000 in
theorem set_dim_spec {w : World} {mean : ExcName → Option Value} {mg mb : Str → Option Value}
    {dp un : Nat} {gd : Option (List Code)} {env : Env} {outer : List Env} {A₀ : Around} {base h₀ : Heap} {L : Addr} {m : Str → Option Value}
    {s : Shared} {Q E : Value → Shared → Prop} {rest : List (Addr × Obj)}
    {v dv da xn xu lv x dx li : Addr} {a b c d e tv : Tok} {a' b' c' d' e' t' : Tok} {o : Obj} {at' : Value} {sh : Bool} {zs vs : List Value} {nz nl : Nat} {ds : List Item} {many : Int} {js : List Int}
    (B : Below A₀ base outer h₀) (F : Fr h₀ L s.heap m) (X : (Mine.hd.heap_39 w.params).In h₀)
    (T : Top Mine.hd.view_39 (looseW Mine.hd.view_39 [Str.ofString "MOST_TOTAL"]) mean mg mb h₀)
    (hfr : env.frame = some L) (hk : env.scope.kind = .function) (N : News h₀ L s.heap ((v, instObj 78 dv) :: (dv, vecD w.params a b c d e (Str.ofString "integer") tv (.ref lv) (.ref da) false) :: (da, o) :: rest)) (hd : dp + 20 < recursionLimit) (hu : un + 400 < cLine)
    (hdo : Obj.IsDictOf (PySem.strKind PySem.Challenge.rw_pq1397_01.row.prog w) o [(Str.ofString "names", .ref xn), (Str.ofString "unit", .ref xu)]) (hds : (da == sysModules) = false)
    (hva : @Ne Nat v da) (hdva : @Ne Nat dv da) (hda : ∀ p ∈ rest, p.1 ≠ da)
    (hlv : (lv, listOf zs.toArray nz) ∈ rest) (hzs : IntsAre zs js) (hz : (js.length : Int) = many) (hm1 : many < 1000)
    (hx : (x, instObj 78 dx) ∈ rest) (hdx : (dx, vecD w.params a' b' c' d' e' (Str.ofString "double") t' (.ref li) at' sh) ∈ rest)
    (hl : (li, listOf vs.toArray nl) ∈ rest) (hi : ItemsIn rest vs ds) (hsz : ds.length < 1000)
    (hret : ∀ ks o' nx ndx nl' ws n a' b' c' d' e' t h' tk', due ds many = .ok ks → IntsAre ws ks → Obj.IsDictOf (PySem.strKind PySem.Challenge.rw_pq1397_01.row.prog w) o' [(Str.ofString "unit", .ref xu), (Str.ofString "dim", .ref nx)] → Fr h₀ L h' m →
      News h₀ L h' ((nx, instObj 78 ndx) :: (ndx, vecD w.params a' b' c' d' e' (Str.ofString "integer") t (.ref nl') .none true) :: (nl', listOf ws.toArray n) :: (v, instObj 78 dv) :: (dv, vecD w.params a b c d e (Str.ofString "integer") tv (.ref lv) (.ref da) false) :: (da, o') :: rest) → Q .none { s with heap := h', toks := tk' })
    (hretE : ∀ y g2 ex dxx t tk h' tk', due ds many = .error y → Fr h₀ L g2 m → g2.UpToSlots h' → Flown w.params base g2 (env :: outer) ex dxx y t tk ((v, instObj 78 dv) :: (dv, vecD w.params a b c d e (Str.ofString "integer") tv (.ref lv) (.ref da) false) :: (da, o) :: rest) h' → E (.ref ex) { s with heap := h', toks := tk' }) :
    wpAny (model PySem.Challenge.rw_pq1397_01.row.prog w) (top dp un gd env outer) (call (.ref 145) [.ref v, .ref x]) Q E s := by
  have hfill : ((Mine.hd.heap_39 w.params).In h₀ → PySem.Challenge.rw_pq1397_01.row.prog = PySem.Challenge.rw_pq1397_01.row.prog) := by k_fill; intro _; rfl
  clear hfill
  refine wpAny_call ?_
  k_dflt (refine' code_def ?k1 ?k2 ?k3 ?k4 ?k5 ?kA ?kF ?kK ?k6 ?k7 ?k8 ?k9 ?kB ?_ ?c2 ?c3 ?c4 ?c5; (case kA => exact rfl); (case kF => assumption); (case kK => assumption); (case k1 => k_asm); (case k2 => k_asm); (case k3 => k_asm); (case k4 => k_asm); (case k5 => k_asm); (case k6 => k_is); (case k7 => k_is); (case k8 => ktr_room); (case k9 => exact BindsTo.of_eq rfl); (case kB => exact locs rfl); (case c2 => exact rfl); (case c3 => exact rfl); (case c4 => exact rfl); (case c5 => decide); k_whole; intro g1 L1 h1 FG1 F1 N1 B1 X1 T1; (try dsimp only); (try k_fold))
  k_steps
  · rename Flown _ _ _ _ _ _ _ _ _ _ _ => R9
    rename Heap.UpToSlots _ _ => up9
    rename Fr g1 _ _ _ => F9
    rename extRes ds = _ => re9
    exact leave_flown2 B1 F9 R9 up9 (fun h' R up => hretE _ _ _ _ _ _ _ _ (due_of_err re9) FG1 up R)
  · rename extRes ds = .ok _ => re
    rename IntsAre _ _ => ws2
    rename ((List.any _ _) = _) => an
    rename (_ < _ ∧ _ < _ ∧ _ < _ ∧ AllLt _ rest) => l5
    rename List Int => ks9
    have hrange := extAll_range (extRes_all re).1
    have hk1 := len_lt (extAll_length (extRes_all re).1) hsz
    have hfd : @Ne Nat _ da := Nat.ne_of_gt l5.2.2.1
    refine goOn ?_
    walk_at "m for"
    walk1
    rename News g1 _ _ _ => N5
    rename Fr g1 _ _ _ => F5
    refine loopB (x := Str.ofString "extent") (y := Str.ofString "total") (by decide) (fun i a => a = 0) rfl (.tail _ (.tail _ (.tail _ (.head _)))) ws2 F5 rfl N5 rfl ?_ ?_
    · intro i k t9 a9 ta9 h tk own hki hJ F6 N6
      have hkr := hrange k (List.mem_of_getElem? hki)
      (try simp only [List.cons_append] at N6)
      have hmany : 0 ≤ many := by omega
      have hlen2 := strlen hmany (by omega)
      try dsimp only
      k_steps
      · exfalso
        rename (1000000000000000000 < a9 * k) => hbig
        rw [hJ, Int.zero_mul] at hbig
        omega
      · rename Fr g1 _ _ _ => F9
        rename News g1 _ _ _ => N9
        exact ⟨_, _, _, _, _, by rw [hJ, Int.zero_mul], rfl, F9, rfl, fun z h1 h2 => by simp [h1, h2], N9⟩

    · intro a9 ta9 u h tk hJ F6 N6
      have e9 : a9 = prodL ks9 := hJ.trans (prodL_zero an).symm
      have h18 : a9 ≤ 1000000000000000000 := by omega
      have ha0 : 0 ≤ a9 := e9 ▸ prodL_nonneg hrange
      have hlen := strlen ha0 h18
      have hmany : 0 ≤ many := by omega
      have hlen2 := strlen hmany (by omega)
      try dsimp only
      k_steps
      · rename Fr g1 _ _ _ => F9
        rename News g1 _ _ _ => N9
        rename AllNe _ _ => ne9
        rename (a9 ≠ many) => hne
        have hE : due ds many = .error _ := due_of_bad re (e9 ▸ hne)
        rw [← e9, bad_small h18] at hE
        exact leave_flown1 B1 F9 N9 ne9 (fun h' R up => hretE _ _ _ _ _ _ _ _ hE FG1 up (R.sub fun q hq => .tail _ (by
          rcases List.mem_cons.mp hq with rfl | hq
          · exact .head _
          rcases List.mem_cons.mp hq with rfl | hq
          · exact .tail _ (.head _)
          rcases List.mem_cons.mp hq with rfl | hq
          · exact .tail _ (.tail _ (.head _))
          · exact .tail _ (.tail _ (.tail _ (.tail _ hq))))))
      · rename Fr g1 _ _ _ => F9
        rename News g1 _ _ _ => N9
        rename (a9 = many) => hme
        rename ((∀ (p : Addr × Obj), p ∈ _ → p.1 < _) ∧ _ < _ ∧ _ < _) => q4
        obtain ⟨q1, q2, q3⟩ := q4
        have q5 := fun p hp => Nat.lt_trans (q1 p hp) q2
        have z1 := Nat.ne_of_lt (q5 _ (.head _))
        have z2 := Nat.ne_of_lt (q5 _ (.tail _ (.head _)))
        have z3 : @Ne Nat _ _ := Nat.ne_of_gt (q5 _ (.tail _ (.tail _ (.head _))))
        have z4 := Nat.lt_trans (q5 _ (.tail _ (.tail _ (.head _)))) q3
        k_dflt (refine' put_dim ?B ?F ?X ?T ?hfr ?hk ?N ?hd ?hu ?hdo ?hds ?hva ?hdva ?hda ?hvn ?hdvn ?hnx ?hnn ?hnd ?hdn ?_; (case B => k_asm); (case F => k_asm); (case X => k_asm); (case N => k_asm); (case T => k_asm); (case hfr => first | exact rfl | assumption); (case hk => first | exact rfl | assumption); (case hd => ktr_room); (case hu => ktr_units); (case hdo => assumption); (case hds => assumption); (case hva => assumption); (case hdva => assumption); (case hvn => exact z1); (case hdvn => exact z2); (case hnx => exact Nat.ne_of_gt q3); (case hnn => exact Nat.ne_of_gt z4); (case hnd => exact z3); (case hda => exact ne_cons (Nat.ne_of_gt (q1 _ (.tail _ (.tail _ (.head _))))) (ne_cons hfd hda)); (case hdn => exact ne_cons (Nat.ne_of_lt q2) (fun p hp => Nat.ne_of_lt (q5 p (.tail _ (.tail _ (.tail _ hp)))))))
        k_whole
        intro o9 h9 tk9 do9 F8 N8
        (try dsimp only)
        (try k_fold)
        k_steps
        rename Fr h₀ L _ _ => F7
        rename News h₀ L _ _ => N7
        exact hret _ _ _ _ _ _ _ _ _ _ _ _ _ _ _ (due_of_ok re (e9.symm.trans hme)) (by assumption) do9 F7 (rotL N7)

  · rename extRes ds = .ok _ => re
    rename IntsAre _ _ => ws2
    rename ((List.any _ _) = _) => an
    rename (_ < _ ∧ _ < _ ∧ _ < _ ∧ AllLt _ rest) => l5
    rename List Int => ks9
    have hrange := extAll_range (extRes_all re).1
    have hk1 := len_lt (extAll_length (extRes_all re).1) hsz
    have hfd : @Ne Nat _ da := Nat.ne_of_gt l5.2.2.1
    refine goOn ?_
    walk_at "m for"
    walk1
    rename News g1 _ _ _ => N5
    rename Fr g1 _ _ _ => F5
    refine loopB (x := Str.ofString "extent") (y := Str.ofString "total") (by decide) (fun i a => a = prodL (List.take i ks9) ∧ a ≤ 1000000000000000000) rfl (.tail _ (.tail _ (.tail _ (.head _)))) ws2 F5 rfl N5 ⟨rfl, by decide⟩ ?_ ?_
    · intro i k t9 a9 ta9 h tk own hki hJ F6 N6
      have hkr := hrange k (List.mem_of_getElem? hki)
      (try simp only [List.cons_append] at N6)
      have hmany : 0 ≤ many := by omega
      have hlen2 := strlen hmany (by omega)
      try dsimp only
      k_steps
      · rename Fr g1 _ _ _ => F9
        rename News g1 _ _ _ => N9
        rename AllNe _ _ => ne9
        rename (1000000000000000000 < a9 * k) => hbig
        obtain ⟨hJ1, hJ2⟩ := hJ
        have hp := prodL_take_le an hrange (i + 1)
        rw [take_snoc hki, prodL_snoc, ← hJ1] at hp
        have hE : due ds many = .error _ := due_of_bad re (by omega)
        rw [bad_big (by omega)] at hE
        exact leave_flown1 B1 F9 N9 ne9 (fun h' R up => hretE _ _ _ _ _ _ _ _ hE FG1 up (R.sub fun q hq => .tail _ (by
          rcases List.mem_cons.mp hq with rfl | hq
          · exact .head _
          rcases List.mem_cons.mp hq with rfl | hq
          · exact .tail _ (.head _)
          rcases List.mem_cons.mp hq with rfl | hq
          · exact .tail _ (.tail _ (.head _))
          · exact .tail _ (.tail _ (.tail _ (.tail _ (List.mem_append_left _ hq)))))))
      · rename Fr g1 _ _ _ => F9
        rename News g1 _ _ _ => N9
        exact ⟨_, _, _, _, _, ⟨by rw [take_snoc hki, prodL_snoc, hJ.1], by omega⟩, rfl, F9, rfl, fun z h1 h2 => by simp [h1, h2], N9⟩

    · intro a9 ta9 u h tk hJ F6 N6
      obtain ⟨e9, h18⟩ := hJ
      rw [List.take_length] at e9
      have ha0 : 0 ≤ a9 := e9 ▸ prodL_nonneg hrange
      have hlen := strlen ha0 h18
      have hmany : 0 ≤ many := by omega
      have hlen2 := strlen hmany (by omega)
      try dsimp only
      k_steps
      · rename Fr g1 _ _ _ => F9
        rename News g1 _ _ _ => N9
        rename AllNe _ _ => ne9
        rename (a9 ≠ many) => hne
        have hE : due ds many = .error _ := due_of_bad re (e9 ▸ hne)
        rw [← e9, bad_small h18] at hE
        exact leave_flown1 B1 F9 N9 ne9 (fun h' R up => hretE _ _ _ _ _ _ _ _ hE FG1 up (R.sub fun q hq => .tail _ (by
          rcases List.mem_cons.mp hq with rfl | hq
          · exact .head _
          rcases List.mem_cons.mp hq with rfl | hq
          · exact .tail _ (.head _)
          rcases List.mem_cons.mp hq with rfl | hq
          · exact .tail _ (.tail _ (.head _))
          · exact .tail _ (.tail _ (.tail _ (.tail _ hq))))))
      · rename Fr g1 _ _ _ => F9
        rename News g1 _ _ _ => N9
        rename (a9 = many) => hme
        rename ((∀ (p : Addr × Obj), p ∈ _ → p.1 < _) ∧ _ < _ ∧ _ < _) => q4
        obtain ⟨q1, q2, q3⟩ := q4
        have q5 := fun p hp => Nat.lt_trans (q1 p hp) q2
        have z1 := Nat.ne_of_lt (q5 _ (.head _))
        have z2 := Nat.ne_of_lt (q5 _ (.tail _ (.head _)))
        have z3 : @Ne Nat _ _ := Nat.ne_of_gt (q5 _ (.tail _ (.tail _ (.head _))))
        have z4 := Nat.lt_trans (q5 _ (.tail _ (.tail _ (.head _)))) q3
        k_dflt (refine' put_dim ?B ?F ?X ?T ?hfr ?hk ?N ?hd ?hu ?hdo ?hds ?hva ?hdva ?hda ?hvn ?hdvn ?hnx ?hnn ?hnd ?hdn ?_; (case B => k_asm); (case F => k_asm); (case X => k_asm); (case N => k_asm); (case T => k_asm); (case hfr => first | exact rfl | assumption); (case hk => first | exact rfl | assumption); (case hd => ktr_room); (case hu => ktr_units); (case hdo => assumption); (case hds => assumption); (case hva => assumption); (case hdva => assumption); (case hvn => exact z1); (case hdvn => exact z2); (case hnx => exact Nat.ne_of_gt q3); (case hnn => exact Nat.ne_of_gt z4); (case hnd => exact z3); (case hda => exact ne_cons (Nat.ne_of_gt (q1 _ (.tail _ (.tail _ (.head _))))) (ne_cons hfd hda)); (case hdn => exact ne_cons (Nat.ne_of_lt q2) (fun p hp => Nat.ne_of_lt (q5 p (.tail _ (.tail _ (.tail _ hp)))))))
        k_whole
        intro o9 h9 tk9 do9 F8 N8
        (try dsimp only)
        (try k_fold)
        k_steps
        rename Fr h₀ L _ _ => F7
        rename News h₀ L _ _ => N7
        exact hret _ _ _ _ _ _ _ _ _ _ _ _ _ _ _ (due_of_ok re (e9.symm.trans hme)) (by assumption) do9 F7 (rotL N7)


end
section
/-- each group of walks starts as in a fresh process: open_top leaves a switch on, and the lines of the group before are dropped -/
theorem walk_off16 : True := by w_top off; k_with_none; trivial
section
variable {prog : Program} {w : World} {A₀ A : Around} {s : Shared} {base h₀ : Heap} {L : Addr} {env : Env} {m : Str → Option Value} {news : List (Addr × Obj)} {K : Frag} {p : Program} {loose : List Str} {mean : ExcName → Option Value} {mg mb : Str → Option Value}
    {R : Result → Shared → Prop} {name qual : Str} {params : Arguments} {body : List Stmt} {scope : Scope} {dV kV doc pm cdv ct oc : Value} {an od : Option Addr} {osl : Array (Option Value)} {f : Addr} {args : Args} {binds : List (Str × Value)}
theorem mem_one (hf : env.frame = some L) {b : Addr} (hb : b ∈ [env].filterMap (·.frame)) : b = L := by
  obtain ⟨e, he, hfe⟩ := List.mem_filterMap.mp hb
  obtain rfl : e = env := List.mem_singleton.mp he
  exact (Option.some.inj (hf.symm.trans hfe)).symm
/-- a def called from the one frame `env`, which frames that pass through may mark -/
theorem code_defT (B : Below A₀ base [] h₀) (F : Fr h₀ L s.heap m) (X₀ : K.In h₀) (N : News h₀ L s.heap news) (T : Top p loose mean mg mb h₀) (hA : A.frames = some [env]) (hf : env.frame = some L) (hke : env.scope.kind = .function)
    (ho : K.lookup f = some ⟨oc, od, .func (fnOf name qual params body scope dV kV doc pm an cdv ct), osl⟩) (hcd : codeIn K cdv qual = true) (hroom : A.depth < recursionLimit)
    (hbind : BindsTo s (fnOf name qual params body scope dV kV doc pm an cdv ct) args binds) (hloc : ∀ y ∈ binds, scope.names.lookup y.1 = some .local)
    (h : ∀ g L' h₁, Fr h₀ L g m → Fr g L' h₁ (fun y => binds.reverse.lookup y) → News g L' h₁ news → Below A base [env] g → K.In g → Top p loose mean mg mb g → KtsDicts ([env].filterMap (·.frame)) g →
      wpAny (model prog w) (A.deeper (envOf qual scope L' f cdv)) (execs body (envOf qual scope L' f cdv))
        (fun fl s' => LeaveS0 ([env].filterMap (·.frame)) h₀ L m g R (match fl with | .ret v => v | _ => .none) s')
        (fun e s' => wpAny (model prog w) (A.deeper (envOf qual scope L' f cdv)) (leaving (envOf qual scope L' f cdv) e) (fun _ s'' => R (.error e) s'') (fun e' s'' => R (.error e') s'') s')
        { s with heap := h₁, toks := s.toks + binds.length })
    (hco : scope.isCoroutine = false) (hgen : scope.isGenerator = false) (hk : scope.kind = .function)
    (hcell : ∀ x ∈ scope.names, x.2 ≠ .cell) : codeAny (model prog w) A (.call (.ref f) args) R s := by
  have X := X₀.keeps F.keep
  refine codeAny_call_def (fd := fnOf name qual params body scope dV kV doc pm an cdv ct) (body := body) (binds := binds) hroom (X _ _ ho) rfl (T.nolimit.keeps F.keep) (codeRec_of X hcd) rfl hbind hcell hloc (fun h₁ hns hk₁ => ?_) hco hgen hk
  obtain ⟨FG, BG, st, _⟩ := groundX (R := fun _ _ => True) B F N hA hf hke
  obtain ⟨oL, es, ep, hLg, hLd, hLk, hLf⟩ := FG.ns
  refine wpAny_mono (h _ s.heap.objs.size h₁ FG ⟨hns, fun b o e => hk₁ b o (of_hideAll _ e), Nat.le_of_eq (hideAll_size _ _)⟩
    (fun p hp => ⟨hk₁ _ _ (N p hp).1, Nat.ne_of_lt (Heap.lt_size (N p hp).1), hideAll_none _ (List.mem_map_of_mem hp)⟩) BG (X₀.keeps st) (T.keeps st) (fun b hb => by
      rw [mem_one hf hb]
      exact ⟨oL, es, ep, hLg, hLd⟩)) (fun fl s' hl => ?_) fun _ _ y => y
  obtain ⟨g', L', m', news', T', F', N', k⟩ := hl
  have nL₀ : h₀.get? L = none := kts_self F
  obtain ⟨sl, hs⟩ := T'.up hLg
  refine k ⟨⟨_, es, ep, F'.keep _ _ hs, hLd, hLk, hLf⟩, fun b o e => F'.keep b o (T'.other b o (st b o e) (fun q => by
    rw [mem_one hf q, nL₀] at e; cases e)), F.above⟩ fun p hp => ⟨(N' p hp).1, fun q => ?_, ?_⟩
  · have := (N' p hp).2.2; rw [q, hs] at this; cases this
  · cases q : h₀.get? p.1 with
    | none => rfl
    | some o =>
      obtain ⟨sl', hs'⟩ := T'.up (st _ _ q)
      have := (N' p hp).2.2
      rw [hs'] at this
      cases this
end

theorem get_msgK {prog : Program} {w : World} {A : Around} {E : Value → Shared → Prop} {s : Shared} {h₀ : Heap} {L e dx : Addr} {m : Str → Option Value} {news : List (Addr × Obj)} {oe : Obj} {vs : Array Value} {x : Str} {t tk : Tok} {expr : Bool} {Q : Value → Shared → Prop}
    (X : (Mine.hd.heap_39 w.params).In h₀) (F : Fr h₀ L s.heap m) (N : News h₀ L s.heap news) (he : (e, oe) ∈ news) (hd : (dx, msgDict w.params tk x t) ∈ news) (hc : oe.cls = .ref 51) (hf : oe.data = .fields vs) (hdict : oe.dict = some dx)
    (h : Q (.str x t) { s with toks := s.toks + 1 }) : wpAny (model prog w) A (getAttr (.ref e) (Str.ofString "message") expr) Q E s :=
  get_message (es := [⟨PyData.keyHash w.params (Str.ofString "message"), .str (Str.ofString "message") tk, .str x t⟩]) (n := 1) (X.keeps F.keep)
    ⟨(N _ he).1, hc, by unfold notCls; rw [hf], by rw [hdict]; exact (N _ hd).1⟩ rfl rfl h
theorem keep11 {h₀ h : Heap} {L : Addr} {a b c d e f g i j k l : Addr × Obj} {r : List (Addr × Obj)} (N : News h₀ L h (a :: b :: c :: d :: e :: f :: g :: i :: j :: k :: l :: r)) : News h₀ L h (a :: b :: j :: k :: r) := by
  intro p hp; apply N; simp only [List.mem_cons] at hp ⊢; grind
theorem rotA {h₀ h : Heap} {L : Addr} {a b c d e : Addr × Obj} {r : List (Addr × Obj)} (N : News h₀ L h (a :: b :: c :: d :: e :: r)) : News h₀ L h (c :: d :: e :: a :: b :: r) := by
  intro p hp; apply N; simp only [List.mem_cons] at hp ⊢; grind
theorem rotB {h₀ h : Heap} {L : Addr} {a b c d e f : Addr × Obj} {r : List (Addr × Obj)} (N : News h₀ L h (a :: b :: c :: d :: e :: f :: r)) : News h₀ L h (d :: e :: f :: a :: b :: c :: r) := by
  intro p hp; apply N; simp only [List.mem_cons] at hp ⊢; grind
theorem zeros_len {many : Int} {n : Nat} (h0 : 0 ≤ many) : ((List.replicate many.toNat [(0 : Int)]).flatten.length : Int) = many := by
  have : ∀ n : Nat, (List.replicate n [(0 : Int)]).flatten.length = n := fun n => by
    induction n with
    | zero => rfl
    | succ n ih => rw [List.replicate_succ, List.flatten_cons, List.length_append, ih]; simp; omega
  rw [this]; omega
theorem dict2 {prog : Program} {w : World} {o : Obj} {x y : Str} {t t' : Tok} {u v : Value} (h : Obj.IsDictOf (PySem.strKind prog w) o (strPairs [(.str x t, u), (.str y t', v)])) : Obj.IsDictOf (PySem.strKind prog w) o [(x, u), (y, v)] := h
theorem ref_ns (P : Params) : nsIn (Mine.hd.heap_39 P) mainGlobals (Str.ofString "Refusal") = some (some (.ref 51)) := by kernel_rfl
theorem ref_kts (P : Params) : ktsIn (Mine.hd.heap_39 P) 51 "BaseException" = true := by kernel_rfl
section
variable {w : World} {A : Around} {E : Value → Shared → Prop} {s : Shared} {h₀ : Heap} {L d : Addr} {m : Str → Option Value} {news : List (Addr × Obj)} {o : Obj} {x y : Str} {u v : Value} {Q : Value → Shared → Prop} {prog : Program}
theorem sorted_dict2 (hh : A.handled = none) (F : Fr h₀ L s.heap m) (N : News h₀ L s.heap news) (hm : (d, o) ∈ news) (ho : Obj.IsDictOf (PySem.strKind prog w) o [(x, u), (y, v)]) (lo : (d == sysModules) = false)
    (h : ∀ (B : Addr) h' tk t t', Fr h₀ L h' m → News h₀ L h' ((B, listOf [Value.str x t, Value.str y t'].toArray 0) :: news) → (∀ q ∈ news, q.1 < B) →
      wpAny (model prog w) A.in1 (call (.builtin "list.sort") [.ref B]) (fun _ s' => Q (.ref B) s') E { s with heap := h', toks := tk }) :
    wpAny (model prog w) A (call (.builtin "sorted") [.ref d]) Q E s := by
  obtain ⟨ep, hat⟩ := Heap.DictOf.dictAt (Heap.dictOf_iff.mpr ⟨o, (N _ hm).1, ho⟩)
  refine kdu_sorted (kdl_dict (knd := PySem.strKind prog w) (kvs := [(x, u), (y, v)]) (ep := ep) lo) hh F N hat (kdl_size (by show 2 ≤ 16777216; decide)) fun B h' tk vs F' N' l1 hl hv => ?_
  obtain ⟨a, b, rfl⟩ : ∃ a b, vs = [a, b] := by
    match vs, hl with
    | [a, b], _ => exact ⟨a, b, rfl⟩
  obtain ⟨k1, x1, e1, i1⟩ := hv 0 a rfl
  obtain ⟨k2, x2, e2, i2⟩ := hv 1 b rfl
  cases e1; cases e2
  obtain ⟨t, rfl⟩ := Value.isStrOf_shape i1
  obtain ⟨t', rfl⟩ := Value.isStrOf_shape i2
  exact h B h' tk t t' F' N' l1
end

section
variable {prog : Program} {w : World} {A : Around} {E : Value → Shared → Prop} {s : Shared}
theorem entry_unchain : entryFor table "proto.unchain" = some Builtin.«proto.unchain» := entryFor_of_fast (by kernel_rfl)
theorem plain_unchain : plainId "proto.unchain" = true := by decide +kernel
theorem raiseNew_under {α : Type} {e c : Addr} {oc oe : Obj} {vs us : Array Value} {Q : α → Shared → Prop} (hh : A.handled = some (.ref c)) (hne : c ≠ e) (hc : s.heap.get? c = some oc) (hd : oc.data = .fields vs) (h2 : vs[2]? = some .none)
    (he : s.heap.get? e = some oe) (hde : oe.data = .fields us) (hsz : 2 < us.size) (h : E (.ref e) { s with heap := s.heap.update e (Obj.mapFields (·.setIfInBounds 2 (.ref c))) }) :
    wpAny (model prog w) A (raiseNew (.ref e) : Sem α) Q E s := by
  unfold raiseNew
  refine wpAny_bind (wpAny_handled ?_)
  rw [hh]
  dsimp only
  have hb : (Value.ref c != Value.ref e) = true := by simp [bne, hne]
  rw [if_pos hb]
  refine wpAny_bind (wpAny_holding (wpAny_runValue (codeAny_builtin entry_unchain ?_)))
  rw [Around.under_plainId plain_unchain _]
  show wpAny _ _ (field (.ref c) 2 >>= _) _ _ _
  refine wpAny_bind (wpAny_field hc hd h2 ?_)
  refine wpAny_pure ?_
  show wpAny _ _ (updateField e 2 (.ref c) >>= _) _ _ _
  refine wpAny_bind (wpAny_setField (a := e) (i := 2) (x := .ref c) he hde hsz ?_)
  exact wpAny_throw h
end
/-- the exception at hand bears no context -/
def HandOk (h : Heap) (c : Addr) : Prop := ∃ oc vs, h.get? c = some oc ∧ oc.data = .fields vs ∧ vs[2]? = some .none
theorem HandOk.at {h h' : Heap} {c : Addr} (x : HandOk h c) (k : ∀ o, h.get? c = some o → h'.get? c = some o) : HandOk h' c :=
  let ⟨oc, vs, e, r⟩ := x; ⟨oc, vs, k _ e, r⟩
section
variable {K : Type} [DecidableEq K] {prog : Program} {w : World} {knd : KeyKind prog w K} {A : Around} {E : Value → Shared → Prop} {s : Shared} {c : Addr}
theorem next_end_under {it d : Addr} {i ep : Nat} {kvs : List (K × Value)} {Q : Option Value → Shared → Prop} (hh : A.handled = some (.ref c)) (HC : HandOk s.heap c) (hci : c ≠ it) (hit : s.heap.IsKeyIter it d i kvs.length ep)
    (hm : s.heap.DictAt knd d kvs ep) (hx : kvs[i]? = none) (hQ : ∀ h', Heap.ExtBut it s.heap h' → Q none { s with heap := h' }) : wpAny (model prog w) A (pyNext (.ref it)) Q E s := by
  obtain ⟨o, ho, hc, hd⟩ := id hit
  obtain ⟨od, es, hod, hcd, hdd, hk, hp, hn⟩ := id hm
  obtain ⟨oc, vs, hoc, hdc, h2⟩ := HC
  unfold pyNext
  refine wpAny_bind (wpAny_attempt (wpAny_callSpecial?_slot (name := Str.ofString "__next__") hit.typeIs PySem.F.slot_dict_keyiterator_next
    (wpAny_call_entry PySem.F.slot_dict_keyiterator_next hit.typeIs PySem.F.entry_dict_keyiterator_next ?_ (PySem.F.args_dict_keyiterator_next_1 _))))
  refine wpAny_bind (wpAny_pure ?_)
  refine wpAny_bind ?_
  refine wpAny_bind ?_
  first | refine wpAny_bind (wpAny_typeNameOfWhole_keyiter hit.typeIs (wpAny_pure ?_)) | refine wpAny_bind (wpAny_typeNameOf_keyiter hit.typeIs (wpAny_pure ?_))
  refine wpAny_bind (wpAny_fieldsOf ho hd ?_)
  have hown : Builtin.Dict_items.ownsTuple "dict_keyiterator" = false := by decide
  simp only [hown, Bool.false_eq_true, if_false]
  show wpAny _ _ (if (Value.ref d == Value.none) = true then _ else _) _ _ s
  rw [if_neg (show ¬ ((Value.ref d == Value.none) = true) from Bool.false_ne_true)]
  refine wpAny_bind (wpAny_pure ?_)
  refine wpAny_bind (wpAny_dictEntries hod hdd ?_)
  have hsz : es.size = kvs.length := by rw [← hp.length]; simp
  rw [if_neg (by rw [hsz]; simp)]
  refine wpAny_bind (wpAny_pure ?_)
  refine wpAny_bind (wpAny_dictEpoch hod hdd ?_)
  rw [if_neg (by simp)]
  refine wpAny_pure ?_
  have hge : es.size ≤ i := by rw [hsz]; simpa using hx
  simp only [show ¬ ((i : Int) < 0) from by omega, if_false, Int.toNat_natCast, Array.getElem?_eq_none hge]
  refine wpAny_bind ?_
  first | refine wpAny_bind (wpAny_typeNameOfWhole_keyiter hit.typeIs (wpAny_pure ?_)) | refine wpAny_bind (wpAny_typeNameOf_keyiter hit.typeIs (wpAny_pure ?_))
  show wpAny _ _ (setField (.ref it) 0 .none >>= _) _ _ s
  refine wpAny_bind (wpAny_setField ho hd (by simp) ?_)
  show wpAny _ _ (newExc (.type "StopIteration") [] >>= _) _ _ _
  refine wpAny_bind ?_
  simp only [newExc, newTuple]
  refine wpAny_bind (wpAny_newObj_type ?_ (by size_fits))
  refine wpAny_bind (m := firstArgMember _ _) (wpAny_of_eq (a := Value.none) (by first | rfl | (simp only [firstArgMember]; rfl)) ?_)
  refine wpAny_newObj_type ?_ (by size_fits)
  have hlt := Heap.lt_size hoc
  refine raiseNew_under (show A.in1.handled = some (.ref c) from hh) (Nat.ne_of_lt (Nat.lt_of_lt_of_le hlt (by rw [Heap.size_push, Heap.size_after_update]; exact Nat.le_succ _))) (Heap.get?_push_of_some _ (Heap.get?_push_of_some _ ((Heap.get?_update_other _ _ (Ne.symm hci)).trans hoc))) hdc h2 (Heap.get?_push_size _ rfl) rfl (by simp; omega) ?_
  refine wpAny_bind (wpAny_isInstance (T := "StopIteration") (b := true) ⟨_, Heap.get?_update_self _ (Heap.get?_push_size _ rfl) rfl, rfl⟩ isSubtype_stop ?_)
  refine wpAny_pure (hQ _ fun b o hb e => ?_)
  have hb' := Heap.lt_size e
  refine (Heap.get?_update_other _ _ (Nat.ne_of_gt (Nat.lt_of_lt_of_le hb' (by rw [Heap.size_push, Heap.size_after_update]; exact Nat.le_succ _)))).trans ?_
  exact (((Heap.SameBut.update ..).extBut.push _).push _) b o hb e
theorem walksH (hh : A.handled = some (.ref c)) (I d : Addr) (hne : d ≠ I) (hcI : c ≠ I) (kvs : List (K × Value)) (ep : Nat) :
    Walks prog w A I [I, d, c] [I] kvs.length (fun i v => ∃ k x, kvs[i]? = some (k, x) ∧ knd.is k v = true) (fun i h => h.IsKeyIter I d i kvs.length ep ∧ h.DictAt knd d kvs ep ∧ HandOk h c) where
  sub := fun b hb => by simp at hb; simp [hb]
  frame := fun _ _ _ st hk => ⟨st.1.at fun o e => hk I (by simp) o e, st.2.1.at' fun o e => hk d (by simp) o e, st.2.2.at fun o e => hk c (by simp) o e⟩
  item := fun i s Q E hi st hQ => by
    obtain ⟨⟨k, x⟩, hx⟩ : ∃ p, kvs[i]? = some p := ⟨kvs[i], by simp [hi]⟩
    refine wpAny_pyNext_dict_item st.1 st.2.1 hx fun key h' hkey hit' hs' => ?_
    exact hQ key h' s.toks ⟨k, x, hx, hkey⟩ ⟨hit', st.2.1.extBut hs'.extBut hne, st.2.2.at fun o e => hs'.extBut c o hcI e⟩ fun b o hb e => hs'.extBut b o (fun h => hb (by simp [h])) e
  done := fun s Q E st hQ => next_end_under hh st.2.2 hcI st.1 st.2.1 (by simp) fun h' he' => hQ h' s.toks fun b o hb e => he' b o (fun h => hb (by simp [h])) e
  self := fun _ _ _ _ st hQ => wpAny_pyIter_keyiter st.1 hQ
end
section
variable {K : Type} [DecidableEq K] {prog : Program} {w : World} {knd : KeyKind prog w K} {A : Around} {E : Value → Shared → Prop} {s : Shared} {c d : Addr} {kvs : List (K × Value)} {ep : Nat}
theorem extendH {R : Result → Shared → Prop} (hh : A.handled = some (.ref c)) (lo : (d == sysModules) = false) (hm : s.heap.DictAt knd d kvs ep) (HC : HandOk s.heap c) (S : Addr) (hSd : S ≠ d) (hSc : S ≠ c) (res : Value) (c₀ : Nat) (hS : s.heap.get? S = some { cls := .type "list", data := .seq #[] c₀ })
    (hR : ∀ h' tk acc' c', (∀ b o, b ≠ S → s.heap.get? b = some o → h'.get? b = some o) → h'.get? S = some { cls := .type "list", dict := none, data := .seq acc' c', slots := #[] } → ItemsOf (fun i v => ∃ k x, kvs[i]? = some (k, x) ∧ knd.is k v = true) acc' kvs.length → R (.ok (.ret res)) { s with heap := h', toks := tk }) (hn : kvs.length ≤ sizeLine) :
    wpAny (model prog w) A.in1 (Builtin.List.listExtendWith (.ref S) (.ref d) res)
      (fun fin s' => match fin with | .done f => R (.ok f) s' | .again c' => c'.quiet = true ∧ codeAny (model prog w) A c' R s') (fun e s' => R (.error e) s') s := by
  have hSI : S ≠ s.heap.objs.size := Nat.ne_of_lt (Heap.lt_size hS)
  have hcl : c < s.heap.objs.size := by obtain ⟨_, _, h, _⟩ := HC; exact Heap.lt_size h
  have hSf : S ∉ [s.heap.objs.size, d, c] := by simp only [List.mem_cons, List.not_mem_nil, or_false, not_or]; exact ⟨hSI, hSd, hSc⟩
  have W := walksH (knd := knd) (prog := prog) (w := w) (A := A.in1) (c := c) hh s.heap.objs.size d (Nat.ne_of_lt hm.lt_size) (Nat.ne_of_lt hcl) kvs ep
  have key : ∀ (h : Heap) (c₁ tk : Nat), (h.IsKeyIter s.heap.objs.size d 0 kvs.length ep ∧ h.DictAt knd d kvs ep ∧ HandOk h c) → (∀ b o, b ≠ S → s.heap.get? b = some o → h.get? b = some o) →
      h.get? S = some { cls := .type "list", data := .seq #[] c₁ } → codeAny (model prog w) A (.builtin "list.extend.loop" ⟨[.ref S, .ref s.heap.objs.size, res], []⟩) R { s with heap := h, toks := tk } := by
    intro h c₁ tk hst hk hS₁
    refine codeAny_extend_loopS W.toS hn S hSf res kvs.length 0 _ #[] c₁ rfl (Nat.zero_le _) hst hS₁ (ItemsOf.nil _) fun s' acc' c' hm hS' hacc => ?_
    rw [Moved.eq_with hm]
    refine hR s'.heap s'.toks acc' c' (fun b o hb e => hm.heap b o (fun hmem => ?_) (hk b o hb e)) hS' hacc
    rcases List.mem_cons.mp hmem with e' | hmem
    · exact hb e'
    · exact absurd (Heap.lt_size e) (by rw [List.mem_singleton.mp hmem]; exact Nat.lt_irrefl _)
  have st : ∀ oI, HandOk (s.heap.push oI) c := fun oI => HC.at fun o e => Heap.get?_push_of_some _ e
  have k0 : (s.heap.push ({ cls := .type "dict_keyiterator", data := .fields #[.ref d, .int 0 0, .int kvs.length 0, .int ep 0] } : Obj)).IsKeyIter s.heap.objs.size d 0 kvs.length ep := ⟨_, Heap.get?_push_size _ rfl, rfl, rfl⟩
  unfold Builtin.List.listExtendWith
  refine wpAny_bind (wpAny_typeOf (T := "dict") hm.dictOf.typeIs ?_)
  have h1 : Builtin.List.listSameRef (.ref S) (.ref d) = false := by simp [Builtin.List.listSameRef, hSd]
  simp only [h1, show (Value.type "dict" == Value.type "list") = false by decide, show (Value.type "dict" == Value.type "tuple") = false by decide, Bool.or_false, Bool.false_eq_true, if_false]
  refine wpAny_bind (wpAny_pyIter_dict lo hm ?_)
  have hS₁ := Heap.get?_push_of_some ({ cls := .type "dict_keyiterator", data := .fields #[.ref d, .int 0 0, .int kvs.length 0, .int ep 0] } : Obj) hS
  refine wpAny_bind (wpAny_holding (kdl_hint_dict (hm.push _).dictOf.typeIs ?_))
  refine wpAny_ite_split (fun _ => ?_) (fun _ => wpAny_pure ⟨plainId_quiet PySem.F.plain_extend_loop _, key _ c₀ _ ⟨k0, hm.push _, st _⟩ (fun b o _ e => Heap.get?_push_of_some _ e) hS₁⟩)
  refine wpAny_bind (wpAny_rule ?_)
  refine wpAny_bind ?_
  show wpAny _ _ (updateSeq S (·.push .none) >>= fun _ => updateSeq S (·.pop)) _ _ _
  refine wpAny_bind (wpAny_updateSeq hS₁ rfl ?_)
  have hS₂ := Heap.get?_update_self (Obj.mapSeq (·.push Value.none)) hS₁ rfl
  refine wpAny_updateSeq (hz := by seq_fits) hS₂ rfl ?_
  have hS₃ := Heap.get?_update_self (Obj.mapSeq (·.pop)) hS₂ rfl
  refine wpAny_pure ⟨plainId_quiet PySem.F.plain_extend_loop _, key _ _ _ ?_ (fun b o hb e => ?_) hS₃⟩
  · refine W.frame 0 _ _ ⟨k0, hm.push _, st _⟩ fun b hb o e => ?_
    have hbS : b ≠ S := fun h => hSf (h ▸ hb)
    exact (Heap.get?_update_other _ _ (Ne.symm hbS)).trans ((Heap.get?_update_other _ _ (Ne.symm hbS)).trans e)
  · exact (Heap.get?_update_other _ _ (Ne.symm hb)).trans ((Heap.get?_update_other _ _ (Ne.symm hb)).trans (Heap.get?_push_of_some _ e))
end
section
variable {K : Type} [DecidableEq K] {prog : Program} {w : World} {knd : KeyKind prog w K} {A : Around} {E : Value → Shared → Prop} {s : Shared} {c d : Addr} {kvs : List (K × Value)} {ep : Nat}
theorem collectH {R : List Value → Shared → Prop} (hh : A.handled = some (.ref c)) (lo : (d == sysModules) = false) (hm : s.heap.DictAt knd d kvs ep) (HC : HandOk s.heap c) (hn : kvs.length ≤ sizeLine)
    (h : ∀ (h' : Heap) (tk : Nat) (acc : Array Value), (∀ b o, s.heap.get? b = some o → h'.get? b = some o) → ItemsOf (fun i v => ∃ k x, kvs[i]? = some (k, x) ∧ knd.is k v = true) acc kvs.length → R acc.toList { s with heap := h', toks := tk }) :
    wpAny (model prog w) A (collect (.ref d)) R E s := by
  have hcl : c < s.heap.objs.size := by obtain ⟨_, _, h, _⟩ := HC; exact Heap.lt_size h
  unfold collect
  refine wpAny_bind (wpAny_runValue (codeAny_builtin entry_proto_collect' ?_))
  rw [Around.under_plainId PySem.F.plain_proto_collect _]
  show wpAny _ A.in1 (newList [] >>= fun l => again (.builtin "list.__iadd__" ⟨[l, .ref d], []⟩)) _ _ s
  refine wpAny_bind (wpAny_newObj_type ?_)
  refine wpAny_pure ⟨plainId_quiet PySem.F.plain_list_iadd _, codeAny_builtin entry_list_iadd' ?_⟩
  rw [Around.under_plainId PySem.F.plain_list_iadd _]
  have hS₁ : (s.heap.push { cls := .type "list", data := .seq ([] : List Value).toArray }).get? s.heap.objs.size = some { cls := .type "list", data := .seq #[] } := Heap.get?_push_size _ rfl
  show wpAny _ A.in1 (Builtin.List.listExtendWith (.ref s.heap.objs.size) (.ref d) (.ref s.heap.objs.size)) _ _ _
  have key := extendH (A := A) (s := { s with heap := s.heap.push { cls := .type "list", data := .seq ([] : List Value).toArray } }) (knd := knd) (kvs := kvs) (ep := ep) (d := d) (c := c)
    (R := fun (q : Result) (s' : Shared) => ∃ (h' : Heap) (tk : Nat) (acc' : Array Value) (c' : Nat), q = .ok (.ret (.ref s.heap.objs.size)) ∧ s' = { s with heap := h', toks := tk } ∧
      (∀ b o, s.heap.get? b = some o → h'.get? b = some o) ∧ h'.get? s.heap.objs.size = some { cls := .type "list", dict := none, data := .seq acc' c', slots := #[] } ∧ ItemsOf (fun i v => ∃ k x, kvs[i]? = some (k, x) ∧ knd.is k v = true) acc' kvs.length)
    hh lo (hm.push _) (HC.at fun o e => Heap.get?_push_of_some _ e) s.heap.objs.size (Nat.ne_of_gt hm.lt_size) (Nat.ne_of_gt hcl) (.ref s.heap.objs.size) 0 hS₁
    (fun h' tk acc' c' hk hS' hacc => ⟨h', tk, acc', c', rfl, rfl, fun b o e => hk b o (Nat.ne_of_lt (Heap.lt_size e)) (Heap.get?_push_of_some _ e), hS', hacc⟩) hn
  refine wpAny_mono key (fun fin s' x => ?_) fun e s' x => ?_
  · cases fin with
    | done f =>
      obtain ⟨h', tk, acc', c', e, rfl, hk, hS', hacc⟩ := x
      cases e
      show wpAny _ A (load s.heap.objs.size >>= _) _ _ _
      refine wpAny_bind (wpAny_load hS' ?_)
      exact wpAny_pure (h h' tk acc' hk hacc)
    | again c₁ =>
      refine ⟨x.1, codeAny_mono x.2 fun q s₂ y => ?_⟩
      obtain ⟨h', tk, acc', c', rfl, rfl, hk, hS', hacc⟩ := y
      show wpAny _ A (load s.heap.objs.size >>= _) _ _ _
      refine wpAny_bind (wpAny_load hS' ?_)
      exact wpAny_pure (h h' tk acc' hk hacc)
  · obtain ⟨_, _, _, _, e', _⟩ := x
    cases e'
end
section
variable {prog : Program} {w : World} {A : Around} {E : Value → Shared → Prop} {s : Shared} {h₀ : Heap} {L d c : Addr} {m : Str → Option Value} {news : List (Addr × Obj)} {o : Obj} {x y : Str} {u v : Value} {Q : Value → Shared → Prop}
theorem sorted_dict2H (hh : A.handled = some (.ref c)) (HC : HandOk s.heap c) (F : Fr h₀ L s.heap m) (N : News h₀ L s.heap news) (hm : (d, o) ∈ news) (ho : Obj.IsDictOf (PySem.strKind prog w) o [(x, u), (y, v)]) (lo : (d == sysModules) = false)
    (h : ∀ (B : Addr) h' tk t t', Fr h₀ L h' m → News h₀ L h' ((B, listOf [Value.str x t, Value.str y t'].toArray 0) :: news) → (∀ q ∈ news, q.1 < B) →
      wpAny (model prog w) A.in1 (call (.builtin "list.sort") [.ref B]) (fun _ s' => Q (.ref B) s') E { s with heap := h', toks := tk }) :
    wpAny (model prog w) A (call (.builtin "sorted") [.ref d]) Q E s := by
  obtain ⟨ep, hat⟩ := Heap.DictOf.dictAt (Heap.dictOf_iff.mpr ⟨o, (N _ hm).1, ho⟩)
  have hn : [(x, u), (y, v)].length ≤ sizeLine := kdl_size (by show 2 ≤ 16777216; decide)
  have hcl : c < s.heap.objs.size := by obtain ⟨_, _, h, _⟩ := HC; exact Heap.lt_size h
  refine call_function_entry kind_sorted plain_sorted entry_sorted (args_sorted1 _) ?_
  unfold Builtin.«sorted»
  refine wpAny_bind (m := checkCount "sorted" 1 1 _) (wpAny_pure ?_)
  refine wpAny_bind (collectH (A := A.in1) (knd := PySem.strKind prog w) hh lo hat HC hn fun h' tk acc hk hacc => ?_)
  have hl : acc.toList.length = 2 := by rw [Array.length_toList]; exact hacc.1
  refine wpAny_bind (wpAny_newList ?_ (by rw [hl]; exact hn))
  obtain ⟨a, b, hab⟩ : ∃ a b, acc.toList = [a, b] := by
    match acc.toList, hl with
    | [a, b], _ => exact ⟨a, b, rfl⟩
  obtain ⟨k1, x1, e1, i1⟩ := hacc.2 0 a (by rw [← Array.getElem?_toList, hab]; rfl)
  obtain ⟨k2, x2, e2, i2⟩ := hacc.2 1 b (by rw [← Array.getElem?_toList, hab]; rfl)
  cases e1; cases e2
  obtain ⟨t, rfl⟩ := Value.isStrOf_shape i1
  obtain ⟨t', rfl⟩ := Value.isStrOf_shape i2
  rw [hab]
  have hg := h h'.objs.size (h'.push { cls := .type "list", data := .seq [Value.str x t, Value.str y t'].toArray }) tk t t' ((F.keeps hk).push _) (News.push (F.keeps hk) (fun p hp => ⟨hk _ _ (N p hp).1, (N p hp).2⟩) _ rfl)
    (fun q hq => Heap.lt_size (hk _ _ (N q hq).1))
  refine wpAny_bind (wpAny_holding (wpAny_mono hg (fun _ s' x => ?_) fun _ _ e => e))
  exact wpAny_pure ⟨_, rfl, x⟩
end
theorem handOk_of {h₀ h : Heap} {L e : Addr} {oe : Obj} {vs : Array Value} {news : List (Addr × Obj)} (N : News h₀ L h news) (hm : (e, oe) ∈ news) (hd : oe.data = .fields vs) (hc : ctxOf oe = some .none) : HandOk h e :=
  ⟨oe, vs, (N _ hm).1, hd, by unfold ctxOf at hc; rw [hd] at hc; exact hc⟩

theorem walk_line10 : True := by
  k_with "m enter" => (refine' code_def ?k1 ?k2 ?k3 ?k4 ?k5 ?kA ?kF ?kK ?k6 ?k7 ?k8 ?k9 ?kB ?_ ?c2 ?c3 ?c4 ?c5; (case kA => exact rfl); (case kF => assumption); (case kK => assumption); (case k1 => k_asm); (case k2 => k_asm); (case k3 => k_asm); (case k4 => k_asm); (case k5 => k_asm); (case k6 => k_is); (case k7 => k_is); (case k8 => ktr_room); (case k9 => exact BindsTo.of_eq rfl); (case kB => exact locs rfl); (case c2 => exact rfl); (case c3 => exact rfl); (case c4 => exact rfl); (case c5 => decide); k_whole; intro g' L' h' FG' F' N' B' X' T'; (try dsimp only); (try k_fold))
  k_with "m ne" => (intro p hp; simp only [List.mem_cons, List.not_mem_nil, or_false] at hp; first | (subst hp; refine neN ?_; dsimp only; omega) | (rcases hp with h | h | h <;> (subst h; refine neN ?_; dsimp only; omega)))
  k_with "m for" => ((rename Fr _ _ _ _ => lF'); (with_unfolding_all refine' For_invVF lF' ?k1 ?k2 ?_; (case k1 => exact rfl); (case k2 => exact rfl); k_whole))
  k_with "m units" => (have hcL9 := cLine_is; (try simp only [units_in1, units_deeper, Around.mark_units, units_caller] at *); (try dsimp only [top] at *); omega)
  k_with "compareOp Eq ref ref" => (k_here; (with_reducible show wpAny _ _ (compareOp CmpOp.Eq (Value.ref _) (Value.ref _)) _ _ _); (with_unfolding_all refine' eq_intsK ?k1 ?k2 ?k3 ?k4 ?k5 ?_; (case k1 => is_list); (case k2 => l_intsC); (case k3 => is_list); (case k4 => l_intsC); (case k5 => walk_at "m units"); k_whole); (try simp only [filter_tt]))
  k_with "call builtin:len" => (k_here; (with_reducible show wpAny _ _ (call (Value.builtin "len") [Value.ref _]) _ _ _); k_dflt (refine' kst_len ?k1 ?k2 ?k3 ?k4 ?_; (case k1 => k_asm); (case k2 => (repeat (first | assumption | exact List.Mem.head _ | refine List.Mem.tail _ ?_))); (case k3 => first | exact ItemsIn.length (by assumption) | exact IntsAre.length (by assumption)); (case k4 => omega); k_whole))
  k_with "exec Raise some none" => (k_here; k_dflt (refine' Raise_refusal ?hh ?_; (case hh => exact rfl)))
  k_with "call ref" => (k_here; (with_reducible show wpAny _ _ (PySem.call (Value.ref 51) [Value.str _ _]) _ _ _); k_dflt (refine' refusal_new ?B ?F ?X ?T ?hfr ?hk ?N ?hd ?hu ?_; (case B => k_asm); (case F => k_asm); (case X => k_asm); (case N => k_asm); (case T => k_asm); (case hfr => first | exact rfl | assumption); (case hk => first | exact rfl | assumption); (case hd => ktr_room); (case hu => ktr_units)); intro e' dx' tt' h' tk' tk2' F' N' ne'; (try dsimp only); (try k_fold); (refine' ⟨_, _, _, rfl, ?ra, ?rb, ?_⟩; (case ra => exact (Frag.In.keeps (by k_asm) (Fr.keep (by k_asm))) _ _ (ref_obj _)); (case rb => exact (News_head (by k_asm)))))
  k_with "call ref" => (k_here; (with_reducible show wpAny _ _ (PySem.call (Value.ref 78) [Value.str _ _, _]) _ _ _); k_dflt (refine' vec_new2 ?B ?F ?X ?T ?hfr ?hk ?N ?hd ?hu ?_; (case B => k_asm); (case F => k_asm); (case X => k_asm); (case N => k_asm); (case T => k_asm); (case hfr => first | exact rfl | assumption); (case hk => first | exact rfl | assumption); (case hd => ktr_room); (case hu => ktr_units)); k_whole; intro x' dx' a' b' c' d' e' h' tk' l1 l2 F' N'; (try dsimp only); (try k_fold); (try k_lt l1); (try k_lt2 l2))
  k_with "call ref" => (k_here; (with_reducible show wpAny _ _ (PySem.call (Value.ref 78) [Value.str _ _, _, Value.ref _]) _ _ _); k_dflt (refine' vec_new3 ?B ?F ?X ?T ?hfr ?hk ?N ?hd ?hu ?_; (case B => k_asm); (case F => k_asm); (case X => k_asm); (case N => k_asm); (case T => k_asm); (case hfr => first | exact rfl | assumption); (case hk => first | exact rfl | assumption); (case hd => ktr_room); (case hu => ktr_units)); k_whole; intro x' dx' a' b' c' d' e' h' tk' l1 l2 F' N'; (try dsimp only); (try k_fold); (try k_lt l1); (try k_lt2 l2))
  k_with "getAttr ref" => (k_here; (with_reducible show wpAny _ _ (getAttr (Value.ref _) (Str.ofString "message") _) _ _ _); k_dflt (refine' get_msgK ?X ?F ?N ?he ?hd ?hc ?hf ?hdict ?_; (case X => k_asm); (case F => k_asm); (case N => k_asm); (case hc => assumption); (case hf => assumption); (case hdict => assumption); (case he => exact List.Mem.head _); (case hd => exact List.Mem.tail _ (List.Mem.head _)); k_whole))
  k_with "call ref" => (k_here; (with_reducible show wpAny _ _ (PySem.call (Value.ref 178) [_, _]) _ _ _); refine stopIt ?_)
  k_with "call ref" => (k_here; (with_reducible show wpAny _ _ (PySem.call (Value.ref 145) [_, _]) _ _ _); refine stopIt ?_)
  k_with "m due" => (k_dflt (refine' due_spec ?B ?F ?X ?T ?hfr ?hk ?N ?hd ?hu ?hl ?hi ?hsz ?hm0 ?hm1 ?_ ?_; (case B => k_asm); (case F => k_asm); (case X => k_asm); (case N => k_asm); (case T => k_asm); (case hfr => exact rfl); (case hk => exact rfl); (case hd => ktr_room); (case hu => ktr_units); (case hl => (repeat (first | assumption | refine List.Mem.tail _ ?_))); (case hi => (refine ItemsIn.mono (by assumption) ?_; intro p hp; (repeat (first | assumption | refine List.Mem.tail _ ?_)))); (case hsz => assumption); (case hm0 => assumption); (case hm1 => assumption)))
  k_with "m enterT" => (refine' code_defT ?k1 ?k2 ?k3 ?k4 ?k5 ?kA ?kF ?kK ?k6 ?k7 ?k8 ?k9 ?kB ?_ ?c2 ?c3 ?c4 ?c5; (case kA => exact rfl); (case kF => assumption); (case kK => assumption); (case k1 => k_asm); (case k2 => k_asm); (case k3 => k_asm); (case k4 => k_asm); (case k5 => k_asm); (case k6 => k_is); (case k7 => k_is); (case k8 => ktr_room); (case k9 => exact BindsTo.of_eq rfl); (case kB => exact locs rfl); (case c2 => exact rfl); (case c3 => exact rfl); (case c4 => exact rfl); (case c5 => decide); k_whole)
  k_with "m set_dim" => (k_dflt (refine' set_dim_spec ?B ?F ?X ?T ?hfr ?hk ?N ?hd ?hu ?hdo ?hds ?hva ?hdva ?hda ?hlv ?hzs ?hz ?hm1 ?hx ?hdx ?hl ?hi ?hsz ?_ ?_; (case B => k_asm); (case F => k_asm); (case X => k_asm); (case N => first | exact rotA (by k_asm) | exact rotB (by k_asm)); (case T => k_asm); (case hfr => exact rfl); (case hk => exact rfl); (case hd => ktr_room); (case hu => ktr_units); (case hdo => assumption); (case hds => assumption); (case hva => (refine neN ?_; omega)); (case hdva => (refine neN ?_; omega)); (case hda => ((repeat (refine ne_cons (by (refine neN ?_); omega) ?_)); k_all)); (case hlv => (repeat (first | exact List.Mem.head _ | refine List.Mem.tail _ ?_))); (case hzs => assumption); (case hz => assumption); (case hm1 => assumption); (case hx => exact List.Mem.head _); (case hdx => exact List.Mem.tail _ (List.Mem.head _)); (case hl => (repeat (first | assumption | refine List.Mem.tail _ ?_))); (case hi => (refine ItemsIn.mono (by assumption) ?_; intro p hp; (repeat (first | assumption | refine List.Mem.tail _ ?_)))); (case hsz => assumption)))
  k_with "call builtin:sorted" => (k_here; (with_reducible show wpAny _ _ (call (Value.builtin "sorted") [Value.ref _]) _ _ _); k_dflt (refine' sorted_dict2 ?hh ?F ?N ?hm ?ho ?lo ?_; (case hh => exact rfl); (case F => k_asm); (case N => k_asm); (case ho => assumption); (case hm => k_mem); (case lo => assumption)); k_whole; intro B' h' tk' t1 t2 F' N' l1; (try dsimp only); (try k_fold); (try k_lt l1))
  k_with "call builtin:sorted" => (k_here; (with_reducible show wpAny _ _ (call (Value.builtin "sorted") [Value.ref _]) _ _ _); k_dflt (refine' sorted_dict2H ?hh ?HC ?F ?N ?hm ?ho ?lo ?_; (case hh => exact rfl); (case HC => exact handOk_of (by k_asm) (List.Mem.head _) (by assumption) (by assumption)); (case F => k_asm); (case N => k_asm); (case ho => assumption); (case hm => k_mem); (case lo => assumption)); k_whole; intro B' h' tk' t1 t2 F' N' l1; (try dsimp only); (try k_fold))
  trivial
set_option maxHeartbeats 8000000 in
theorem dims_spec {w : World} {mean : ExcName → Option Value} {mg mb : Str → Option Value}
    {dp un : Nat} {gd : Option (List Code)} {env : Env} {outer : List Env} {A₀ : Around} {base h₀ : Heap} {L : Addr} {m : Str → Option Value}
    {s : Shared} {Q E : Value → Shared → Prop} {rest : List (Addr × Obj)}
    {li : Addr} {vs : List Value} {nl : Nat} {ds : List Item} {many : Int} {tm : Tok} (hout : outer = [])
    (B : Below A₀ base outer h₀) (F : Fr h₀ L s.heap m) (X : (Mine.hd.heap_39 w.params).In h₀)
    (T : Top Mine.hd.view_39 (looseW Mine.hd.view_39 [Str.ofString "MOST_TOTAL"]) mean mg mb h₀)
    (hfr : env.frame = some L) (hk : env.scope.kind = .function) (N : News h₀ L s.heap rest) (XB : (Mine.hd.heap_39 w.params).In base) (TB : Top Mine.hd.view_39 (looseW Mine.hd.view_39 [Str.ofString "MOST_TOTAL"]) mean mg mb base) (hd : dp + 30 < recursionLimit) (hu : un + 600 < cLine)
    (hl : (li, listOf vs.toArray nl) ∈ rest) (hi : ItemsIn rest vs ds) (hsz : ds.length < 1000) (hm0 : 0 ≤ many) (hm1 : many < 1000)
    (hret : ∀ h' tk', Fr h₀ L h' m → News h₀ L h' rest → Q (.bool true) { s with heap := h', toks := tk' }) :
    wpAny (model PySem.Challenge.rw_pq1397_01.row.prog w) (top dp un gd env outer) (call (.ref 185) [.ref li, .int many tm]) Q E s := by
  subst hout
  have hfill : ((Mine.hd.heap_39 w.params).In h₀ → PySem.Challenge.rw_pq1397_01.row.prog = PySem.Challenge.rw_pq1397_01.row.prog) := by k_fill; intro _; rfl
  clear hfill
  refine wpAny_call ?_
  k_dflt (walk_at "m enterT")
  intro g1 L1 h1 FG1 F1 N1 B1 X1 T1 D1
  (try dsimp only)
  (try k_fold)
  k_steps
  rename News g1 _ _ _ => N3
  rename (Obj.IsDictOf _ _ _) => do3
  replace do3 := dict2 do3
  have zl := zeros_len (n := 0) hm0
  rename IntsAre _ _ => zi
  replace N3 := keep11 N3
  refine goOn ?_
  walk_at "m due"
  · intro e2 t2 h2 tk2 de2 F2 N2
    (try dsimp only)
    (try k_fold)
    k_steps
    refine goOn ?_
    walk_at "m set_dim"
    · intro ks3 o3 nx3 ndx3 nl3 ws3 n3 a3 b3 c3 d3 e3 t3 h3 tk3 du3
      rw [de2] at du3; cases du3
    · intro y3 g3 ex3 dx3 t3 tk3 h3 tk3' du3 F3 up3 R3
      rw [de2] at du3; cases du3
      (try dsimp only)
      refine caught_flown R3 F3 B1 up3 XB TB D1 KtsTurn.refl (ref_ns _) (ref_kts _) ?_
      intro h4 g4 tk4 oe4 vs4 KT4 F4 hc4 hf4 hdict4 hctx4 N4 B4 X4 T4 D4
      (try dsimp only)
      (try k_fold)
      k_steps
      · rename Fr h₀ L _ _ => F9
        rename News h₀ L _ _ => N9
        exact hret _ _ F9 (fun p hp => N9 p (by repeat (first | exact hp | refine List.Mem.tail _ ?_)))
      · rename ((_ == _) = false) => eb
        simp at eb
  · intro ks2 a2 ws2 n2 h2 tk2 de2 wi2 al2 F2 N2
    dsimp only [AllLt] at al2
    (try dsimp only)
    (try k_fold)
    k_steps
    refine goOn ?_
    walk_at "m set_dim"
    · intro ks3 o3 nx3 ndx3 nl3 ws3 n3 a3 b3 c3 d3 e3 t3 h3 tk3 du3 wi3 do3' F3 N3'
      rw [de2] at du3; cases du3
      (try dsimp only)
      (try k_fold)
      k_steps
      rename Fr h₀ L _ _ => F9
      rename News h₀ L _ _ => N9
      exact hret _ _ F9 (fun p hp => N9 p (by repeat (first | exact hp | refine List.Mem.tail _ ?_)))
    · intro y3 g3 ex3 dx3 t3 tk3 h3 tk3' du3
      rw [de2] at du3; cases du3


end
section
/-- each group of walks starts as in a fresh process: open_top leaves a switch on, and the lines of the group before are dropped -/
theorem walk_off17 : True := by w_top off; k_with_none; trivial
theorem walk_line11 : True := by
  k_with "m enter" => (refine' code_def ?k1 ?k2 ?k3 ?k4 ?k5 ?kA ?kF ?kK ?k6 ?k7 ?k8 ?k9 ?kB ?_ ?c2 ?c3 ?c4 ?c5; (case kA => exact rfl); (case kF => assumption); (case kK => assumption); (case k1 => k_asm); (case k2 => k_asm); (case k3 => k_asm); (case k4 => k_asm); (case k5 => k_asm); (case k6 => k_is); (case k7 => k_is); (case k8 => ktr_room); (case k9 => exact BindsTo.of_eq rfl); (case kB => exact locs rfl); (case c2 => exact rfl); (case c3 => exact rfl); (case c4 => exact rfl); (case c5 => decide); k_whole; intro g' L' h' FG' F' N' B' X' T'; (try dsimp only); (try k_fold))
  k_with "m ne" => (intro p hp; simp only [List.mem_cons, List.not_mem_nil, or_false] at hp; first | (subst hp; refine neN ?_; dsimp only; omega) | (rcases hp with h | h | h <;> (subst h; refine neN ?_; dsimp only; omega)))
  k_with "m for" => ((rename Fr _ _ _ _ => lF'); (with_unfolding_all refine' For_invVF lF' ?k1 ?k2 ?_; (case k1 => exact rfl); (case k2 => exact rfl); k_whole))
  k_with "m units" => (have hcL9 := cLine_is; (try simp only [units_in1, units_deeper, Around.mark_units, units_caller] at *); (try dsimp only [top] at *); omega)
  k_with "compareOp Eq ref ref" => (k_here; (with_reducible show wpAny _ _ (compareOp CmpOp.Eq (Value.ref _) (Value.ref _)) _ _ _); (with_unfolding_all refine' eq_intsK ?k1 ?k2 ?k3 ?k4 ?k5 ?_; (case k1 => is_list); (case k2 => l_intsC); (case k3 => is_list); (case k4 => l_intsC); (case k5 => walk_at "m units"); k_whole); (try simp only [filter_tt]))
  trivial
/-- a double as a row name -/
def whole : Item → Option Int
  | none => none
  | some (n, q) => if q ≠ 1 ∨ (if n < 0 then -n else n) > 2147483647 then none else some n
def datOf : Option Int → Dat
  | none => .none
  | some k => .int k
theorem whole_none {n q : Int} (h : q ≠ 1) : whole (some (n, q)) = none := if_pos (.inl h)
theorem whole_far {n q : Int} (h : (if n < 0 then -n else n) > 2147483647) : whole (some (n, q)) = none := if_pos (.inr h)
theorem whole_some {n q : Int} (h : q = 1) (h' : ¬ (if n < 0 then -n else n) > 2147483647) : whole (some (n, q)) = some n := if_neg (by rintro (h1 | h1); exact h1 h; exact h' h1)
set_option maxHeartbeats 4000000 in
theorem whole_spec {w : World} {mean : ExcName → Option Value} {mg mb : Str → Option Value}
    {dp un : Nat} {gd : Option (List Code)} {env : Env} {outer : List Env} {A₀ : Around} {base h₀ : Heap} {L : Addr} {m : Str → Option Value}
    {s : Shared} {Q E : Value → Shared → Prop} {rest : List (Addr × Obj)} {v : Value} {d : Item}
    (B : Below A₀ base outer h₀) (F : Fr h₀ L s.heap m) (X : (Mine.hd.heap_39 w.params).In h₀)
    (T : Top Mine.hd.view_39 (looseW Mine.hd.view_39 [Str.ofString "MOST_TOTAL"]) mean mg mb h₀)
    (hfr : env.frame = some L) (hk : env.scope.kind = .function) (N : News h₀ L s.heap rest) (hd : dp + 2 < recursionLimit) (hu : un + 10 < cLine)
    (hi : ItemIn rest v d)
    (hret : ∀ r h' tk', DatIn [] r (datOf (whole d)) → Fr h₀ L h' m → News h₀ L h' rest → Q r { s with heap := h', toks := tk' }) :
    wpAny (model PySem.Challenge.rw_pq1397_01.row.prog w) (top dp un gd env outer) (call (.ref 131) [v]) Q E s := by
  have hfill : ((Mine.hd.heap_39 w.params).In h₀ → PySem.Challenge.rw_pq1397_01.row.prog = PySem.Challenge.rw_pq1397_01.row.prog) := by k_fill; intro _; rfl
  clear hfill
  match d, hi with
  | none, hi =>
    have hi : v = .none := hi
    subst hi
    refine wpAny_call ?_
    k_dflt (walk_at "m enter")
    k_steps
    rename Fr h₀ L _ _ => F9
    rename News h₀ L _ _ => N9
    exact hret _ _ _ .none F9 N9
  | some (n, q), ⟨a, t, u, c, e, hm⟩ =>
    subst e
    refine wpAny_call ?_
    k_dflt (walk_at "m enter")
    k_steps
    all_goals ((rename Fr h₀ L _ _ => F9); (rename News h₀ L _ _ => N9))
    · exact hret _ _ _ (by rw [whole_none (by assumption)]; exact .none) F9 N9
    · exact hret _ _ _ (by rw [whole_far (by assumption)]; exact .none) F9 N9
    · exact hret _ _ _ (by rw [whole_some (by assumption) (by assumption)]; exact .int _ _) F9 N9


end
section
/-- each group of walks starts as in a fresh process: open_top leaves a switch on, and the lines of the group before are dropped -/
theorem walk_off18 : True := by w_top off; k_with_none; trivial
theorem walk_line12 : True := by
  k_with "m enter" => (refine' code_def ?k1 ?k2 ?k3 ?k4 ?k5 ?kA ?kF ?kK ?k6 ?k7 ?k8 ?k9 ?kB ?_ ?c2 ?c3 ?c4 ?c5; (case kA => exact rfl); (case kF => assumption); (case kK => assumption); (case k1 => k_asm); (case k2 => k_asm); (case k3 => k_asm); (case k4 => k_asm); (case k5 => k_asm); (case k6 => k_is); (case k7 => k_is); (case k8 => ktr_room); (case k9 => exact BindsTo.of_eq rfl); (case kB => exact locs rfl); (case c2 => exact rfl); (case c3 => exact rfl); (case c4 => exact rfl); (case c5 => decide); k_whole; intro g' L' h' FG' F' N' B' X' T'; (try dsimp only); (try k_fold))
  k_with "m ne" => (intro p hp; simp only [List.mem_cons, List.not_mem_nil, or_false] at hp; first | (subst hp; refine neN ?_; dsimp only; omega) | (rcases hp with h | h | h <;> (subst h; refine neN ?_; dsimp only; omega)))
  k_with "m for" => ((rename Fr _ _ _ _ => lF'); (with_unfolding_all refine' For_invVF lF' ?k1 ?k2 ?_; (case k1 => exact rfl); (case k2 => exact rfl); k_whole))
  k_with "m units" => (have hcL9 := cLine_is; (try simp only [units_in1, units_deeper, Around.mark_units, units_caller] at *); (try dsimp only [top] at *); omega)
  k_with "compareOp Eq ref ref" => (k_here; (with_reducible show wpAny _ _ (compareOp CmpOp.Eq (Value.ref _) (Value.ref _)) _ _ _); (with_unfolding_all refine' eq_intsK ?k1 ?k2 ?k3 ?k4 ?k5 ?_; (case k1 => is_list); (case k2 => l_intsC); (case k3 => is_list); (case k4 => l_intsC); (case k5 => walk_at "m units"); k_whole); (try simp only [filter_tt]))
  k_with "call ref" => (k_here; k_dflt (refine wpAny_call ?_; (refine' code_def ?k1 ?k2 ?k3 ?k4 ?k5 ?kA ?kF ?kK ?k6 ?k7 ?k8 ?k9 ?kB ?_ ?c2 ?c3 ?c4 ?c5; (case kA => exact rfl); (case kF => exact rfl); (case kK => exact rfl); (case k1 => k_asm); (case k2 => k_asm); (case k3 => k_asm); (case k4 => k_asm); (case k5 => k_asm); (case k6 => k_is); (case k7 => k_is); (case k8 => ktr_room); (case k9 => exact BindsTo.of_eq rfl); (case kB => exact locs rfl); (case c2 => exact rfl); (case c3 => exact rfl); (case c4 => exact rfl); (case c5 => decide); k_whole; intro g' L' h' FG' F' N' B' X' T'; (try dsimp only); (try k_fold))))
  k_with "call builtin:len" => (k_here; (with_reducible show wpAny _ _ (call (Value.builtin "len") [Value.ref _]) _ _ _); k_dflt (refine' kst_len ?k1 ?k2 ?k3 ?k4 ?_; (case k1 => k_asm); (case k2 => (repeat (first | assumption | exact List.Mem.head _ | refine List.Mem.tail _ ?_))); (case k3 => first | exact ItemsIn.length (by assumption) | exact IntsAre.length (by assumption)); (case k4 => omega); k_whole))
  k_with "exec Raise some none" => (k_here; k_dflt (refine' Raise_refusal ?hh ?_; (case hh => exact rfl)))
  k_with "call ref" => (k_here; (with_reducible show wpAny _ _ (PySem.call (Value.ref 51) [Value.str _ _]) _ _ _); k_dflt (refine' refusal_new ?B ?F ?X ?T ?hfr ?hk ?N ?hd ?hu ?_; (case B => k_asm); (case F => k_asm); (case X => k_asm); (case N => k_asm); (case T => k_asm); (case hfr => first | exact rfl | assumption); (case hk => first | exact rfl | assumption); (case hd => ktr_room); (case hu => ktr_units)); intro e' dx' tt' h' tk' tk2' F' N' ne'; (try dsimp only); (try k_fold); (refine' ⟨_, _, _, rfl, ?ra, ?rb, ?_⟩; (case ra => exact (Frag.In.keeps (by k_asm) (Fr.keep (by k_asm))) _ _ (ref_obj _)); (case rb => exact (News_head (by k_asm)))))
  k_with "call ref" => (k_here; (with_reducible show wpAny _ _ (PySem.call (Value.ref 78) [Value.str _ _, _]) _ _ _); k_dflt (refine' vec_new2 ?B ?F ?X ?T ?hfr ?hk ?N ?hd ?hu ?_; (case B => k_asm); (case F => k_asm); (case X => k_asm); (case N => k_asm); (case T => k_asm); (case hfr => first | exact rfl | assumption); (case hk => first | exact rfl | assumption); (case hd => ktr_room); (case hu => ktr_units)); k_whole; intro x' dx' a' b' c' d' e' h' tk' l1 l2 F' N'; (try dsimp only); (try k_fold); (try k_lt l1); (try k_lt2 l2))
  k_with "call ref" => (k_here; (with_reducible show wpAny _ _ (PySem.call (Value.ref 78) [Value.str _ _, _, Value.ref _]) _ _ _); k_dflt (refine' vec_new3 ?B ?F ?X ?T ?hfr ?hk ?N ?hd ?hu ?_; (case B => k_asm); (case F => k_asm); (case X => k_asm); (case N => k_asm); (case T => k_asm); (case hfr => first | exact rfl | assumption); (case hk => first | exact rfl | assumption); (case hd => ktr_room); (case hu => ktr_units)); k_whole; intro x' dx' a' b' c' d' e' h' tk' l1 l2 F' N'; (try dsimp only); (try k_fold); (try k_lt l1); (try k_lt2 l2))
  k_with "call type:list" => (k_here; (with_reducible show wpAny _ _ (call (Value.type _) [Value.ref _]) _ _ _); k_dflt (refine' kup_listOf ?F ?N ?b ?e ?_ ?z; (case F => k_asm); (case N => k_asm); (case b => (repeat (first | assumption | refine List.Mem.tail _ ?_))); (case e => exact rfl); (case z => assumption)); intro D' c' h' F' N' l1; (try k_lt l1))
  trivial
set_option maxHeartbeats 4000000 in
theorem integer_any {w : World} {mean : ExcName → Option Value} {mg mb : Str → Option Value}
    {dp un : Nat} {gd : Option (List Code)} {env : Env} {outer : List Env} {A₀ : Around} {base h₀ : Heap} {L : Addr} {m : Str → Option Value}
    {s : Shared} {Q E : Value → Shared → Prop} {rest : List (Addr × Obj)} {fa : Addr} {ws : List Value} {n : Nat}
    (B : Below A₀ base outer h₀) (F : Fr h₀ L s.heap m) (X : (Mine.hd.heap_39 w.params).In h₀)
    (T : Top Mine.hd.view_39 (looseW Mine.hd.view_39 [Str.ofString "MOST_TOTAL"]) mean mg mb h₀)
    (hfr : env.frame = some L) (hk : env.scope.kind = .function) (N : News h₀ L s.heap rest) (hd : dp + 5 < recursionLimit) (hu : un + 40 < cLine)
    (hfa : (fa, listOf ws.toArray n) ∈ rest) (hk1 : ws.length < 1000)
    (hret : ∀ x dx nl n' a b c d e t h' tk', (∀ p ∈ rest, p.1 < nl) → @LT.lt Nat _ nl dx → @LT.lt Nat _ dx x → Fr h₀ L h' m → News h₀ L h' ((x, instObj 78 dx) :: (dx, vecD w.params a b c d e (Str.ofString "integer") t (.ref nl) .none false) :: (nl, listOf ws.toArray n') :: rest) → Q (.ref x) { s with heap := h', toks := tk' }) :
    wpAny (model PySem.Challenge.rw_pq1397_01.row.prog w) (top dp un gd env outer) (call (.ref 96) [.ref fa]) Q E s := by
  have hfill : ((Mine.hd.heap_39 w.params).In h₀ → PySem.Challenge.rw_pq1397_01.row.prog = PySem.Challenge.rw_pq1397_01.row.prog) := by k_fill; intro _; rfl
  clear hfill
  have hz9 : ws.toArray.toList.length ≤ sizeLine := by
    rw [sizeLine_eq]; show ws.length ≤ _; omega
  refine wpAny_call ?_
  k_dflt (refine' code_def ?k1 ?k2 ?k3 ?k4 ?k5 ?kA ?kF ?kK ?k6 ?k7 ?k8 ?k9 ?kB ?_ ?c2 ?c3 ?c4 ?c5; (case kA => exact rfl); (case kF => assumption); (case kK => assumption); (case k1 => k_asm); (case k2 => k_asm); (case k3 => k_asm); (case k4 => k_asm); (case k5 => k_asm); (case k6 => k_is); (case k7 => k_is); (case k8 => ktr_room); (case k9 => exact BindsTo.of_eq rfl); (case kB => exact locs rfl); (case c2 => exact rfl); (case c3 => exact rfl); (case c4 => exact rfl); (case c5 => decide); k_whole; intro g1 L1 h1 FG1 F1 N1 B1 X1 T1; (try dsimp only); (try k_fold))
  k_steps
  rename Fr h₀ L _ _ => F9
  rename News h₀ L _ _ => N9
  exact hret _ _ _ _ _ _ _ _ _ _ _ _ (by first | assumption | exact allLt_to (by assumption)) (And.left (by assumption)) (by assumption) F9 N9
theorem rows_in {h₀ h : Heap} {L : Addr} {p1 p2 p3 pv pdv : Addr × Obj} {r rest : List (Addr × Obj)} (N : News h₀ L h (p1 :: p2 :: p3 :: r)) (hv : pv ∈ r) (hdv : pdv ∈ r) (hr : ∀ q ∈ rest, q ∈ r) :
    News h₀ L h (p1 :: p2 :: pv :: pdv :: p3 :: rest) := by
  intro p hp
  simp only [List.mem_cons] at hp
  rcases hp with rfl | rfl | rfl | rfl | rfl | hp
  · exact N _ (.head _)
  · exact N _ (.tail _ (.head _))
  · exact N _ (.tail _ (.tail _ (.tail _ hv)))
  · exact N _ (.tail _ (.tail _ (.tail _ hdv)))
  · exact N _ (.tail _ (.tail _ (.head _)))
  · exact N _ (.tail _ (.tail _ (.tail _ (hr _ hp))))
theorem rows_back {h₀ h : Heap} {L : Addr} {a b c d e f : Addr × Obj} {r : List (Addr × Obj)} (N : News h₀ L h (a :: b :: c :: d :: e :: f :: r)) : News h₀ L h (d :: e :: a :: b :: c :: f :: r) := by
  intro p hp; apply N; simp only [List.mem_cons] at hp ⊢; grind
theorem rows_pre {nx ndx nn v dv L : Addr} {ov odv o1 o2 o3 : Obj} {r rest : List (Addr × Obj)} {h₀ h : Heap} (_ : News h₀ L h ((nx, o1) :: (ndx, o2) :: (nn, o3) :: r)) (q : (∀ p ∈ r, p.1 < nn) ∧ @LT.lt Nat _ nn ndx ∧ @LT.lt Nat _ ndx nx) (mv : (v, ov) ∈ r) (md : (dv, odv) ∈ r) (mr : ∀ q ∈ rest, q ∈ r) (hdv : ∀ p ∈ rest, p.1 ≠ dv) :
    (∀ p ∈ (nn, o3) :: rest, p.1 ≠ dv) ∧ @Ne Nat v ndx ∧ @Ne Nat dv ndx ∧ @Ne Nat nx ndx ∧ @Ne Nat nx dv ∧ ∀ p ∈ (nn, o3) :: rest, p.1 ≠ ndx := by
  obtain ⟨q1, q2, q3⟩ := q
  have k1 : @LT.lt Nat _ v nn := q1 _ mv
  have k2 : @LT.lt Nat _ dv nn := q1 _ md
  refine ⟨fun p hp => ?_, Nat.ne_of_lt (Nat.lt_trans k1 q2), Nat.ne_of_lt (Nat.lt_trans k2 q2), Nat.ne_of_gt q3, Nat.ne_of_gt (Nat.lt_trans k2 (Nat.lt_trans q2 q3)), fun p hp => ?_⟩
  · rcases List.mem_cons.mp hp with rfl | hp
    · exact Nat.ne_of_gt k2
    · exact hdv p hp
  · rcases List.mem_cons.mp hp with rfl | hp
    · exact Nat.ne_of_lt q2
    · exact Nat.ne_of_lt (Nat.lt_trans (q1 _ (mr _ hp)) q2)
set_option maxHeartbeats 4000000 in
theorem put_rows {w : World} {mean : ExcName → Option Value} {mg mb : Str → Option Value}
    {dp un : Nat} {gd : Option (List Code)} {env : Env} {outer : List Env} {A₀ : Around} {base h₀ : Heap} {L : Addr} {m : Str → Option Value}
    {s : Shared} {Q E : Value → Shared → Prop} {rest : List (Addr × Obj)} {nx ndx v dv : Addr} {a b c d e tv tn : Tok} {a' b' c' d' e' t' : Tok} {it it' : Value} {sh : Bool}
    (B : Below A₀ base outer h₀) (F : Fr h₀ L s.heap m) (X : (Mine.hd.heap_39 w.params).In h₀)
    (T : Top Mine.hd.view_39 (looseW Mine.hd.view_39 [Str.ofString "MOST_TOTAL"]) mean mg mb h₀)
    (hfr : env.frame = some L) (hk : env.scope.kind = .function) (N : News h₀ L s.heap ((nx, instObj 78 ndx) :: (ndx, vecD w.params a' b' c' d' e' (Str.ofString "integer") t' it' .none false) :: (v, instObj 78 dv) :: (dv, vecD w.params a b c d e (Str.ofString "list") tv it .none sh) :: rest)) (hd : dp + 3 < recursionLimit) (hu : un + 20 < cLine)
    (hvd : @Ne Nat v dv) (hdv : ∀ p ∈ rest, p.1 ≠ dv) (hvn : @Ne Nat v ndx) (hdvn : @Ne Nat dv ndx) (hnx : @Ne Nat nx ndx) (hnd : @Ne Nat nx dv) (hdn : ∀ p ∈ rest, p.1 ≠ ndx)
    (hret : ∀ da o' h' tk', Obj.IsDictOf (PySem.strKind PySem.Challenge.rw_pq1397_01.row.prog w) o' [(Str.ofString "row.names", .ref nx)] → Fr h₀ L h' m → News h₀ L h' ((da, o') :: (nx, instObj 78 ndx) :: (ndx, vecD w.params a' b' c' d' e' (Str.ofString "integer") t' it' .none true) :: (v, instObj 78 dv) :: (dv, vecD w.params a b c d e (Str.ofString "list") tv it (.ref da) sh) :: rest) → Q .none { s with heap := h', toks := tk' }) :
    wpAny (model PySem.Challenge.rw_pq1397_01.row.prog w) (top dp un gd env outer) (call (.ref 124) [.ref v, .str (Str.ofString "row.names") tn, .ref nx]) Q E s := by
  have hfill : ((Mine.hd.heap_39 w.params).In h₀ → PySem.Challenge.rw_pq1397_01.row.prog = PySem.Challenge.rw_pq1397_01.row.prog) := by k_fill; intro _; rfl
  clear hfill
  have hdvx : @Ne Nat ndx dv := Ne.symm hdvn
  refine wpAny_call ?_
  k_dflt (refine' code_def ?k1 ?k2 ?k3 ?k4 ?k5 ?kA ?kF ?kK ?k6 ?k7 ?k8 ?k9 ?kB ?_ ?c2 ?c3 ?c4 ?c5; (case kA => exact rfl); (case kF => assumption); (case kK => assumption); (case k1 => k_asm); (case k2 => k_asm); (case k3 => k_asm); (case k4 => k_asm); (case k5 => k_asm); (case k6 => k_is); (case k7 => k_is); (case k8 => ktr_room); (case k9 => exact BindsTo.of_eq rfl); (case kB => exact locs rfl); (case c2 => exact rfl); (case c3 => exact rfl); (case c4 => exact rfl); (case c5 => decide); k_whole; intro g1 L1 h1 FG1 F1 N1 B1 X1 T1; (try dsimp only); (try k_fold))
  k_steps
  rename Fr h₀ L _ _ => F9
  rename News h₀ L _ _ => N9
  exact hret _ _ _ _ (by assumption) F9 N9


end
section
/-- each group of walks starts as in a fresh process: open_top leaves a switch on, and the lines of the group before are dropped -/
theorem walk_off19 : True := by w_top off; k_with_none; trivial
theorem walk_line13 : True := by
  k_with "m enter" => (refine' code_def ?k1 ?k2 ?k3 ?k4 ?k5 ?kA ?kF ?kK ?k6 ?k7 ?k8 ?k9 ?kB ?_ ?c2 ?c3 ?c4 ?c5; (case kA => exact rfl); (case kF => assumption); (case kK => assumption); (case k1 => k_asm); (case k2 => k_asm); (case k3 => k_asm); (case k4 => k_asm); (case k5 => k_asm); (case k6 => k_is); (case k7 => k_is); (case k8 => ktr_room); (case k9 => exact BindsTo.of_eq rfl); (case kB => exact locs rfl); (case c2 => exact rfl); (case c3 => exact rfl); (case c4 => exact rfl); (case c5 => decide); k_whole; intro g' L' h' FG' F' N' B' X' T'; (try dsimp only); (try k_fold))
  k_with "m ne" => (intro p hp; simp only [List.mem_cons, List.not_mem_nil, or_false] at hp; first | (subst hp; refine neN ?_; dsimp only; omega) | (rcases hp with h | h | h <;> (subst h; refine neN ?_; dsimp only; omega)))
  k_with "m for" => ((rename Fr _ _ _ _ => lF'); (with_unfolding_all refine' For_invVF lF' ?k1 ?k2 ?_; (case k1 => exact rfl); (case k2 => exact rfl); k_whole))
  k_with "m units" => (have hcL9 := cLine_is; (try simp only [units_in1, units_deeper, Around.mark_units, units_caller] at *); (try dsimp only [top] at *); omega)
  k_with "compareOp Eq ref ref" => (k_here; (with_reducible show wpAny _ _ (compareOp CmpOp.Eq (Value.ref _) (Value.ref _)) _ _ _); (with_unfolding_all refine' eq_intsK ?k1 ?k2 ?k3 ?k4 ?k5 ?_; (case k1 => is_list); (case k2 => l_intsC); (case k3 => is_list); (case k4 => l_intsC); (case k5 => walk_at "m units"); k_whole); (try simp only [filter_tt]))
  k_with "call ref" => (k_here; k_dflt (refine wpAny_call ?_; (refine' code_def ?k1 ?k2 ?k3 ?k4 ?k5 ?kA ?kF ?kK ?k6 ?k7 ?k8 ?k9 ?kB ?_ ?c2 ?c3 ?c4 ?c5; (case kA => exact rfl); (case kF => exact rfl); (case kK => exact rfl); (case k1 => k_asm); (case k2 => k_asm); (case k3 => k_asm); (case k4 => k_asm); (case k5 => k_asm); (case k6 => k_is); (case k7 => k_is); (case k8 => ktr_room); (case k9 => exact BindsTo.of_eq rfl); (case kB => exact locs rfl); (case c2 => exact rfl); (case c3 => exact rfl); (case c4 => exact rfl); (case c5 => decide); k_whole; intro g' L' h' FG' F' N' B' X' T'; (try dsimp only); (try k_fold))))
  k_with "call builtin:len" => (k_here; (with_reducible show wpAny _ _ (call (Value.builtin "len") [Value.ref _]) _ _ _); k_dflt (refine' kst_len ?k1 ?k2 ?k3 ?k4 ?_; (case k1 => k_asm); (case k2 => (repeat (first | assumption | exact List.Mem.head _ | refine List.Mem.tail _ ?_))); (case k3 => first | exact ItemsIn.length (by assumption) | exact IntsAre.length (by assumption)); (case k4 => omega); k_whole))
  k_with "exec Raise some none" => (k_here; k_dflt (refine' Raise_refusal ?hh ?_; (case hh => exact rfl)))
  k_with "call ref" => (k_here; (with_reducible show wpAny _ _ (PySem.call (Value.ref 51) [Value.str _ _]) _ _ _); k_dflt (refine' refusal_new ?B ?F ?X ?T ?hfr ?hk ?N ?hd ?hu ?_; (case B => k_asm); (case F => k_asm); (case X => k_asm); (case N => k_asm); (case T => k_asm); (case hfr => first | exact rfl | assumption); (case hk => first | exact rfl | assumption); (case hd => ktr_room); (case hu => ktr_units)); intro e' dx' tt' h' tk' tk2' F' N' ne'; (try dsimp only); (try k_fold); (refine' ⟨_, _, _, rfl, ?ra, ?rb, ?_⟩; (case ra => exact (Frag.In.keeps (by k_asm) (Fr.keep (by k_asm))) _ _ (ref_obj _)); (case rb => exact (News_head (by k_asm)))))
  k_with "call ref" => (k_here; (with_reducible show wpAny _ _ (PySem.call (Value.ref 78) [Value.str _ _, _]) _ _ _); k_dflt (refine' vec_new2 ?B ?F ?X ?T ?hfr ?hk ?N ?hd ?hu ?_; (case B => k_asm); (case F => k_asm); (case X => k_asm); (case N => k_asm); (case T => k_asm); (case hfr => first | exact rfl | assumption); (case hk => first | exact rfl | assumption); (case hd => ktr_room); (case hu => ktr_units)); k_whole; intro x' dx' a' b' c' d' e' h' tk' l1 l2 F' N'; (try dsimp only); (try k_fold); (try k_lt l1); (try k_lt2 l2))
  k_with "call ref" => (k_here; (with_reducible show wpAny _ _ (PySem.call (Value.ref 78) [Value.str _ _, _, Value.ref _]) _ _ _); k_dflt (refine' vec_new3 ?B ?F ?X ?T ?hfr ?hk ?N ?hd ?hu ?_; (case B => k_asm); (case F => k_asm); (case X => k_asm); (case N => k_asm); (case T => k_asm); (case hfr => first | exact rfl | assumption); (case hk => first | exact rfl | assumption); (case hd => ktr_room); (case hu => ktr_units)); k_whole; intro x' dx' a' b' c' d' e' h' tk' l1 l2 F' N'; (try dsimp only); (try k_fold); (try k_lt l1); (try k_lt2 l2))
  k_with "call type:list" => (k_here; (with_reducible show wpAny _ _ (call (Value.type _) [Value.ref _]) _ _ _); k_dflt (refine' kup_listOf ?F ?N ?b ?e ?_ ?z; (case F => k_asm); (case N => k_asm); (case b => (repeat (first | assumption | refine List.Mem.tail _ ?_))); (case e => exact rfl); (case z => assumption)); intro D' c' h' F' N' l1; (try k_lt l1))
  trivial
section
variable {prog : Program} {w : World} {A : Around} {s : Shared} {h₀ : Heap} {L : Addr} {m : Str → Option Value} {env : Env} {elt : Expr} {x : Str} {scope : Scope} {cl : List (Str × Addr)} {S : List (Addr × Obj) → Prop} {P : Nat → Value → Prop}
  {Fin : List Value → List (Addr × Obj) → Prop} {n : Nat}
theorem comprest_ind (Inv : Nat → List Value → List (Addr × Obj) → Prop)
    (step : ∀ i ys news v I oI C oC D m₂ h tk (E' : Value → Shared → Prop), i < n → Inv i ys news → P i v → LCg.NsObj oC m₂ → m₂ x = some v → Fr h₀ L h m → News h₀ L h ((I, oI) :: (C, oC) :: (D, LCg.lst ys) :: news) → LCg.Off3 I C D news → ((@Ne Nat I C) ∧ (@Ne Nat I D) ∧ (@Ne Nat C D)) →
      wpAny (model prog w) A (eval elt (compEnvC scope cl C env)) (LCg.CompEnd h₀ L m { s with heap := h, toks := tk } I oI C oC D (LCg.lst ys) S (fun y news' => Inv (i + 1) (ys ++ [y]) news')) E' { s with heap := h, toks := tk })
    (fin : ∀ ys news, Inv n ys news → Fin ys news) : ∀ k i ys news, i + k = n → Inv i ys news → LCg.CompRest prog w A h₀ L m env elt x scope cl s S P Fin k i ys news
  | 0, i, ys, news, hk, hI => by
    obtain rfl : i = n := by omega
    exact fin ys news hI
  | k + 1, i, ys, news, hk, hI => by
    intro v I oI C oC D m₂ h tk E' hP hC hx F N off ne
    refine wpAny_mono (step i ys news v I oI C oC D m₂ h tk E' (by omega) hI hP hC hx F N off ne) (fun y s₂ q => ?_) fun _ _ e => e
    obtain ⟨h', tk', news', e, F', N', off', hS, hI'⟩ := q
    exact ⟨h', tk', news', e, F', N', off', hS, comprest_ind Inv step fin k (i + 1) (ys ++ [y]) news' (by omega) hI'⟩
end
theorem datAll_snoc {l : List (Addr × Obj)} {vs : List Value} {ds : List Dat} {v : Value} {d : Dat} (h : DatAll l vs ds) (h' : DatIn l v d) : DatAll l (vs ++ [v]) (ds ++ [d]) := by
  match vs, ds, h with
  | [], [], .nil => exact .cons h' .nil
  | _ :: _, _ :: _, .cons a b => exact .cons a (datAll_snoc b h')

section
variable {prog : Program} {w : World} {A : Around} {E : Value → Shared → Prop} {s : Shared} {h₀ : Heap} {L a : Addr} {news : List (Addr × Obj)} {ds : List Dat} {x : Value} {d : Dat} {Q : Value → Shared → Prop}
theorem in_tup (N : News h₀ L s.heap news) (Dt : DatIn news (.ref a) (.tuple ds)) (Dx : DatIn news x d) (ha : ∀ e ∈ ds, kqdOk 8 e = true) (hd : kqdOk 8 d = true) (hu : A.units + 64 < cLine) (h : ∀ b : Bool, (b = true ↔ d ∈ ds) → Q (.bool b) s) :
    wpAny (model prog w) A (compareOp .In x (.ref a)) Q E s := by
  obtain ⟨as, ra⟩ := kqd_in N 9 Dt (by simpa [kqdOk] using ha)
  rw [kqdP] at ra
  obtain ⟨bs, rx⟩ := kqd_in N 8 Dx hd
  have l := kqd_layL ha
  have ld := kqd_lay 8 d hd
  have l2 := ld.2
  refine SeqAt.in_tuple_reads ra rx l.1 ld.1 ?_ (h _ (kqd_any ds d ha hd))
  have := Nat.min_le_right (PyData.depthAll (kqdPs ds)) (kqdP d).depth
  omega
theorem in_lst (N : News h₀ L s.heap news) (Dt : DatIn news (.ref a) (.list ds)) (Dx : DatIn news x d) (ha : ∀ e ∈ ds, kqdOk 8 e = true) (hd : kqdOk 8 d = true) (hu : A.units + 64 < cLine) (h : ∀ b : Bool, (b = true ↔ d ∈ ds) → Q (.bool b) s) :
    wpAny (model prog w) A (compareOp .In x (.ref a)) Q E s := by
  obtain ⟨as, ra⟩ := kqd_in N 9 Dt (by simpa [kqdOk] using ha)
  rw [kqdP] at ra
  obtain ⟨bs, rx⟩ := kqd_in N 8 Dx hd
  have l := kqd_layL ha
  have ld := kqd_lay 8 d hd
  have l2 := ld.2
  refine SeqAt.in_list_reads ra rx l.1 ld.1 ?_ (h _ (kqd_any ds d ha hd))
  have := Nat.min_le_right (PyData.depthAll (kqdPs ds)) (kqdP d).depth
  omega
theorem not_here {n q : Int} (h : ¬ (n = 0 ∧ q = 0)) {b : Bool} (hb : b = true ↔ Dat.tuple [.int n, .int q] ∈ [Dat.none, Dat.tuple [.int 0, .int 0]]) : b = false := by
  cases b with
  | false => rfl
  | true =>
    have := hb.mp rfl
    simp at this
    exact absurd this h
end
theorem rows_out {h₀ h : Heap} {L : Addr} {p1 p2 p3 p4 pv pdv : Addr × Obj} {r rest : List (Addr × Obj)} (N : News h₀ L h (p1 :: p2 :: p3 :: p4 :: r)) (hv : pv ∈ p1 :: p2 :: p3 :: p4 :: r) (hdv : pdv ∈ p1 :: p2 :: p3 :: p4 :: r) (hr : ∀ q ∈ rest, q ∈ p1 :: p2 :: p3 :: p4 :: r) :
    News h₀ L h (pv :: pdv :: p1 :: p2 :: p3 :: p4 :: rest) := by
  intro p hp
  simp only [List.mem_cons] at hp
  rcases hp with rfl | rfl | rfl | rfl | rfl | rfl | hp
  · exact N _ hv
  · exact N _ hdv
  · exact N _ (.head _)
  · exact N _ (.tail _ (.head _))
  · exact N _ (.tail _ (.tail _ (.head _)))
  · exact N _ (.tail _ (.tail _ (.tail _ (.head _))))
  · exact N _ (hr _ hp)

theorem walk_line14 : True := by
  k_with "exec Assign cons ListComp" => (k_here; refine stopIt ?_)
  k_with "call ref" => (k_here; (with_reducible show wpAny _ _ (PySem.call (Value.ref 96) [_]) _ _ _); k_dflt (refine' integer_any ?B ?F ?X ?T ?hfr ?hk ?N ?hd ?hu ?hfa ?hk1 ?_; (case B => k_asm); (case F => k_asm); (case X => k_asm); (case N => k_asm); (case T => k_asm); (case hfr => first | exact rfl | assumption); (case hk => first | exact rfl | assumption); (case hd => ktr_room); (case hu => ktr_units); (case hfa => (repeat (first | assumption | exact List.Mem.head _ | refine List.Mem.tail _ ?_))); (case hk1 => assumption)); k_whole; intro nx' ndx' nn' nc' a' b' c' d' e' t' h' tk' nl1 nl2 nl3 F' N'; (try dsimp only); (try k_fold); have nl4 := And.intro nl1 (And.intro nl2 nl3); clear nl1 nl2 nl3)
  k_with "call builtin:len" => (k_here; (with_reducible show wpAny _ _ (call (Value.builtin "len") [Value.ref _]) _ _ _); k_dflt (refine' kst_len ?k1 ?k2 ?k3 ?k4 ?_; (case k1 => k_asm); (case k2 => (repeat (first | assumption | exact List.Mem.head _ | refine List.Mem.tail _ ?_))); (case k3 => assumption); (case k4 => omega); k_whole))
  k_with "call ref" => (k_here; (with_reducible show wpAny _ _ (PySem.call (Value.ref 131) [_]) _ _ _); k_dflt (refine' whole_spec ?B ?F ?X ?T ?hfr ?hk ?N ?hd ?hu ?hi ?_; (case B => k_asm); (case F => k_asm); (case X => k_asm); (case N => k_asm); (case T => k_asm); (case hfr => first | exact rfl | assumption); (case hk => first | exact rfl | assumption); (case hd => ktr_room); (case hu => ktr_units); (case hi => (refine ItemIn.mono (by assumption) ?_; intro p hp; (repeat (first | assumption | refine List.Mem.tail _ ?_))))); k_whole; intro r' h' tk' rd' F' N'; (try dsimp only); (try k_fold))
  k_with "compareOp In" => (k_here; refine stopIt ?_)
  k_with "call ref" => (k_here; (with_reducible show wpAny _ _ (PySem.call (Value.ref 124) [_, _, _]) _ _ _); refine stopIt ?_)
  k_with "m put" => (k_dflt (refine' put_rows ?B ?F ?X ?T ?hfr ?hk ?N ?hd ?hu ?hvd ?hdv ?hvn ?hdvn ?hnx ?hnd ?hdn ?_; (case B => k_asm); (case F => k_asm); (case X => k_asm); (case N => assumption); (case T => k_asm); (case hfr => first | exact rfl | assumption); (case hk => first | exact rfl | assumption); (case hd => ktr_room); (case hu => ktr_units); (case hvd => assumption); (case hdv => assumption); (case hvn => assumption); (case hdvn => assumption); (case hnx => assumption); (case hnd => assumption); (case hdn => assumption)); k_whole)
  trivial
set_option maxHeartbeats 8000000 in
theorem set_rows_spec {w : World} {mean : ExcName → Option Value} {mg mb : Str → Option Value}
    {dp un : Nat} {gd : Option (List Code)} {env : Env} {outer : List Env} {A₀ : Around} {base h₀ : Heap} {L : Addr} {m : Str → Option Value}
    {s : Shared} {Q E : Value → Shared → Prop} {rest : List (Addr × Obj)}
    {v dv lv x dx li : Addr} {a b c d e tv : Tok} {a' b' c' d' e' t' : Tok} {at' : Value} {sh : Bool} {vs : List Value} {nl : Nat} {ds : List Item}
    (B : Below A₀ base outer h₀) (F : Fr h₀ L s.heap m) (X : (Mine.hd.heap_39 w.params).In h₀)
    (T : Top Mine.hd.view_39 (looseW Mine.hd.view_39 [Str.ofString "MOST_TOTAL"]) mean mg mb h₀)
    (hfr : env.frame = some L) (hk : env.scope.kind = .function) (N : News h₀ L s.heap ((v, instObj 78 dv) :: (dv, vecD w.params a b c d e (Str.ofString "list") tv (.ref lv) .none false) :: rest)) (hd : dp + 20 < recursionLimit) (hu : un + 400 < cLine)
    (hvd : @Ne Nat v dv) (hdv : ∀ p ∈ rest, p.1 ≠ dv)
    (hx : (x, instObj 78 dx) ∈ rest) (hdx : (dx, vecD w.params a' b' c' d' e' (Str.ofString "double") t' (.ref li) at' sh) ∈ rest)
    (hl : (li, listOf vs.toArray nl) ∈ rest) (hi : ItemsIn rest vs ds) (hsz : ds.length < 1000)
    (hpre : ds.length = 2 → ds[0]? ≠ some none ∧ ds[0]? ≠ some (some (0, 0)))
    (hret : ∀ da o nx ndx nn ys n' a' b' c' d' e' t h' tk', DatAll [] ys (ds.map fun d => datOf (whole d)) → Obj.IsDictOf (PySem.strKind PySem.Challenge.rw_pq1397_01.row.prog w) o [(Str.ofString "row.names", .ref nx)] → Fr h₀ L h' m →
      News h₀ L h' ((v, instObj 78 dv) :: (dv, vecD w.params a b c d e (Str.ofString "list") tv (.ref lv) (.ref da) false) :: (da, o) :: (nx, instObj 78 ndx) :: (ndx, vecD w.params a' b' c' d' e' (Str.ofString "integer") t (.ref nn) .none true) :: (nn, listOf ys.toArray n') :: rest) → Q .none { s with heap := h', toks := tk' }) :
    wpAny (model PySem.Challenge.rw_pq1397_01.row.prog w) (top dp un gd env outer) (call (.ref 150) [.ref v, .ref x]) Q E s := by
  have hfill : ((Mine.hd.heap_39 w.params).In h₀ → PySem.Challenge.rw_pq1397_01.row.prog = PySem.Challenge.rw_pq1397_01.row.prog) := by k_fill; intro _; rfl
  clear hfill
  have N0 : News h₀ L s.heap ((li, listOf vs.toArray nl) :: (x, instObj 78 dx) :: (dx, vecD w.params a' b' c' d' e' (Str.ofString "double") t' (.ref li) at' sh) :: (v, instObj 78 dv) :: (dv, vecD w.params a b c d e (Str.ofString "list") tv (.ref lv) .none false) :: rest) := news_cons (news_cons (news_cons N (.tail _ (.tail _ hdx))) (.tail _ (.tail _ (.tail _ hx)))) (.tail _ (.tail _ (.tail _ (.tail _ hl))))
  have hliv : @Ne Nat li dv := hdv _ hl
  have hxv : @Ne Nat x dv := hdv _ hx
  have hdxv : @Ne Nat dx dv := hdv _ hdx
  refine wpAny_call ?_
  k_dflt (refine' code_def ?k1 ?k2 ?k3 ?k4 ?k5 ?kA ?kF ?kK ?k6 ?k7 ?k8 ?k9 ?kB ?_ ?c2 ?c3 ?c4 ?c5; (case kA => exact rfl); (case kF => assumption); (case kK => assumption); (case k1 => k_asm); (case k2 => k_asm); (case k3 => k_asm); (case k4 => exact N0); (case k5 => k_asm); (case k6 => k_is); (case k7 => k_is); (case k8 => ktr_room); (case k9 => exact BindsTo.of_eq rfl); (case kB => exact locs rfl); (case c2 => exact rfl); (case c3 => exact rfl); (case c4 => exact rfl); (case c5 => decide); k_whole; intro g1 L1 h1 FG1 F1 N1 B1 X1 T1; (try dsimp only); (try k_fold))
  k_steps
  rename Fr g1 L1 _ _ => F2
  rename News g1 L1 _ _ => N2
  refine goOn ?_
  k_dflt (refine LCg.Assign_ListComp_U (F₀ := F2) (by rfl) (by with_unfolding_all rfl) (by rfl) (by decide) (by rfl) (by decide) (by rfl) (by rfl) (by rfl) ?_)
  k_steps
  rename Fr g1 L1 _ _ => F3
  rename News g1 L1 _ _ => N3
  refine LCg.CompSrc.ledger rfl F3 N3 (by repeat (first | assumption | exact List.Mem.head _ | refine List.Mem.tail _ ?_)) (by show vs.toArray.size ≤ _; rw [sizeLine_eq, List.size_toArray, hi.length]; omega) fun g9 => ?_
  have hvl := hi.length
  refine comprest_ind (fun i ys nw => nw = _ ∧ DatAll [] ys ((ds.take i).map fun d => datOf (whole d))) ?_ ?_ _ 0 [] _ (Nat.zero_add _) ⟨rfl, .nil⟩
  · rintro i ys nw v9 I9 oI9 C9 oC9 D9 m9 h9 tk9 E9 hlt ⟨rfl, hys⟩ hP hC hm9 F9 N9 off9 ne9
    obtain ⟨d9, hd9, hI9, hO9⟩ := hi.get (v := v9) (by simpa using hP)
    (try dsimp only)
    k_steps
    rename News g1 L1 _ _ => N8
    rename Fr g1 L1 _ _ => F8
    refine LCg.CompEnd.intro F8 N8 _ (fun p hp => hp) off9 ?_ ⟨rfl, ?_⟩
    · exact .inr ⟨listOf vs.toArray nl, List.Mem.tail _ (List.Mem.head _), rfl, nl, rfl⟩
    · rw [take_snoc hd9, List.map_append]
      exact datAll_snoc hys (by assumption)
  · rintro ys nw ⟨rfl, hys⟩
    rw [show vs.toArray.size = ds.length by rw [List.size_toArray, hvl], List.take_length] at hys
    have hyl : ys.length = ds.length := by rw [hys.length, List.length_map]
    have hyk : ys.length < 1000 := by omega
    by_cases h2 : ds.length = 2
    · obtain ⟨d0, d1, rfl⟩ : ∃ d0 d1, ds = [d0, d1] := by
        match ds, h2 with
        | [d0, d1], _ => exact ⟨d0, d1, rfl⟩
      cases hi with
      | cons hi0 hO0 hi1 =>
        cases hi1 with
        | cons hi1 hO1 hi2 =>
          cases hi2
          have hpre' := hpre rfl
          match d0, hi0, hpre' with
          | none, _, hp => exact absurd rfl hp.1
          | some (n0, q0), ⟨a0, t0, u0, c0, e0, hm0⟩, hp =>
            subst e0
            have hnq : ¬ (n0 = 0 ∧ q0 = 0) := fun h => hp.2 (by rw [h.1, h.2]; rfl)
            have ha0v : @Ne Nat a0 dv := hdv _ hm0
            walk_at "FinA"
            rename News g1 L1 _ _ => N5
            have N6 := news_cons (p := (a0, tupOf #[.int n0 t0, .int q0 u0] c0)) N5 (by repeat (first | exact hm0 | refine List.Mem.tail _ ?_))
            clear N5
            (try dsimp only)
            k_steps
            · refine goOn ?_
              rename News g1 L1 _ _ => N7
              refine in_tup N7 (ds := [Dat.none, Dat.tuple [.int 0, .int 0]]) (d := Dat.tuple [.int n0, .int q0]) (.tuple (List.Mem.head _) (.cons .none (.cons (.tuple (List.Mem.tail _ (List.Mem.head _)) (.cons (.int _ _) (.cons (.int _ _) .nil))) .nil))) (.tuple (by repeat (first | exact List.Mem.head _ | refine List.Mem.tail _ ?_)) (.cons (.int _ _) (.cons (.int _ _) .nil))) (fun e he => by simp only [List.mem_cons, List.not_mem_nil, or_false] at he; rcases he with rfl | rfl <;> rfl) rfl (by walk_at "m units") fun b hb => ?_
              obtain rfl := not_here hnq hb
              (try dsimp only)
              k_steps
              refine goOn ?_
              rename News g1 L1 _ _ => N9
              rename ((∀ (p : Addr × Obj), p ∈ _ → p.1 < _) ∧ _ < _ ∧ _ < _) => q4
              have N8 := rows_in (pv := (v, instObj 78 dv)) (pdv := (dv, vecD w.params a b c d e (Str.ofString "list") tv (.ref lv) .none false)) (rest := rest) N9 (by repeat (first | exact List.Mem.head _ | refine List.Mem.tail _ ?_)) (by repeat (first | exact List.Mem.head _ | refine List.Mem.tail _ ?_)) (fun q hq => by repeat (first | exact hq | refine List.Mem.tail _ ?_))
              obtain ⟨p1, p2, p3, p4, p5, p6⟩ := rows_pre (v := v) (dv := dv) (ov := instObj 78 dv) (odv := vecD w.params a b c d e (Str.ofString "list") tv (.ref lv) .none false) (rest := rest) N9 q4 (by repeat (first | exact List.Mem.head _ | refine List.Mem.tail _ ?_)) (by repeat (first | exact List.Mem.head _ | refine List.Mem.tail _ ?_)) (fun q hq => by repeat (first | exact hq | refine List.Mem.tail _ ?_)) hdv
              clear N9 q4
              walk_at "m put"
              intro da9 o9 h9 tk9 do9 F8 N7
              (try dsimp only)
              (try k_fold)
              k_steps
              rename Fr h₀ L _ _ => F6
              rename News h₀ L _ _ => N6
              exact hret _ _ _ _ _ _ _ _ _ _ _ _ _ _ _ hys do9 F6 (rows_back N6)
            · exfalso
              rename ((([_, _] : List Item).length : Int) ≠ 2) => e2
              exact e2 rfl
    · (try dsimp only)
      k_steps
      · exfalso
        rename ((ds.length : Int) = 2) => e2
        omega
      · refine goOn ?_
        rename News g1 L1 _ _ => N9
        rename ((∀ (p : Addr × Obj), p ∈ _ → p.1 < _) ∧ _ < _ ∧ _ < _) => q4
        have N8 := rows_in (pv := (v, instObj 78 dv)) (pdv := (dv, vecD w.params a b c d e (Str.ofString "list") tv (.ref lv) .none false)) (rest := rest) N9 (by repeat (first | exact List.Mem.head _ | refine List.Mem.tail _ ?_)) (by repeat (first | exact List.Mem.head _ | refine List.Mem.tail _ ?_)) (fun q hq => by repeat (first | exact hq | refine List.Mem.tail _ ?_))
        obtain ⟨p1, p2, p3, p4, p5, p6⟩ := rows_pre (v := v) (dv := dv) (ov := instObj 78 dv) (odv := vecD w.params a b c d e (Str.ofString "list") tv (.ref lv) .none false) (rest := rest) N9 q4 (by repeat (first | exact List.Mem.head _ | refine List.Mem.tail _ ?_)) (by repeat (first | exact List.Mem.head _ | refine List.Mem.tail _ ?_)) (fun q hq => by repeat (first | exact hq | refine List.Mem.tail _ ?_)) hdv
        clear N9 q4
        walk_at "m put"
        intro da9 o9 h9 tk9 do9 F8 N7
        (try dsimp only)
        (try k_fold)
        k_steps
        rename Fr h₀ L _ _ => F6
        rename News h₀ L _ _ => N6
        exact hret _ _ _ _ _ _ _ _ _ _ _ _ _ _ _ hys do9 F6 (rows_back N6)


end
section
/-- each group of walks starts as in a fresh process: open_top leaves a switch on, and the lines of the group before are dropped -/
theorem walk_off20 : True := by w_top off; k_with_none; trivial
def EndC (h₀ : Heap) (L : Addr) (x y : Str) (m₀ : Str → Option Value) (fa : Addr) (rest own : List (Addr × Obj)) (es : List Dat) (d : Dat) (s s₂ : Shared) : Prop :=
  ∃ ws n m' h' tk, DatAll [] ws (es ++ [d]) ∧ s₂ = { s with heap := h', toks := tk } ∧ Fr h₀ L h' m' ∧ (∀ z, z ≠ x → z ≠ y → m' z = m₀ z) ∧ News h₀ L h' ((fa, listOf ws.toArray n) :: (rest ++ own))
section
variable {prog : Program} {w : World} {A : Around} {E : Value → Shared → Prop} {s : Shared} {env : Env} {h₀ : Heap} {body : List Stmt} {Q : Flow → Shared → Prop}
theorem loopC (f : Item → Dat) {x y : Str} {l fa : Addr} {vs : List Value} {nn n0 : Nat} {ds : List Item} {m₀ : Str → Option Value} {rest : List (Addr × Obj)}
    (hh : A.handled = none) (hl : (l, listOf vs.toArray nn) ∈ rest) (hi : ItemsIn rest vs ds) (hf : AllNe fa rest)
    (F : Fr h₀ env.locals s.heap m₀) (N : News h₀ env.locals s.heap ((fa, listOf (([] : List Value)).toArray n0) :: rest))
    (turn : ∀ i d v ws n (u : Option Value) h tk own, ds[i]? = some d → DatAll [] ws ((ds.take i).map f) → ItemIn (rest ++ own) v d → ItemOk d → AllNe fa (rest ++ own) →
      Fr h₀ env.locals h (fun z => if z = x then some v else if z = y then u else m₀ z) → News h₀ env.locals h ((fa, listOf ws.toArray n) :: (rest ++ own)) →
      wpAny (model prog w) A (execs body env) (PostA Q (EndC h₀ env.locals x y m₀ fa rest own ((ds.take i).map f) (f d) { s with heap := h, toks := tk })) E { s with heap := h, toks := tk })
    (done : ∀ ws n (u1 u2 : Option Value) h tk, DatAll [] ws (ds.map f) →
      Fr h₀ env.locals h (fun z => if z = x then u1 else if z = y then u2 else m₀ z) → News h₀ env.locals h ((fa, listOf ws.toArray n) :: rest) → Q .next { s with heap := h, toks := tk }) :
    wpAny (model prog w) A (pyIter (.ref l)) (fun it s₂ => LoopAtV prog w A h₀ env x body Q E it s₂) E s := by
  have key : ∀ {m₁ : Str → Option Value}, (∀ z, z ≠ x → z ≠ y → m₁ z = m₀ z) → m₁ = fun z => if z = x then m₁ x else if z = y then m₁ y else m₀ z := by
    intro m₁ hm
    funext z
    by_cases h : z = x
    · subst h; simp
    · by_cases h' : z = y
      · subst h'; simp [h]
      · simp [h, h', hm z h h']
  refine kdl_iter (fun i m₁ nx => ∃ ws n, DatAll [] ws ((ds.take i).map f) ∧ (∀ z, z ≠ x → z ≠ y → m₁ z = m₀ z) ∧ nx = (fa, listOf ws.toArray n) :: rest) hh (List.mem_cons_of_mem _ hl) F N ⟨[], n0, .nil, fun _ _ _ => rfl, rfl⟩ ?_ ?_
  · rintro i v m₁ nx h tk own hv hoff _ ⟨ws, n, hws, hm, rfl⟩ F₁ N₁
    obtain ⟨d, hd, hI, hO⟩ := hi.get hv
    have hne : AllNe fa (rest ++ own) := by
      intro p hp
      rcases List.mem_append.mp hp with hp | hp
      · exact hf p hp
      · exact hoff p hp fa (by simp)
    have F₂ : Fr h₀ env.locals h (fun z => if z = x then some v else if z = y then m₁ y else m₀ z) := by
      have e : (fun z => if z = x then some v else m₁ z) = fun z => if z = x then some v else if z = y then m₁ y else m₀ z := by
        funext z
        by_cases h1 : z = x
        · simp [h1]
        · by_cases h2 : z = y
          · subst h2; simp [h1]
          · simp [h1, h2, hm z h1 h2]
      rw [← e]; exact F₁
    refine wpAny_mono (turn i d v ws n (m₁ y) h tk own hd hws (hI.mono fun p hp => List.mem_append_left _ hp) hO hne F₂ (by simpa using N₁)) (fun f' s₂ p => ?_) fun _ _ e => e
    have fin : EndC h₀ env.locals x y m₀ fa rest own ((ds.take i).map f) (f d) { s with heap := h, toks := tk } s₂ → InvEndG h₀ env.locals (fun m' nx => (l, listOf vs.toArray nn) ∈ nx ∧ ∃ ws n, DatAll [] ws ((ds.take (i + 1)).map f) ∧ (∀ z, z ≠ x → z ≠ y → m' z = m₀ z) ∧ nx = (fa, listOf ws.toArray n) :: rest) own { s with heap := h, toks := tk } s₂ := by
      rintro ⟨ws', n', m', h', tk', hws', rfl, F', hm', N'⟩
      refine ⟨h', tk', m', _, (fa, listOf ws'.toArray n') :: rest, rfl, F', N', fun p hp => ?_, fun p hp => ?_, fun p hp b hb => ?_, List.mem_cons_of_mem _ hl, ws', n', ?_, hm', rfl⟩
      · rcases List.mem_cons.mp hp with rfl | hp
        · exact .head _
        · exact .tail _ (List.mem_append_left _ hp)
      · exact .tail _ (List.mem_append_right _ hp)
      · exact hoff p hp b (by simpa using hb)
      · rw [take_snoc hd, List.map_append]; exact hws'
    cases f' with
    | ret v => exact p
    | brk => exact p.elim
    | next => exact fin p
    | cont => exact fin p
  · rintro m₁ nx h tk ⟨ws, n, hws, hm, rfl⟩ F₁ N₁
    have hl' := hi.length
    rw [hl', List.take_length] at hws
    refine done ws n (m₁ x) (m₁ y) h tk hws ?_ N₁
    rw [← key hm]; exact F₁
end
theorem rot2 {h₀ h : Heap} {L : Addr} {a b c d : Addr × Obj} {r : List (Addr × Obj)} (N : News h₀ L h (a :: b :: c :: d :: r)) : News h₀ L h (c :: d :: a :: b :: r) := by
  intro p hp; apply N; simp only [List.mem_cons] at hp ⊢; grind
theorem whole_hi {n q : Int} (h : ¬ n ≤ 2147483647) : whole (some (n, q)) = none := whole_far (by split <;> omega)
theorem whole_lo {n q : Int} (h : ¬ -2147483647 ≤ n) : whole (some (n, q)) = none := whole_far (by split <;> omega)
theorem whole_yes {n q : Int} (h : q = 1) (h1 : -2147483647 ≤ n) (h2 : n ≤ 2147483647) : whole (some (n, q)) = some n := whole_some h (by split <;> omega)
theorem wholes_ok (ds : List Item) : ∀ d ∈ ds.map (fun d => datOf (whole d)), kqdOk 8 d = true := by
  intro d hd
  obtain ⟨x, _, rfl⟩ := List.mem_map.mp hd
  cases whole x <;> rfl
open Classical in
theorem eq_same {prog : Program} {w : World} {A : Around} {E : Value → Shared → Prop} {s : Shared} {h₀ : Heap} {L a b : Addr} {news : List (Addr × Obj)} {xs ys : List Value} {ka kb : Nat} {ds : List Dat} {Q : Value → Shared → Prop} (N : News h₀ L s.heap news)
    (ma : (a, listOf xs.toArray ka) ∈ news) (Da : DatAll [] xs ds) (mb : (b, listOf ys.toArray kb) ∈ news) (Db : DatAll [] ys ds) (ha : ∀ d ∈ ds, kqdOk 8 d = true) (hu : A.units + 64 < cLine) (h : Q (.bool true) s) : wpAny (model prog w) A (compareOp .Eq (.ref a) (.ref b)) Q E s :=
  kqd_eq N ma rfl rfl Da (fun _ hp => nomatch hp) mb rfl rfl Db (fun _ hp => nomatch hp) ha ha hu (by rw [decide_eq_true rfl]; exact h)

theorem walk_line15 : True := by
  k_with "m enter" => (refine' code_def ?k1 ?k2 ?k3 ?k4 ?k5 ?kA ?kF ?kK ?k6 ?k7 ?k8 ?k9 ?kB ?_ ?c2 ?c3 ?c4 ?c5; (case kA => exact rfl); (case kF => assumption); (case kK => assumption); (case k1 => k_asm); (case k2 => k_asm); (case k3 => k_asm); (case k4 => k_asm); (case k5 => k_asm); (case k6 => k_is); (case k7 => k_is); (case k8 => ktr_room); (case k9 => exact BindsTo.of_eq rfl); (case kB => exact locs rfl); (case c2 => exact rfl); (case c3 => exact rfl); (case c4 => exact rfl); (case c5 => decide); k_whole; intro g' L' h' FG' F' N' B' X' T'; (try dsimp only); (try k_fold))
  k_with "m ne" => (intro p hp; simp only [List.mem_cons, List.not_mem_nil, or_false] at hp; first | (subst hp; refine neN ?_; dsimp only; omega) | (rcases hp with h | h | h <;> (subst h; refine neN ?_; dsimp only; omega)))
  k_with "m for" => ((rename Fr _ _ _ _ => lF'); (with_unfolding_all refine' For_invVF lF' ?k1 ?k2 ?_; (case k1 => exact rfl); (case k2 => exact rfl); k_whole))
  k_with "m units" => (have hcL9 := cLine_is; (try simp only [units_in1, units_deeper, Around.mark_units, units_caller] at *); (try dsimp only [top] at *); omega)
  k_with "compareOp Eq ref ref" => (k_here; (with_reducible show wpAny _ _ (compareOp CmpOp.Eq (Value.ref _) (Value.ref _)) _ _ _); (with_unfolding_all refine' eq_intsK ?k1 ?k2 ?k3 ?k4 ?k5 ?_; (case k1 => is_list); (case k2 => l_intsC); (case k3 => is_list); (case k4 => l_intsC); (case k5 => walk_at "m units"); k_whole); (try simp only [filter_tt]))
  k_with "call builtin:len" => (k_here; (with_reducible show wpAny _ _ (call (Value.builtin "len") [Value.ref _]) _ _ _); k_dflt (refine' kst_len ?k1 ?k2 ?k3 ?k4 ?_; (case k1 => k_asm); (case k2 => (repeat (first | assumption | exact List.Mem.head _ | refine List.Mem.tail _ ?_))); (case k3 => first | exact ItemsIn.length (by assumption) | exact IntsAre.length (by assumption)); (case k4 => omega); k_whole))
  k_with "exec Raise some none" => (k_here; k_dflt (refine' Raise_refusal ?hh ?_; (case hh => exact rfl)))
  k_with "call ref" => (k_here; (with_reducible show wpAny _ _ (PySem.call (Value.ref 51) [Value.str _ _]) _ _ _); k_dflt (refine' refusal_new ?B ?F ?X ?T ?hfr ?hk ?N ?hd ?hu ?_; (case B => k_asm); (case F => k_asm); (case X => k_asm); (case N => k_asm); (case T => k_asm); (case hfr => first | exact rfl | assumption); (case hk => first | exact rfl | assumption); (case hd => ktr_room); (case hu => ktr_units)); intro e' dx' tt' h' tk' tk2' F' N' ne'; (try dsimp only); (try k_fold); (refine' ⟨_, _, _, rfl, ?ra, ?rb, ?_⟩; (case ra => exact (Frag.In.keeps (by k_asm) (Fr.keep (by k_asm))) _ _ (ref_obj _)); (case rb => exact (News_head (by k_asm)))))
  k_with "call ref" => (k_here; (with_reducible show wpAny _ _ (PySem.call (Value.ref 78) [Value.str _ _, _]) _ _ _); k_dflt (refine' vec_new2 ?B ?F ?X ?T ?hfr ?hk ?N ?hd ?hu ?_; (case B => k_asm); (case F => k_asm); (case X => k_asm); (case N => k_asm); (case T => k_asm); (case hfr => first | exact rfl | assumption); (case hk => first | exact rfl | assumption); (case hd => ktr_room); (case hu => ktr_units)); k_whole; intro x' dx' a' b' c' d' e' h' tk' l1 l2 F' N'; (try dsimp only); (try k_fold); (try k_lt l1); (try k_lt2 l2))
  k_with "call ref" => (k_here; (with_reducible show wpAny _ _ (PySem.call (Value.ref 78) [Value.str _ _, _, Value.ref _]) _ _ _); k_dflt (refine' vec_new3 ?B ?F ?X ?T ?hfr ?hk ?N ?hd ?hu ?_; (case B => k_asm); (case F => k_asm); (case X => k_asm); (case N => k_asm); (case T => k_asm); (case hfr => first | exact rfl | assumption); (case hk => first | exact rfl | assumption); (case hd => ktr_room); (case hu => ktr_units)); k_whole; intro x' dx' a' b' c' d' e' h' tk' l1 l2 F' N'; (try dsimp only); (try k_fold); (try k_lt l1); (try k_lt2 l2))
  k_with "call ref" => (k_here; (with_reducible show wpAny _ _ (PySem.call (Value.ref 150) [_, _]) _ _ _); refine stopIt ?_)
  k_with "exec For Name Name cons nil" => (k_here; refine stopIt ?_)
  k_with "call builtin:list.append" => (k_here; (with_reducible show wpAny _ _ (call (Value.builtin _) [Value.ref _, _]) _ _ _); k_dflt (refine' append_K ?k1 ?k2 ?k3 ?_ ?z; (case k1 => k_asm); (case k2 => k_asm); (case k3 => k_upd); (case z => assumption); k_whole); intro h' F' N'; (try k_sweep))
  k_with "compareOp Eq ref ref" => (k_here; refine stopIt ?_)
  trivial
set_option maxHeartbeats 8000000 in
theorem rows_spec {w : World} {mean : ExcName → Option Value} {mg mb : Str → Option Value}
    {dp un : Nat} {gd : Option (List Code)} {env : Env} {outer : List Env} {A₀ : Around} {base h₀ : Heap} {L : Addr} {m : Str → Option Value}
    {s : Shared} {Q E : Value → Shared → Prop} {rest : List (Addr × Obj)}
    {li : Addr} {vs : List Value} {nl : Nat} {ds : List Item}
    (B : Below A₀ base outer h₀) (F : Fr h₀ L s.heap m) (X : (Mine.hd.heap_39 w.params).In h₀)
    (T : Top Mine.hd.view_39 (looseW Mine.hd.view_39 [Str.ofString "MOST_TOTAL"]) mean mg mb h₀)
    (hfr : env.frame = some L) (hk : env.scope.kind = .function) (N : News h₀ L s.heap rest) (hd : dp + 30 < recursionLimit) (hu : un + 600 < cLine)
    (hl : (li, listOf vs.toArray nl) ∈ rest) (hi : ItemsIn rest vs ds) (hsz : ds.length < 1000)
    (hpre : ds.length = 2 → ds[0]? ≠ some none ∧ ds[0]? ≠ some (some (0, 0)))
    (hret : ∀ h' tk', Fr h₀ L h' m → News h₀ L h' rest → Q (.bool true) { s with heap := h', toks := tk' }) :
    wpAny (model PySem.Challenge.rw_pq1397_01.row.prog w) (top dp un gd env outer) (call (.ref 192) [.ref li]) Q E s := by
  have hfill : ((Mine.hd.heap_39 w.params).In h₀ → PySem.Challenge.rw_pq1397_01.row.prog = PySem.Challenge.rw_pq1397_01.row.prog) := by k_fill; intro _; rfl
  clear hfill
  refine wpAny_call ?_
  k_dflt (refine' code_def ?k1 ?k2 ?k3 ?k4 ?k5 ?kA ?kF ?kK ?k6 ?k7 ?k8 ?k9 ?kB ?_ ?c2 ?c3 ?c4 ?c5; (case kA => exact rfl); (case kF => assumption); (case kK => assumption); (case k1 => k_asm); (case k2 => k_asm); (case k3 => k_asm); (case k4 => k_asm); (case k5 => k_asm); (case k6 => k_is); (case k7 => k_is); (case k8 => ktr_room); (case k9 => exact BindsTo.of_eq rfl); (case kB => exact locs rfl); (case c2 => exact rfl); (case c3 => exact rfl); (case c4 => exact rfl); (case c5 => decide); k_whole; intro g1 L1 h1 FG1 F1 N1 B1 X1 T1; (try dsimp only); (try k_fold))
  k_steps
  refine goOn ?_
  k_dflt (refine' set_rows_spec ?B ?F ?X ?T ?hfr ?hk ?N ?hd ?hu ?hvd ?hdv ?hx ?hdx ?hl ?hi ?hsz ?hpre ?_; (case B => k_asm); (case F => k_asm); (case X => k_asm); (case N => exact rot2 (by k_asm)); (case T => k_asm); (case hfr => exact rfl); (case hk => exact rfl); (case hd => ktr_room); (case hu => ktr_units); (case hvd => (refine neN ?_; omega)); (case hdv => (refine ne_cons (by (refine neN ?_); omega) ?_; refine ne_cons (by (refine neN ?_); omega) ?_; refine ne_cons (by (refine neN ?_); omega) ?_; k_all)); (case hx => exact List.Mem.head _); (case hdx => exact List.Mem.tail _ (List.Mem.head _)); (case hl => (repeat (first | assumption | refine List.Mem.tail _ ?_))); (case hi => (refine ItemsIn.mono (by assumption) ?_; intro p hp; (repeat (first | assumption | refine List.Mem.tail _ ?_)))); (case hsz => assumption); (case hpre => assumption))
  intro da o nx ndx nn ys n' a' b' c' d' e' t' h2 tk2 hys do2 F2 N2
  (try dsimp only)
  (try k_fold)
  k_steps
  refine goOn ?_
  walk_at "m for"
  walk1
  rename Fr g1 _ _ _ => F3
  rename News g1 _ _ _ => N3
  rename (_ < _ ∧ _) => l9
  refine loopC (fun d => datOf (whole d)) (x := Str.ofString "item") (y := Str.ofString "fits") rfl (by repeat (first | exact hl | refine List.Mem.tail _ ?_)) (hi.mono fun p hp => by repeat (first | exact hp | refine List.Mem.tail _ ?_)) ?_ F3 N3 ?_ ?_
  · exact allNe_of l9
  · intro i d v ws n u h tk own hdi hws hI hO hne F4 N4
    have hz9 : ws.toArray.size ≤ sizeLine := by
      rw [sizeLine_eq, List.size_toArray, hws.length, List.length_map]
      have := List.length_take_le' i ds
      omega
    match d, hI with
    | none, hI =>
      have hI : v = .none := hI
      subst hI
      (try dsimp only)
      k_steps
      rename Fr g1 _ _ _ => F9
      rename News g1 _ _ _ => N9
      (try simp only [List.push_toArray] at N9)
      exact ⟨_, _, _, _, _, datAll_snoc hws .none, rfl, F9, fun z h1 h2 => by simp [h1, h2], N9⟩
    | some (n1, q1), ⟨a1, t1, u1, c1, e1, hm1⟩ =>
      subst e1
      have N5 := news_cons N4 (.tail _ hm1)
      have ha1 : @Ne Nat a1 _ := hne _ hm1
      clear N4
      (try dsimp only)
      k_steps
      all_goals ((rename Fr g1 _ _ _ => F9); (rename News g1 _ _ _ => N9); (try simp only [List.push_toArray] at N9))
      · exact ⟨_, _, _, _, _, datAll_snoc hws (by rw [whole_yes (by assumption) (by assumption) (by assumption)]; exact .int _ _), rfl, F9, fun z h1 h2 => by simp [h1, h2], fun p hp => N9 p (.tail _ hp)⟩
      · exact ⟨_, _, _, _, _, datAll_snoc hws (by rw [whole_hi (by assumption)]; exact .none), rfl, F9, fun z h1 h2 => by simp [h1, h2], fun p hp => N9 p (.tail _ hp)⟩
      · exact ⟨_, _, _, _, _, datAll_snoc hws (by rw [whole_lo (by assumption)]; exact .none), rfl, F9, fun z h1 h2 => by simp [h1, h2], fun p hp => N9 p (.tail _ hp)⟩
      · exact absurd (by assumption : q1 = 1) (by assumption)
      · exact ⟨_, _, _, _, _, datAll_snoc hws (by rw [whole_none (by assumption)]; exact .none), rfl, F9, fun z h1 h2 => by simp [h1, h2], fun p hp => N9 p (.tail _ hp)⟩
  · intro ws n u1 u2 h tk hws F4 N4
    (try dsimp only)
    k_steps
    refine goOn ?_
    rename News g1 _ _ _ => N9
    refine eq_same N9 (by repeat (first | exact List.Mem.head _ | refine List.Mem.tail _ ?_)) hys (by repeat (first | exact List.Mem.head _ | refine List.Mem.tail _ ?_)) hws (wholes_ok ds) (by walk_at "m units") ?_
    (try dsimp only)
    k_steps
    rename Fr h₀ L _ _ => F7
    rename News h₀ L _ _ => N7
    exact hret _ _ F7 (fun p hp => N7 p (by repeat (first | exact hp | refine List.Mem.tail _ ?_)))


end
section
/-- each group of walks starts as in a fresh process: open_top leaves a switch on, and the lines of the group before are dropped -/
theorem walk_off21 : True := by w_top off; k_with_none; trivial
theorem walk_line16 : True := by
  k_with "m enter" => (refine' code_def ?k1 ?k2 ?k3 ?k4 ?k5 ?kA ?kF ?kK ?k6 ?k7 ?k8 ?k9 ?kB ?_ ?c2 ?c3 ?c4 ?c5; (case kA => exact rfl); (case kF => assumption); (case kK => assumption); (case k1 => k_asm); (case k2 => k_asm); (case k3 => k_asm); (case k4 => k_asm); (case k5 => k_asm); (case k6 => k_is); (case k7 => k_is); (case k8 => ktr_room); (case k9 => exact BindsTo.of_eq rfl); (case kB => exact locs rfl); (case c2 => exact rfl); (case c3 => exact rfl); (case c4 => exact rfl); (case c5 => decide); k_whole; intro g' L' h' FG' F' N' B' X' T'; (try dsimp only); (try k_fold))
  k_with "m ne" => (intro p hp; simp only [List.mem_cons, List.not_mem_nil, or_false] at hp; first | (subst hp; refine neN ?_; dsimp only; omega) | (rcases hp with h | h | h <;> (subst h; refine neN ?_; dsimp only; omega)))
  k_with "m for" => ((rename Fr _ _ _ _ => lF'); (with_unfolding_all refine' For_invVF lF' ?k1 ?k2 ?_; (case k1 => exact rfl); (case k2 => exact rfl); k_whole))
  k_with "m units" => (have hcL9 := cLine_is; (try simp only [units_in1, units_deeper, Around.mark_units, units_caller] at *); (try dsimp only [top] at *); omega)
  k_with "compareOp Eq ref ref" => (k_here; (with_reducible show wpAny _ _ (compareOp CmpOp.Eq (Value.ref _) (Value.ref _)) _ _ _); (with_unfolding_all refine' eq_intsK ?k1 ?k2 ?k3 ?k4 ?k5 ?_; (case k1 => is_list); (case k2 => l_intsC); (case k3 => is_list); (case k4 => l_intsC); (case k5 => walk_at "m units"); k_whole); (try simp only [filter_tt]))
  k_with "call ref" => (k_here; (with_reducible show wpAny _ _ (PySem.call (Value.ref 157) [_, _]) _ _ _); k_dflt (refine' ladle_spec ?B ?F ?X ?N ?T ?hfr ?hk ?hd ?hu ?h0 ?h1 ?hi ?hsz ?hlim ?hne ?hap ?_; (case B => k_asm); (case F => k_asm); (case X => k_asm); (case N => k_asm); (case T => k_asm); (case hfr => first | exact rfl | assumption); (case hk => first | exact rfl | assumption); (case hd => ktr_room); (case hu => ktr_units); (case h0 => omega); (case h1 => omega); (case hi => assumption); (case hsz => assumption); (case hlim => omega); (case hne => assumption); (case hap => assumption); k_whole); intro r' t' u' h' tk' r0' r1' F' N'; (try dsimp only); (try k_fold))
  k_with "m lt1" => (dsimp only; first | exact allLt_to (And.right (And.right (by assumption))) | exact allLt_to (And.right (And.right (And.right (by assumption)))) | exact allLt_to (And.right (And.right (And.right (And.right (by assumption))))) | assumption)
  k_with "m lt" => (intro p hp; simp only [List.mem_cons, List.not_mem_nil, or_false] at hp; first | (subst hp; walk_at "m lt1") | (rcases hp with h | h | h <;> (subst h; walk_at "m lt1")))
  trivial
set_option maxHeartbeats 4000000 in
theorem double2_spec {w : World} {mean : ExcName → Option Value} {mg mb : Str → Option Value}
    {dp un : Nat} {gd : Option (List Code)} {env : Env} {outer : List Env} {A₀ : Around} {base h₀ : Heap} {L : Addr} {m : Str → Option Value}
    {s : Shared} {Q E : Value → Shared → Prop} {rest : List (Addr × Obj)}
    {p0 l : Addr} {vs : List Value} {ns : List Int} {n1 n2 : Nat} {k : Int} {tk : Tok}
    (B : Below A₀ base outer h₀) (F : Fr h₀ L s.heap m) (X : (Mine.hd.heap_39 w.params).In h₀)
    (N : News h₀ L s.heap ((p0, listOf #[.ref l, .int k tk] n1) :: (l, listOf vs.toArray n2) :: rest))
    (T : Top Mine.hd.view_39 (looseW Mine.hd.view_39 [Str.ofString "MOST_TOTAL"]) mean mg mb h₀)
    (hfr : env.frame = some L) (hk : env.scope.kind = .function) (hd : dp + 3 < recursionLimit) (hu : un + 24 < cLine)
    (h0 : 0 ≤ k) (h1 : k < 2 ^ 61) (hi : IntsAre vs ns) (hsz : ns.length < 2 ^ 62) (hne : @Ne Nat p0 l) (hap : AllNe p0 rest)
    (hret : ∀ (v : Value) (d : Item) (k' : Int) t' tl h' tk', k ≤ k' → k' ≤ k + 2 → ItemIn tl v d → ItemOk d → AllNe p0 tl → (∀ p ∈ tl, ∀ q ∈ rest, q.1 < p.1) → handedIn v = true → Fr h₀ L h' m → News h₀ L h' ((p0, listOf #[.ref l, .int k' t'] n1) :: (l, listOf vs.toArray n2) :: (tl ++ rest)) → Q v { s with heap := h', toks := tk' }) :
    wpAny (model PySem.Challenge.rw_pq1397_01.row.prog w) (top dp un gd env outer) (call (.ref 164) [.ref p0]) Q E s := by
  have hfill : ((Mine.hd.heap_39 w.params).In h₀ → PySem.Challenge.rw_pq1397_01.row.prog = PySem.Challenge.rw_pq1397_01.row.prog) := by k_fill; intro _; rfl
  clear hfill
  refine wpAny_call ?_
  k_dflt (walk_at "m enter")
  k_steps
  all_goals (try (with_reducible show wpAny _ _ _ _ _ _; (rename Int => r9); (have h3 : r9 = 11 ∨ r9 = 12 ∨ r9 = 13 := by omega); (rcases h3 with h3 | h3 | h3 <;> subst h3 <;> k_steps)))
  all_goals (rename News _ _ _ _ => kN9)
  all_goals first
    | exact hret _ (some (_, _)) _ _ [(_, _)] _ _ (by omega) (by omega) ⟨_, _, _, _, rfl, .head _⟩ ⟨by decide, by decide⟩ (by walk_at "m ne") (by walk_at "m lt") rfl (by k_asm) (news_one kN9)
    | exact hret _ none _ _ [_, _, _] _ _ (by omega) (by omega) rfl trivial (by walk_at "m ne") (by walk_at "m lt") rfl (by k_asm) (news_three kN9)
    | exact hret _ (some (_, _)) _ _ [_, _, _] _ _ (by omega) (by omega) ⟨_, _, _, _, rfl, .tail _ (.head _)⟩ ⟨by decide, by decide⟩ (by walk_at "m ne") (by walk_at "m lt") rfl (by k_asm) (news_three kN9)
    | exact hret _ (some (_, _)) _ _ [_, _, _] _ _ (by omega) (by omega) ⟨_, _, _, _, rfl, .tail _ (.tail _ (.head _))⟩ ⟨by decide, by decide⟩ (by walk_at "m ne") (by walk_at "m lt") rfl (by k_asm) (news_three kN9)
    | fail "none"


end
section
/-- each group of walks starts as in a fresh process: open_top leaves a switch on, and the lines of the group before are dropped -/
theorem walk_off22 : True := by w_top off; k_with_none; trivial
theorem walk_line17 : True := by
  k_with "m enter" => (refine' code_def ?k1 ?k2 ?k3 ?k4 ?k5 ?kA ?kF ?kK ?k6 ?k7 ?k8 ?k9 ?kB ?_ ?c2 ?c3 ?c4 ?c5; (case kA => exact rfl); (case kF => assumption); (case kK => assumption); (case k1 => k_asm); (case k2 => k_asm); (case k3 => k_asm); (case k4 => k_asm); (case k5 => k_asm); (case k6 => k_is); (case k7 => k_is); (case k8 => ktr_room); (case k9 => exact BindsTo.of_eq rfl); (case kB => exact locs rfl); (case c2 => exact rfl); (case c3 => exact rfl); (case c4 => exact rfl); (case c5 => decide); k_whole; intro g' L' h' FG' F' N' B' X' T'; (try dsimp only); (try k_fold))
  k_with "m ne" => (intro p hp; simp only [List.mem_cons, List.not_mem_nil, or_false] at hp; first | (subst hp; refine neN ?_; dsimp only; omega) | (rcases hp with h | h | h <;> (subst h; refine neN ?_; dsimp only; omega)))
  k_with "m for" => ((rename Fr _ _ _ _ => lF'); (with_unfolding_all refine' For_invVF lF' ?k1 ?k2 ?_; (case k1 => exact rfl); (case k2 => exact rfl); k_whole))
  k_with "m units" => (have hcL9 := cLine_is; (try simp only [units_in1, units_deeper, Around.mark_units, units_caller] at *); (try dsimp only [top] at *); omega)
  k_with "compareOp Eq ref ref" => (k_here; (with_reducible show wpAny _ _ (compareOp CmpOp.Eq (Value.ref _) (Value.ref _)) _ _ _); (with_unfolding_all refine' eq_intsK ?k1 ?k2 ?k3 ?k4 ?k5 ?_; (case k1 => is_list); (case k2 => l_intsC); (case k3 => is_list); (case k4 => l_intsC); (case k5 => walk_at "m units"); k_whole); (try simp only [filter_tt]))
  k_with "exec Assign cons ListComp" => (k_here; refine stopIt ?_)
  k_with "call ref" => (k_here; (with_reducible show wpAny _ _ (PySem.call (Value.ref 157) [_, _]) _ _ _); refine stopIt ?_)
  k_with "call ref" => (k_here; (with_reducible show wpAny _ _ (PySem.call (Value.ref 185) [_, _]) _ _ _); refine stopIt ?_)
  k_with "call ref" => (k_here; (with_reducible show wpAny _ _ (PySem.call (Value.ref 192) [_]) _ _ _); refine stopIt ?_)
  k_with "compareOp In" => (k_here; refine stopIt ?_)
  k_with "CompSrc" => (k_here; refine stopIt ?_)
  k_with "call ref" => (k_here; (with_reducible show wpAny _ _ (PySem.call (Value.ref 164) [_]) _ _ _); refine stopIt ?_)
  k_with "call builtin:len" => (k_here; (with_reducible show wpAny _ _ (call (Value.builtin "len") [Value.ref _]) _ _ _); k_dflt (refine' kst_len ?k1 ?k2 ?k3 ?k4 ?_; (case k1 => k_asm); (case k2 => (repeat (first | assumption | exact List.Mem.head _ | refine List.Mem.tail _ ?_))); (case k3 => assumption); (case k4 => omega); k_whole))
  k_with "m rows" => (k_dflt (refine' rows_spec ?B ?F ?X ?T ?hfr ?hk ?N ?hd ?hu ?hl ?hi ?hsz ?hpre ?_; (case B => k_asm); (case F => k_asm); (case X => k_asm); (case N => k_asm); (case T => k_asm); (case hfr => exact rfl); (case hk => exact rfl); (case hd => ktr_room); (case hu => ktr_units)))
  trivial
theorem take40 (ns : List Int) : (List.take 40 ns).length < 2 ^ 62 := by rw [List.length_take]; exact Nat.lt_of_le_of_lt (Nat.min_le_left _ _) (by decide)
theorem allNe_one {a b : Addr} {o : Obj} (h : @Ne Nat a b) : AllNe b [(a, o)] := fun p hp => by
  obtain rfl := List.mem_singleton.mp hp; exact h
theorem range_small {n : Int} (h0 : 0 ≤ n) (h5 : n < 5) : Builtin.Range.small 0 n 1 = true ∧ Builtin.Range.rangeSize 0 n 1 = ((n.toNat : Nat) : Int) := by
  have : n = 0 ∨ n = 1 ∨ n = 2 ∨ n = 3 ∨ n = 4 := by omega
  rcases this with rfl | rfl | rfl | rfl | rfl <;> exact ⟨by decide, by decide⟩
/-- the ledger within the comprehension: pot's cell, pot, the script, the items' tuples -/
def PotInv (p0 l : Addr) (ws : List Value) (n1 n2 : Nat) (cell : Addr × Obj) (i : Nat) (ys : List Value) (nw : List (Addr × Obj)) : Prop :=
  ∃ (k : Int) (t : Tok) (tl : List (Addr × Obj)) (ds : List Item), nw = cell :: (p0, listOf #[.ref l, .int k t] n1) :: (l, listOf ws.toArray n2) :: tl ∧ ItemsIn tl ys ds ∧ ds.length = i ∧ 0 ≤ k ∧ k ≤ 2 + 2 * i ∧ AllNe p0 tl
theorem potInv0 {p0 l : Addr} {ws : List Value} {n1 n2 : Nat} {cell : Addr × Obj} {k : Int} {t : Tok} (h0 : 0 ≤ k) (h1 : k ≤ 2) : PotInv p0 l ws n1 n2 cell 0 [] [cell, (p0, listOf #[.ref l, .int k t] n1), (l, listOf ws.toArray n2)] :=
  ⟨k, t, [], [], rfl, .nil, rfl, h0, by omega, fun _ h => nomatch h⟩
theorem rotP {h₀ h : Heap} {L : Addr} {a b c : Addr × Obj} {r : List (Addr × Obj)} (N : News h₀ L h (a :: b :: c :: r)) : News h₀ L h (c :: a :: b :: r) := by
  intro p hp; apply N; simp only [List.mem_cons] at hp ⊢; grind
theorem rotD {h₀ h : Heap} {L : Addr} {a b c d e f : Addr × Obj} {r : List (Addr × Obj)} (N : News h₀ L h (a :: b :: c :: d :: e :: f :: r)) : News h₀ L h (e :: f :: a :: b :: c :: d :: r) := by
  intro p hp; apply N; simp only [List.mem_cons] at hp ⊢; grind
theorem itemsIn_snoc {l : List (Addr × Obj)} {vs : List Value} {ds : List Item} {v : Value} {d : Item} (h : ItemsIn l vs ds) (h' : ItemIn l v d) (o : ItemOk d) : ItemsIn l (vs ++ [v]) (ds ++ [d]) := by
  induction h with
  | nil => exact .cons h' o .nil
  | cons a b _ ih => exact .cons a b ih
/-- after one double: the comprehension's turn is at its end -/
theorem pot_turn {h₀ h : Heap} {L : Addr} {m : Str → Option Value} {s₁ : Shared} {I C D p0 l : Addr} {oI oC oD : Obj} {S : List (Addr × Obj) → Prop} {ws : List Value} {n1 n2 : Nat} {cell : Addr × Obj} {i : Nat} {ys : List Value} {v : Value} {d : Item} {k k' : Int} {t t' : Tok} {tl tl' : List (Addr × Obj)} {ds : List Item} {tk : Nat}
    (F : Fr h₀ L h m) (N : News h₀ L h ((p0, listOf #[.ref l, .int k' t'] n1) :: (l, listOf ws.toArray n2) :: (tl' ++ ((I, oI) :: (C, oC) :: (D, oD) :: cell :: tl))))
    (off : LCg.Off3 I C D (cell :: (p0, listOf #[.ref l, .int k t] n1) :: (l, listOf ws.toArray n2) :: tl)) (hS : ∀ nw, S nw) (hys : ItemsIn tl ys ds) (hlen : ds.length = i) (k0 : 0 ≤ k) (k1 : k ≤ 2 + 2 * i) (hap : AllNe p0 tl)
    (q0 : k ≤ k') (q1 : k' ≤ k + 2) (hi : ItemIn tl' v d) (ho : ItemOk d) (hap' : AllNe p0 tl') (hlt : ∀ p ∈ tl', ∀ q ∈ (I, oI) :: (C, oC) :: (D, oD) :: cell :: tl, q.1 < p.1) :
    LCg.CompEnd h₀ L m s₁ I oI C oC D oD S (fun y nw => PotInv p0 l ws n1 n2 cell (i + 1) (ys ++ [y]) nw) v { s₁ with heap := h, toks := tk } := by
  refine LCg.CompEnd.intro F N (cell :: (p0, listOf #[.ref l, .int k' t'] n1) :: (l, listOf ws.toArray n2) :: (tl' ++ tl)) (fun p hp => ?_) (LCg.Off3.of fun p hp => ?_) (hS _) ⟨k', t', tl' ++ tl, ds ++ [d], rfl, ?_, by simp [hlen], by omega, by omega, fun p hp => ?_⟩
  · simp only [List.mem_cons, List.mem_append] at hp ⊢; grind
  · have o3 := off.mem
    rcases List.mem_cons.mp hp with rfl | hp
    · exact o3 _ (.head _)
    rcases List.mem_cons.mp hp with rfl | hp
    · exact o3 (p0, listOf #[.ref l, .int k t] n1) (.tail _ (.head _))
    rcases List.mem_cons.mp hp with rfl | hp
    · exact o3 _ (.tail _ (.tail _ (.head _)))
    rcases List.mem_append.mp hp with hp | hp
    · exact ⟨Nat.ne_of_gt (hlt p hp _ (.head _)), Nat.ne_of_gt (hlt p hp _ (.tail _ (.head _))), Nat.ne_of_gt (hlt p hp _ (.tail _ (.tail _ (.head _))))⟩
    · exact o3 p (.tail _ (.tail _ (.tail _ hp)))
  · exact itemsIn_snoc (hys.mono fun p hp => List.mem_append_right _ hp) (hi.mono fun p hp => List.mem_append_left _ hp) ho
  · rcases List.mem_append.mp hp with hp | hp
    · exact hap' p hp
    · exact hap p hp
theorem potAp {I C D p0 : Addr} {oI oC oD o : Obj} {cell : Addr × Obj} {r tl : List (Addr × Obj)} (off : LCg.Off3 I C D (cell :: (p0, o) :: r)) (hc : @Ne Nat cell.1 p0) (hap : AllNe p0 tl) : AllNe p0 ((I, oI) :: (C, oC) :: (D, oD) :: cell :: tl) := by
  have o3 := off.mem (p0, o) (.tail _ (.head _))
  intro p hp
  rcases List.mem_cons.mp hp with rfl | hp
  · exact Ne.symm o3.1
  rcases List.mem_cons.mp hp with rfl | hp
  · exact Ne.symm o3.2.1
  rcases List.mem_cons.mp hp with rfl | hp
  · exact Ne.symm o3.2.2
  rcases List.mem_cons.mp hp with rfl | hp
  · exact hc
  · exact hap p hp

theorem walk_line18 : True := by
  k_with "m dims" => (k_dflt (refine' dims_spec ?hout ?B ?F ?X ?T ?hfr ?hk ?N ?XB ?TB ?hd ?hu ?hl ?hi ?hsz ?hm0 ?hm1 ?_; (case B => k_asm); (case hout => exact rfl); (case F => k_asm); (case X => k_asm); (case N => k_asm); (case T => k_asm); (case XB => k_asm); (case TB => k_asm); (case hfr => exact rfl); (case hk => exact rfl); (case hd => ktr_room); (case hu => ktr_units)))
  k_with "m ladle" => (k_dflt (refine' ladle_spec ?B ?F ?X ?N ?T ?hfr ?hk ?hd ?hu ?h0 ?h1 ?hi ?hsz ?hlim ?hne ?hap ?_; (case B => k_asm); (case F => k_asm); (case X => k_asm); (case N => k_asm); (case T => k_asm); (case hfr => exact rfl); (case hk => exact rfl); (case hd => ktr_room); (case hu => ktr_units); (case h0 => omega); (case h1 => omega); (case hi => assumption); (case hsz => exact take40 _); (case hlim => decide); (case hne => exact Nat.ne_of_gt (And.left (by assumption))); (case hap => exact allNe_one (Nat.ne_of_lt (And.right (by assumption))))))
  trivial
set_option maxHeartbeats 8000000 in
theorem law_test : PySem.Challenge.rw_pq1397_01.Holds := Mine.hd (by
  k_go0
  (all_goals try k_fold)
  k_steps
  refine goOn ?_
  walk_at "m ladle"
  intro many tm tk1 h1 tk2 m0 m1 F1 N1
  (try dsimp only)
  (try k_fold)
  k_steps
  refine goOn ?_
  k_dflt (refine LCg.Assign_ListComp_U (F₀ := by k_asm) (by rfl) (by with_unfolding_all rfl) (by rfl) (by decide) (by rfl) (by decide) (by rfl) (by rfl) (by rfl) ?_)
  k_steps
  refine goOn ?_
  walk_at "m ladle"
  intro lap tl1 tk3 h2 tk4 p0 p1 F2 N2
  (try dsimp only)
  (try k_fold)
  k_steps
  refine goOn ?_
  rename IsRange _ _ _ _ _ _ _ _ => hR
  rename News _ _ _ _ => N3
  rename Fr _ _ _ _ => F3
  obtain ⟨hsm, hrs⟩ := range_small p0 p1
  have hcell : @Ne Nat _ _ := Nat.ne_of_lt (And.right (by assumption : _ < _ ∧ _ < _))
  have hpl : @Ne Nat _ _ := Nat.ne_of_gt (And.left (by assumption : _ < _ ∧ _ < _))
  replace N3 := rotP N3
  refine LCg.CompSrc.range rfl F3 N3 hR hsm hrs (by rw [sizeLine_eq]; omega) fun g9 => ?_
  refine comprest_ind (PotInv _ _ _ _ _ _) ?_ ?_ _ 0 [] _ (Nat.zero_add _) (potInv0 (by decide) (by decide))
  · rintro i ys nw v9 I9 oI9 C9 oC9 D9 m9 h9 tk9 E9 hlt ⟨k9, t9, tl9, ds9, rfl, hys, hlen, k0, k1, hap⟩ hP hC hm9 F9 N9 off9 ne9
    (try dsimp only)
    k_steps
    refine goOn ?_
    k_dflt (refine' double2_spec ?B ?F ?X ?N ?T ?hfr ?hk ?hd ?hu ?h0 ?h1 ?hi ?hsz ?hne ?hap ?_; (case B => k_asm); (case F => exact F9); (case X => k_asm); (case N => exact rotD N9); (case T => k_asm); (case hfr => exact rfl); (case hk => exact rfl); (case hd => ktr_room); (case hu => ktr_units); (case h0 => exact k0); (case h1 => omega); (case hi => assumption); (case hsz => exact take40 _); (case hne => exact hpl); (case hap => exact potAp off9 hcell hap))
    intro v8 d8 k8 t8 tl8 h8 tk8 q0 q1 hiv hov hap8 hlt8 hh8 F8 N8
    exact pot_turn F8 N8 off9 (fun _ => trivial) hys hlen k0 k1 hap q0 q1 hiv hov hap8 hlt8
  · rintro ys nw ⟨k9, t9, tl9, ds9, rfl, hys, hlen, k0, k1, hap⟩
    have hlen5 : ds9.length < 5 := by omega
    (try dsimp only)
    walk_at "FinA"
    k_steps
    refine goOn ?_
    walk_at "m dims"
    case hl => exact List.Mem.head _
    case hi => exact hys.mono fun p hp => by repeat (first | exact hp | refine List.Mem.tail _ ?_)
    case hsz => omega
    case hm0 => exact m0
    case hm1 => omega
    intro h10 tk10 F10 N10
    (try dsimp only)
    (try k_fold)
    k_steps
    rename News _ _ _ _ => N11
    rename Fr _ _ _ _ => F11
    refine add_lists (vs := ys) (ws := [_]) F11 N11 (News.isList N11 (List.Mem.tail _ (List.Mem.tail _ (List.Mem.head _)))) (News.isList N11 (List.Mem.head _)) (fun h11 F12 N12 => ?_) (by rw [sizeLine_eq, hys.length]; show _ + 1 ≤ _; omega)
    clear F11
    (try dsimp only)
    (try k_fold)
    k_steps
    refine goOn ?_
    walk_at "m dims"
    case hl => exact List.Mem.head _
    case hi => exact itemsIn_snoc (d := some (0, 1)) (hys.mono fun p hp => by repeat (first | exact hp | refine List.Mem.tail _ ?_)) ⟨_, _, _, _, rfl, List.Mem.tail _ (List.Mem.tail _ (List.Mem.head _))⟩ ⟨by decide, by decide⟩
    case hsz => rw [List.length_append]; show _ + 1 < _; omega
    case hm0 => exact Int.le_refl 0
    case hm1 => decide
    intro h12 tk12 F13 N13
    (try dsimp only)
    (try k_fold)
    k_steps
    refine goOn ?_
    walk_at "m dims"
    case hl => exact List.Mem.head _
    case hi => exact .cons (d := some (many, 1)) ⟨_, _, _, _, rfl, List.Mem.tail _ (List.Mem.head _)⟩ ⟨by decide, by decide⟩ .nil
    case hsz => exact Nat.le_of_ble_eq_true rfl
    case hm0 => exact m0
    case hm1 => omega
    intro h13 tk13 F14 N14
    (try dsimp only)
    (try k_fold)
    k_steps
    refine goOn ?_
    walk_at "m dims"
    case hl => exact List.Mem.head _
    case hi => exact .cons (d := some (2, 1)) ⟨_, _, _, _, rfl, List.Mem.tail _ (List.Mem.tail _ (List.Mem.head _))⟩ ⟨by decide, by decide⟩ (.cons (d := some (many, 1)) ⟨_, _, _, _, rfl, List.Mem.tail _ (List.Mem.head _)⟩ ⟨by decide, by decide⟩ .nil)
    case hsz => exact Nat.le_of_ble_eq_true rfl
    case hm0 => omega
    case hm1 => omega
    intro h14 tk14 F15 N15
    (try dsimp only)
    (try k_fold)
    have hyl := hys.length
    by_cases h2 : ds9.length = 2
    · clear hyl
      obtain ⟨d0, d1, rfl⟩ : ∃ d0 d1, ds9 = [d0, d1] := by
        match ds9, h2 with
        | [a, b], _ => exact ⟨a, b, rfl⟩
      cases hys with
      | cons hi0 ho0 hi1 =>
        cases hi1 with
        | cons hi1 ho1 hi2 =>
          cases hi2
          match d0, hi0 with
          | none, hi0 =>
            have hi0 : _ = Value.none := hi0
            subst hi0
            k_steps
            refine goOn ?_
            rename News _ _ _ _ => N17
            refine in_lst N17 (ds := [Dat.none, Dat.tuple [.int 0, .int 0]]) (d := Dat.none) (.list (List.Mem.head _) (.cons .none (.cons (.tuple (List.Mem.tail _ (List.Mem.head _)) (.cons (.int _ _) (.cons (.int _ _) .nil))) .nil))) .none (fun e he => by simp only [List.mem_cons, List.not_mem_nil, or_false] at he; rcases he with rfl | rfl <;> rfl) rfl (by walk_at "m units") fun b hb => ?_
            obtain rfl : b = true := hb.mpr (List.Mem.head _)
            (try dsimp only)
            k_steps
            refine goOn ?_
            walk_at "m rows"
            case hl => (repeat (first | exact List.Mem.head _ | refine List.Mem.tail _ ?_))
            case hi => exact .cons (hi1.mono fun p hp => by repeat (first | exact hp | refine List.Mem.tail _ ?_)) ho1 .nil
            case hsz => exact Nat.le_of_ble_eq_true rfl
            case hpre => exact fun e => by simp at e
            intro h18 tk18 F19 N19
            (try dsimp only)
            (try k_fold)
            k_steps
          | some (n0, q0), ⟨a0, t0, u0, c0, e0, hm0⟩ =>
            subst e0
            have N16 := news_cons N15 (p := (a0, tupOf #[.int n0 t0, .int q0 u0] c0)) (by repeat (first | exact hm0 | refine List.Mem.tail _ ?_))
            clear N15
            k_steps
            refine goOn ?_
            rename News _ _ _ _ => N17
            refine in_lst N17 (ds := [Dat.none, Dat.tuple [.int 0, .int 0]]) (d := Dat.tuple [.int n0, .int q0]) (.list (List.Mem.head _) (.cons .none (.cons (.tuple (List.Mem.tail _ (List.Mem.head _)) (.cons (.int _ _) (.cons (.int _ _) .nil))) .nil))) (.tuple (by repeat (first | exact List.Mem.head _ | refine List.Mem.tail _ ?_)) (.cons (.int _ _) (.cons (.int _ _) .nil))) (fun e he => by simp only [List.mem_cons, List.not_mem_nil, or_false] at he; rcases he with rfl | rfl <;> rfl) rfl (by walk_at "m units") fun b hb => ?_
            by_cases hz : n0 = 0 ∧ q0 = 0
            · obtain rfl : b = true := hb.mpr (by rw [hz.1, hz.2]; exact .tail _ (.head _))
              (try dsimp only)
              k_steps
              refine goOn ?_
              walk_at "m rows"
              case hl => (repeat (first | exact List.Mem.head _ | refine List.Mem.tail _ ?_))
              case hi => exact .cons (hi1.mono fun p hp => by repeat (first | exact hp | refine List.Mem.tail _ ?_)) ho1 .nil
              case hsz => exact Nat.le_of_ble_eq_true rfl
              case hpre => exact fun e => by simp at e
              intro h18 tk18 F19 N19
              (try dsimp only)
              (try k_fold)
              k_steps
            · obtain rfl := not_here hz hb
              (try dsimp only)
              k_steps
              refine goOn ?_
              walk_at "m rows"
              case hl => (repeat (first | exact List.Mem.head _ | refine List.Mem.tail _ ?_))
              case hi => exact .cons (d := some (n0, q0)) ⟨a0, t0, u0, c0, rfl, by repeat (first | exact List.Mem.head _ | refine List.Mem.tail _ ?_)⟩ ho0 (.cons (hi1.mono fun p hp => by repeat (first | exact hp | refine List.Mem.tail _ ?_)) ho1 .nil)
              case hsz => exact Nat.le_of_ble_eq_true rfl
              case hpre => exact fun _ => ⟨by simp, fun e => hz (by simpa using e)⟩
              intro h18 tk18 F19 N19
              (try dsimp only)
              (try k_fold)
              k_steps
    · k_steps
      · exfalso
        rename ((ds9.length : Int) = 2) => e2
        omega
      refine goOn ?_
      walk_at "m rows"
      case hl => (repeat (first | exact List.Mem.head _ | refine List.Mem.tail _ ?_))
      case hi => exact hys.mono fun p hp => by repeat (first | exact hp | refine List.Mem.tail _ ?_)
      case hsz => omega
      case hpre => exact fun e => absurd e h2
      intro h16 tk16 F17 N17
      (try dsimp only)
      (try k_fold)
      k_steps)


end
end Mine
theorem PySem.Challenge.cw_pq1397_01_holds : PySem.Challenge.rw_pq1397_01.Holds :=
  Mine.law_test
