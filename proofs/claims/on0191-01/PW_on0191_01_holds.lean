import PyProof.Rows.All
import Wide.All
import OpenK.AllK
import Wide.FinOn
import Lean
import PySem.Challenge.RW_on0191_01
open PySem PySem.W PyProof.Rows
set_option Elab.async false
namespace Mine
set_option pp.deepTerms false
set_option pp.deepTerms.threshold 4
set_option maxRecDepth 100000
set_option maxHeartbeats 8000000
-- the heap alone (T0.heap_1): k_head writes it out ahead of o_head, which is answered by the hypothesis; the view (V0) is said by hand
local macro_rules | `(tactic| o_head $_) => `(tactic| (with_reducible assumption))
theorem T0 : PySem.Challenge.rw_on0191_01.row.Holds → PySem.Challenge.rw_on0191_01.row.Holds := by
  intro h
  k_head
def V0 : Program := { PySem.Challenge.rw_on0191_01.row.toRowW.prog with main := { PySem.Challenge.rw_on0191_01.row.toRowW.prog.main with body := [0, 2, 3, 4, 6, 7, 9, 10, 11, 12, 14, 15, 16, 17, 18, 19, 20, 21, 24, 26, 28, 29, 30, 32, 33, 34, 35, 36, 37, 38, 39].filterMap fun i => PySem.Challenge.rw_on0191_01.row.toRowW.prog.main.body[i]? } }
theorem room0 {u a c : Nat} (h : u + a < c) : u < c := Nat.lt_of_le_of_lt (Nat.le_add_right u a) h
theorem room1 {u a k c : Nat} (h : u + a < c) (e : k ≤ a) : u + k < c := Nat.lt_of_le_of_lt (Nat.add_le_add_left e u) h
theorem room2 {u a b k c : Nat} (h : u + a < c) (e : b + k ≤ a) : u + b + k < c := by rw [Nat.add_assoc]; exact room1 h e
theorem room3 {u a b d k c : Nat} (h : u + a < c) (e : b + (d + k) ≤ a) : u + b + d + k < c := by rw [Nat.add_assoc]; exact room2 h e
local macro_rules | `(tactic| walk_at $s:str) => `(tactic| k_extra $s)
theorem store_let {prog : Program} {w : World} {A : Around} {E : Value → Shared → Prop} {s : Shared} {h₀ : Heap} {L a : Addr} {m : Str → Option Value} {cn : Str} {cs : Scope} {ccd : Value} {cl : List (Str × Addr)} {x : Str} {v : Value} {Q : Unit → Shared → Prop} {news : List (Addr × Obj)} (F : Fr h₀ L s.heap m) (N : News h₀ L s.heap news)
    (hk : cs.kind = .function) (hx : (envX cn cs L a ccd cl).kindOf x = some .local)
    (h : ∀ h', let m' := fun y => if y = x then some v else m y; Fr h₀ L h' m' → News h₀ L h' news → Q () { s with heap := h', toks := s.toks + 1 }) : wpAny (model prog w) A (storeName (envX cn cs L a ccd cl) x v) Q E s :=
  storeX_L F N (fun h' F' N' => h h' F' N') hk hx
theorem reg_Base_1 : True := by
  k_with "storeName" => ((k_here; k_dflt (refine' store_let ?zqF ?zqN ?zqa ?zqb ?_; (case zqa => rfl); (case zqb => rfl); (case zqF => k_asm); (case zqN => k_asm); k_whole); intro h' mm F' N'; (try k_sweep)))
  trivial
theorem fold_q {M : Model} {A : Around} {α : Type} {t : Sem α} {Q : α → Shared → Prop} {E : Value → Shared → Prop} {s : Shared} (h : let q := Q; wpAny M A t q E s) : wpAny M A t Q E s := h
theorem fold_e {M : Model} {A : Around} {α : Type} {t : Sem α} {Q : α → Shared → Prop} {E : Value → Shared → Prop} {s : Shared} (h : let e := E; wpAny M A t Q e s) : wpAny M A t Q E s := h
theorem goal_let {G : Prop} (h : let g := G; g) : G := h
theorem reg_Base_2 : True := by
  k_with "gf" => ((with_reducible show wpAny _ _ _ _ _ _); refine goal_let ?_; intro gxm9)
  trivial
theorem reg_Base_3 : True := by
  k_with "gu" => (k_unfold; clear gxm9)
  trivial
theorem reg_Base_4 : True := by
  k_with "mm" => ((repeat' (first | with_reducible assumption | exact List.mem_cons_self | refine List.mem_cons_of_mem _ ?_)))
  trivial
theorem neA {a b : Addr} (h : @Ne Addr a b) : @Ne Nat a b := h
theorem neB {a b : Addr} (h : @Ne Addr b a) : @Ne Nat a b := Ne.symm h
theorem neC {a b : Nat} (h : @Ne Nat a b) : @Ne Nat a b := h
theorem neD {a b : Nat} (h : @Ne Nat b a) : @Ne Nat a b := Ne.symm h
theorem neE {a b : Nat} (h : a < b) : @Ne Nat a b := Nat.ne_of_lt h
theorem neF {a b : Nat} (h : b < a) : @Ne Nat a b := Nat.ne_of_gt h
theorem leT {a b c : Nat} (h : a ≤ b) (e : b ≤ c) : a ≤ c := Nat.le_trans h e
theorem ltA {a b : Nat} (h : 0 < b) : a < b + a := Nat.lt_add_of_pos_left h
theorem neG {a b : Addr} (h : @LT.lt Addr instLTNat b a) : @Ne Nat a b := Nat.ne_of_gt h
theorem neH {a b : Addr} (h : @LT.lt Addr instLTNat a b) : @Ne Nat a b := Nat.ne_of_lt h
theorem reg_Base_5 : True := by
  k_with "om3" => (((with_reducible rename _ ∧ _ => hcm9); first | (with_reducible first | exact neG hcm9.1 | exact neH hcm9.1 | exact neC hcm9.1 | exact neD hcm9.1 | exact neG hcm9.2.1 | exact neH hcm9.2.1 | exact neC hcm9.2.1 | exact neD hcm9.2.1 | exact neG hcm9.2.2.1 | exact neH hcm9.2.2.1 | exact neC hcm9.2.2.1 | exact neD hcm9.2.2.1 | exact neG hcm9.2.2.2.1 | exact neH hcm9.2.2.2.1 | exact neC hcm9.2.2.2.1 | exact neD hcm9.2.2.2.1 | exact neG hcm9.2.2.2.2.1 | exact neH hcm9.2.2.2.2.1 | exact neC hcm9.2.2.2.2.1 | exact neD hcm9.2.2.2.2.1 | exact neG hcm9.2.2.2.2.2.1 | exact neH hcm9.2.2.2.2.2.1 | exact neC hcm9.2.2.2.2.2.1 | exact neD hcm9.2.2.2.2.2.1 | exact neG hcm9.2.2.2.2.2.2.1 | exact neH hcm9.2.2.2.2.2.2.1 | exact neC hcm9.2.2.2.2.2.2.1 | exact neD hcm9.2.2.2.2.2.2.1 | exact neG hcm9.2.2.2.2.2.2.2.1 | exact neH hcm9.2.2.2.2.2.2.2.1 | exact neC hcm9.2.2.2.2.2.2.2.1 | exact neD hcm9.2.2.2.2.2.2.2.1 | exact neG hcm9.2.2.2.2.2.2.2.2.1 | exact neH hcm9.2.2.2.2.2.2.2.2.1 | exact neC hcm9.2.2.2.2.2.2.2.2.1 | exact neD hcm9.2.2.2.2.2.2.2.2.1 | exact neG hcm9.2.2.2.2.2.2.2.2.2.1 | exact neH hcm9.2.2.2.2.2.2.2.2.2.1 | exact neC hcm9.2.2.2.2.2.2.2.2.2.1 | exact neD hcm9.2.2.2.2.2.2.2.2.2.1) | (clear hcm9; k_extra "om3")))
  trivial
theorem reg_Base_6 : True := by
  k_with "om" => (first | with_reducible assumption | ((with_reducible show @Ne Nat _ _); first | exact neA (by with_reducible assumption) | exact neB (by with_reducible assumption) | exact neC (by with_reducible assumption) | exact neD (by with_reducible assumption) | exact neE (by with_reducible assumption) | exact neF (by with_reducible assumption) | (refine Nat.ne_of_gt ?_; (simp only [*]; done)) | (refine Nat.ne_of_lt ?_; (simp only [*]; done)) | k_extra "om3" | fail "om") | ((with_reducible show @LE.le Nat _ _ _); first | exact Nat.zero_le _ | exact leT (by with_reducible assumption) (Nat.le_of_ble_eq_true rfl) | fail "om") | ((with_reducible show @LT.lt Nat _ _ _); first | exact ltA (Nat.succ_pos _) | exact room1 (by with_reducible assumption) (Nat.le_of_ble_eq_true rfl) | fail "om"))
  trivial
theorem reg_Base_7 : True := by
  k_with "my ord" => (first | k_extra "om" | (simp only [*]; done) | (refine Nat.ne_of_lt ?_; (simp only [*]; done)) | (refine Nat.ne_of_gt ?_; (simp only [*]; done)) | omega)
  trivial
local macro_rules | `(tactic| omega) => `(tactic| walk_at "om")
local macro_rules | `(tactic| units_room) => `(tactic| ktr_units)
theorem reg_Base_8 : True := by
  k_with "my room" => (first | with_reducible assumption | exact room1 (by with_reducible assumption) (Nat.le_of_ble_eq_true rfl) | exact room2 (by with_reducible assumption) (Nat.le_of_ble_eq_true rfl) | exact room3 (by with_reducible assumption) (Nat.le_of_ble_eq_true rfl) | exact room0 (by with_reducible assumption))
  trivial
local macro_rules | `(tactic| ktr_units) => `(tactic| ((try simp only [units_in1, units_deeper, Around.mark_units, units_caller]); (try dsimp only [ktrTop]); first | decide | k_extra "my room" | (have hcL9 := cLine_is; omega)))
local macro_rules | `(tactic| ktr_room) => `(tactic| ((try simp only [depth_under_make, depth_under_kw, depth_in1, depth_deeper, depth_caller]); (try dsimp only [ktrTop]); first | decide | k_extra "my room" | omega | (simp only [recursionLimit] at *; omega)))
local macro_rules | `(tactic| k_ne) => `(tactic| ((refine neN ?_); (try dsimp only); k_extra "my ord"))
local macro_rules | `(tactic| k_room) => `(tactic| ktr_room)
local macro_rules | `(tactic| ktr_enter) => `(tactic| (refine' code_defG ?k1 ?k2 ?k3 ?k4 ?k5 ?kA ?kF ?kK ?k6 ?k7 ?k8 ?k9 ?kB ?_ ?c2 ?c3 ?c4 ?c5; (case kA => exact rfl); (case kF => exact rfl); (case kK => assumption); (case k1 => k_asm); (case k2 => k_asm); (case k3 => k_asm); (case k4 => k_asm); (case k5 => k_asm); (case k6 => k_is); (case k7 => k_is); (case k8 => ktr_room); (case k9 => exact BindsTo.of_eq rfl); (case c5 => decide); (case kB => exact locs rfl); (case c2 => exact rfl); (case c3 => exact rfl); (case c4 => exact rfl); k_whole; intro g' L' h' FG' F' N' B' X' T' G'; refine fold_q ?_; intro qk; refine fold_e ?_; intro ek; (try dsimp only)))
/-- what is not in the ledger stays to the sign; what is new in it was nowhere -/
def Done (h h' : Heap) (news news' : List (Addr × Obj)) : Prop := GSub h h' (news.map (·.1)) ∧ ∀ q ∈ news', q.1 ∈ news.map (·.1) ∨ h.get? q.1 = none
/-- what a call of the text's own def does to a ledger: a triple over the caller's frame -/
def Spec (w : World) (f : Addr) (vs : List Value) (dm um : Nat) (news : List (Addr × Obj)) (post : Value → List (Addr × Obj) → Prop) : Prop :=
  ∀ (mean : ExcName → Option Value) (mg mb : Str → Option Value) (dp un : Nat) (gd : Option (List Code)) (cn : Str) (cs : Scope) (a : Addr) (ccd : Value) (cl : List (Str × Addr)) (outer : List Env) (A₀ : Around) (base h₀ : Heap) (L : Addr) (m : Str → Option Value) (s : Shared) (Q E : Value → Shared → Prop),
    Below A₀ base outer h₀ → Fr h₀ L s.heap m → (T0.heap_1 w.params).In h₀ → News h₀ L s.heap news → Top V0 (looseW V0 [Str.ofString "write"]) mean mg mb h₀ → cs.kind = .function → dp + dm < recursionLimit → un + um < cLine →
    (∀ r news' h' tk', Fr h₀ L h' m → News h₀ L h' news' → Done s.heap h' news news' → post r news' → Q r { s with heap := h', toks := tk' }) →
    wpAny (model PySem.Challenge.rw_on0191_01.row.toRowW.prog w) (ktrTop dp un gd cn cs L a ccd cl outer) (call (.ref f) vs) Q E s

theorem done_end {H g h' : Heap} {L' : Addr} {m' : Str → Option Value} {news news' : List (Addr × Obj)} (G : GSub H g (news.map (·.1))) (F : Fr g L' h' m') (N : News g L' h' news') : Done H h' news news' :=
  ⟨fun b o e n => F.keep b o (G b o e n), fun q hq => by
    by_cases hm : q.1 ∈ news.map (·.1)
    · exact .inl hm
    · refine .inr ?_
      cases e : H.get? q.1 with
      | none => rfl
      | some o => have z := G _ _ e hm; rw [(N q hq).2.2] at z; cases z⟩

section
variable {w : World} {f : Addr} {vs : List Value} {dm um : Nat} {nc : List (Addr × Obj)} {post : Value → List (Addr × Obj) → Prop} {mean : ExcName → Option Value} {mg mb : Str → Option Value} {dp un : Nat} {gd : Option (List Code)} {cn : Str} {cs : Scope} {a : Addr} {ccd : Value} {cl : List (Str × Addr)} {outer : List Env} {A₀ : Around} {base h₀ : Heap} {L : Addr} {m : Str → Option Value} {s : Shared} {Q E : Value → Shared → Prop} {news : List (Addr × Obj)}
/-- a call that turns nothing: the caller's whole ledger stands -/
theorem use_read (S : Spec w f vs dm um nc post) (hp : ∀ r n', post r n' → n' = nc) (B : Below A₀ base outer h₀) (F : Fr h₀ L s.heap m) (X : (T0.heap_1 w.params).In h₀) (N : News h₀ L s.heap news) (T : Top V0 (looseW V0 [Str.ofString "write"]) mean mg mb h₀)
    (hk : cs.kind = .function) (hsub : ∀ p ∈ nc, p ∈ news) (hd : dp + dm < recursionLimit) (hu : un + um < cLine)
    (ret : ∀ r h' tk', Fr h₀ L h' m → News h₀ L h' news → (∀ b o, s.heap.get? b = some o → h'.get? b = some o) → post r nc → Q r { s with heap := h', toks := tk' }) :
    wpAny (model PySem.Challenge.rw_on0191_01.row.toRowW.prog w) (ktrTop dp un gd cn cs L a ccd cl outer) (call (.ref f) vs) Q E s := by
  refine S mean mg mb dp un gd cn cs a ccd cl outer A₀ base h₀ L m s Q E B F X (fun p hp => N p (hsub p hp)) T hk hd hu fun r n' h' tk' F' N' G p => ?_
  obtain rfl := hp _ _ p
  have K : ∀ b o, s.heap.get? b = some o → h'.get? b = some o := fun b o e => by
    by_cases hb : b ∈ n'.map (·.1)
    · (try k_extra "gf")
      obtain ⟨q, hq, rfl⟩ := List.mem_map.mp hb
      (try k_extra "gu")
      have e' := (N q (hsub q hq)).1
      rw [e] at e'
      cases e'
      exact (N' q hq).1
    · exact G.1 b o e hb
  exact ret r h' tk' F' (fun p hp => ⟨K _ _ (N p hp).1, (N p hp).2⟩) K p
/-- a call that gives a known value and turns nothing -/
theorem use_val {v : Value} (S : Spec w f vs dm um nc (fun r n' => n' = nc ∧ r = v)) (B : Below A₀ base outer h₀) (F : Fr h₀ L s.heap m) (X : (T0.heap_1 w.params).In h₀) (N : News h₀ L s.heap news) (T : Top V0 (looseW V0 [Str.ofString "write"]) mean mg mb h₀)
    (hk : cs.kind = .function) (hsub : ∀ p ∈ nc, p ∈ news) (hd : dp + dm < recursionLimit) (hu : un + um < cLine)
    (ret : ∀ h' tk', Fr h₀ L h' m → News h₀ L h' news → Q v { s with heap := h', toks := tk' }) :
    wpAny (model PySem.Challenge.rw_on0191_01.row.toRowW.prog w) (ktrTop dp un gd cn cs L a ccd cl outer) (call (.ref f) vs) Q E s :=
  use_read S (fun _ _ h => h.1) B F X N T hk hsub hd hu fun r h' tk' F' N' _ p => by
    (try k_extra "gf")
    obtain ⟨_, e⟩ := p
    (try k_extra "gu")
    subst e
    exact ret h' tk' F' N'
/-- a call that gives a known text and turns nothing -/
theorem use_str {x : Str} (S : Spec w f vs dm um nc (fun r n' => n' = nc ∧ ∃ t, r = .str x t)) (B : Below A₀ base outer h₀) (F : Fr h₀ L s.heap m) (X : (T0.heap_1 w.params).In h₀) (N : News h₀ L s.heap news) (T : Top V0 (looseW V0 [Str.ofString "write"]) mean mg mb h₀)
    (hk : cs.kind = .function) (hsub : ∀ p ∈ nc, p ∈ news) (hd : dp + dm < recursionLimit) (hu : un + um < cLine)
    (ret : ∀ t h' tk', Fr h₀ L h' m → News h₀ L h' news → Q (.str x t) { s with heap := h', toks := tk' }) :
    wpAny (model PySem.Challenge.rw_on0191_01.row.toRowW.prog w) (ktrTop dp un gd cn cs L a ccd cl outer) (call (.ref f) vs) Q E s :=
  use_read S (fun _ _ h => h.1) B F X N T hk hsub hd hu fun r h' tk' F' N' _ p => by
    (try k_extra "gf")
    obtain ⟨_, t, e⟩ := p
    (try k_extra "gu")
    subst e
    exact ret t h' tk' F' N'
/-- a call whose triple speaks of the caller's whole ledger -/
theorem use_all (S : Spec w f vs dm um news post) (B : Below A₀ base outer h₀) (F : Fr h₀ L s.heap m) (X : (T0.heap_1 w.params).In h₀) (N : News h₀ L s.heap news) (T : Top V0 (looseW V0 [Str.ofString "write"]) mean mg mb h₀)
    (hk : cs.kind = .function) (hd : dp + dm < recursionLimit) (hu : un + um < cLine)
    (ret : ∀ r n' h' tk', Fr h₀ L h' m → News h₀ L h' n' → Done s.heap h' news n' → post r n' → Q r { s with heap := h', toks := tk' }) :
    wpAny (model PySem.Challenge.rw_on0191_01.row.toRowW.prog w) (ktrTop dp un gd cn cs L a ccd cl outer) (call (.ref f) vs) Q E s :=
  S mean mg mb dp un gd cn cs a ccd cl outer A₀ base h₀ L m s Q E B F X N T hk hd hu ret
/-- a call that gives a new list -/
theorem use_lst {vals : Array Value} (S : Spec w f vs dm um news (fun v n' => ∃ l c, v = .ref l ∧ n' = (l, listOf vals c) :: news ∧ ∀ p ∈ news, p.1 < l)) (B : Below A₀ base outer h₀) (F : Fr h₀ L s.heap m) (X : (T0.heap_1 w.params).In h₀) (N : News h₀ L s.heap news) (T : Top V0 (looseW V0 [Str.ofString "write"]) mean mg mb h₀)
    (hk : cs.kind = .function) (hd : dp + dm < recursionLimit) (hu : un + um < cLine)
    (ret : ∀ l c h' tk', Fr h₀ L h' m → News h₀ L h' ((l, listOf vals c) :: news) → Done s.heap h' news ((l, listOf vals c) :: news) → (∀ p ∈ news, p.1 < l) → Q (.ref l) { s with heap := h', toks := tk' }) :
    wpAny (model PySem.Challenge.rw_on0191_01.row.toRowW.prog w) (ktrTop dp un gd cn cs L a ccd cl outer) (call (.ref f) vs) Q E s :=
  use_all S B F X N T hk hd hu fun r n' h' tk' F' N' D p => by
    (try k_extra "gf")
    obtain ⟨l, c, e, e', hl⟩ := p
    (try k_extra "gu")
    subst e; subst e'
    exact ret l c h' tk' F' N' D hl
/-- a call upon a part of the ledger: the rest stands, and what is new is off it -/
theorem use_part {rest : List (Addr × Obj)} (S : Spec w f vs dm um nc post) (B : Below A₀ base outer h₀) (F : Fr h₀ L s.heap m) (X : (T0.heap_1 w.params).In h₀) (N : News h₀ L s.heap news) (T : Top V0 (looseW V0 [Str.ofString "write"]) mean mg mb h₀)
    (hk : cs.kind = .function) (hsub : ∀ p ∈ nc, p ∈ news) (hrest : ∀ p ∈ rest, p ∈ news) (hoff : ∀ p ∈ rest, p.1 ∉ nc.map (·.1)) (hd : dp + dm < recursionLimit) (hu : un + um < cLine)
    (ret : ∀ r n' h' tk', Fr h₀ L h' m → News h₀ L h' (n' ++ rest) → (∀ p ∈ rest, ∀ q ∈ n', p.1 ≠ q.1) → post r n' → Q r { s with heap := h', toks := tk' }) :
    wpAny (model PySem.Challenge.rw_on0191_01.row.toRowW.prog w) (ktrTop dp un gd cn cs L a ccd cl outer) (call (.ref f) vs) Q E s := by
  refine S mean mg mb dp un gd cn cs a ccd cl outer A₀ base h₀ L m s Q E B F X (fun p hp => N p (hsub p hp)) T hk hd hu fun r n' h' tk' F' N' G p => ret r n' h' tk' F' (fun q hq => ?_) (fun p hp q hq e => ?_) p
  · rcases List.mem_append.mp hq with hq | hq
    · exact N' q hq
    · exact ⟨G.1 _ _ (N q (hrest q hq)).1 (hoff q hq), (N q (hrest q hq)).2⟩
  · rcases G.2 q hq with h | h
    · exact hoff p hp (e ▸ h)
    · rw [← e, (N p (hrest p hp)).1] at h; cases h
end
theorem Spec.conseq {w : World} {f : Addr} {vs : List Value} {dm um : Nat} {news : List (Addr × Obj)} {post post' : Value → List (Addr × Obj) → Prop} (S : Spec w f vs dm um news post) (h : ∀ v n', post v n' → ∃ n'', (∀ p ∈ n'', p ∈ n') ∧ post' v n'') : Spec w f vs dm um news post' :=
  fun mean mg mb dp un gd cn cs a ccd cl outer A₀ base h₀ L m s Q E B F X N T hk hd hu hret => S mean mg mb dp un gd cn cs a ccd cl outer A₀ base h₀ L m s Q E B F X N T hk hd hu fun r n' h' tk' F' N' D p => by
    (try k_extra "gf")
    obtain ⟨n'', hs, q⟩ := h r n' p
    (try k_extra "gu")
    exact hret r n'' h' tk' F' (fun p hp => N' p (hs p hp)) ⟨D.1, fun q hq => D.2 q (hs q hq)⟩ q
def OffAll (a : Nat) : List (Addr × Obj) → Prop
  | [] => True
  | q :: r => (@Ne Nat a q.1) ∧ OffAll a r
theorem OffAll.of {a : Addr} {l : List (Addr × Obj)} (h : ∀ q ∈ l, a ≠ q.1) : OffAll a l := by
  induction l with
  | nil => exact trivial
  | cons q r ih => exact ⟨h q List.mem_cons_self, ih fun p hp => h p (List.mem_cons_of_mem _ hp)⟩
theorem OffAll.mem {a : Addr} {l : List (Addr × Obj)} (h : OffAll a l) : ∀ q ∈ l, a ≠ q.1 := by
  induction l with
  | nil => intro q hq; cases hq
  | cons q r ih =>
    intro p hp
    rcases List.mem_cons.mp hp with rfl | hp
    · exact h.1
    · exact ih h.2 p hp

/-- all texts one behind the other -/
def catS (ys : List Str) : Str := ⟨(ys.flatMap (·.cps.toList)).toArray⟩
theorem catS_nil : catS [] = Str.ofString "" := by decide +kernel
theorem str_eq {x y : Str} (h : x.cps.toList = y.cps.toList) : x = y := by
  obtain ⟨⟨a⟩⟩ := x
  obtain ⟨⟨b⟩⟩ := y
  simp at h
  rw [h]
theorem catS_cps (ys : List Str) : (catS ys).cps.toList = ys.flatMap (·.cps.toList) := by simp [catS]
theorem app_cps (x y : Str) : (x ++ y).cps.toList = x.cps.toList ++ y.cps.toList := by rw [Str.cps_append, Array.toList_append]
theorem empty_cps : (Str.ofString "").cps.toList = [] := by decide +kernel
theorem join_cat : ∀ ys : List Str, Txt.join (Str.ofString "") ys = catS ys := fun ys => by
  show Builtin.Str.glued (Str.ofString "") ys = _
  rw [StrLaws.glued_eq_join]
  refine str_eq ?_
  rw [catS_cps]
  induction ys with
  | nil => rfl
  | cons x r ih =>
    cases r with
    | nil => simp [Str.join]
    | cons y r =>
      show (x ++ Str.ofString "" ++ Str.join (Str.ofString "") (y :: r)).cps.toList = _
      rw [app_cps, app_cps, ih, empty_cps]
      simp
theorem len_cps (x : Str) : x.length = x.cps.toList.length := by simp [Str.length]
theorem catS_len (ys : List Str) : (catS ys).length = (ys.map (·.length)).sum := by
  rw [len_cps, catS_cps]
  induction ys with
  | nil => rfl
  | cons x r ih => rw [List.flatMap_cons, List.length_append, ih, List.map_cons, List.sum_cons, len_cps]
theorem catS_append (a b : List Str) : catS (a ++ b) = catS a ++ catS b := by
  refine str_eq ?_
  rw [app_cps, catS_cps, catS_cps, catS_cps, List.flatMap_append]
theorem catS_one (a : Str) : catS [a] = a := by
  refine str_eq ?_
  rw [catS_cps]; simp
theorem str_assoc (a b c : Str) : a ++ b ++ c = a ++ (b ++ c) := by
  refine str_eq ?_
  simp only [app_cps, List.append_assoc]
/-- a text's signs -/
def sgn (x : Str) : List Str := x.cps.toList.map fun c => ⟨#[c]⟩
section
variable {prog : Program} {w : World} {A : Around} {E : Value → Shared → Prop} {s : Shared} {h₀ : Heap} {L : Addr} {m : Str → Option Value} {news : List (Addr × Obj)}
theorem join_N {D : Addr} {its : Array Value} {n : Nat} {ys : List Str} {t : Tok} {Q : Value → Shared → Prop} (N : News h₀ L s.heap news) (hm : (D, listOf its n) ∈ news) (hi : StrsAre its.toList ys) (hok : (catS ys).length ≤ 16777216)
    (h : ∀ t' k, Q (.str (catS ys) t') { s with toks := k }) : wpAny (model prog w) A (call (.builtin "str.join") [.str (Str.ofString "") t, .ref D]) Q E s := by
  refine join_list ⟨_, (N _ hm).1, rfl, n, rfl⟩ hi ?_ fun t' k => by rw [join_cat]; exact h t' k
  have z : (Str.ofString "").length = 0 := by decide
  rw [z, Nat.mul_zero, Nat.add_zero, ← catS_len]
  exact hok
theorem strsAre_of {g : Str → Str} {xs : List Str} : ∀ {vs ys : List Value}, Paired (fun v y => ∃ c t t', v = Value.str c t ∧ y = Value.str (g c) t') vs ys → StrsAre vs xs → StrsAre ys (xs.map g) := by
  intro vs ys hp
  induction hp generalizing xs with
  | nil => intro h; cases h; exact .nil
  | cons h _ ih =>
    intro hs
    cases hs with
    | cons y t r =>
      (try k_extra "gf")
      obtain ⟨c, t₁, t₂, e, rfl⟩ := h
      (try k_extra "gu")
      cases e
      exact .cons _ _ (ih r)
theorem strsAre_signs : ∀ (l : List Nat) (vs : List Value), vs.length = l.length → (∀ (j : Nat) v, vs[j]? = some v → ∃ (c : Nat) (u : Tok), l[j]? = some c ∧ v = Value.str ⟨#[c]⟩ u) → StrsAre vs (l.map fun c => (⟨#[c]⟩ : Str)) := by
  intro l
  induction l with
  | nil =>
    intro vs hl _
    cases vs with
    | nil => exact .nil
    | cons _ _ => simp at hl
  | cons c r ih =>
    intro vs hl hv
    cases vs with
    | nil => simp at hl
    | cons v vs =>
      (try k_extra "gf")
      obtain ⟨c', u, h1, rfl⟩ := hv 0 v (by simp)
      (try k_extra "gu")
      simp at h1
      subst h1
      exact .cons _ _ (ih vs (by simpa using hl) fun j v h => hv (j + 1) v (by simpa using h))
inductive StrIn (prog : Program) (w : World) (A : Around) (h₀ : Heap) (L : Addr) (m : Str → Option Value) (news : List (Addr × Obj)) (env : Env) (elt : Expr) (x : Str) (scope : Scope) (cl : List (Str × Addr)) (g : Str → Str) (xs : Str) (Q : Value → Shared → Prop) (xv : Value) (s₁ : Shared) : Prop
  | mk (t : Tok) (h1 : xv = .str xs t) (h2 : Fr h₀ L s₁.heap m) (h3 : News h₀ L s₁.heap news) (h4 : (∀ C c t s₂ m₂ oC E', c ∈ sgn xs → LCg.NsObj oC m₂ → m₂ x = some (.str c t) → Fr h₀ L s₂.heap m → News h₀ L s₂.heap ((C, oC) :: news) → wpAny (model prog w) A (eval elt (compEnvC scope cl C env)) (fun y s₃ => (∃ t', y = .str (g c) t') ∧ Keeps s₂ s₃) E' s₂)) (h5 : (∀ D ys n h' tk, Fr h₀ L h' m → News h₀ L h' ((D, listOf ys n) :: news) → (∀ p ∈ news, p.1 ≠ D) → StrsAre ys.toList ((sgn xs).map g) → Q (.ref D) { s₁ with heap := h', toks := tk }))
/-- a list comprehension over a text's signs; each element a text -/
theorem comp_str {env : Env} {elt iter : Expr} {x : Str} {px : Pos} {scope : Scope} {cl : List (Str × Addr)} {pos : Pos} {Q : Value → Shared → Prop} (g : Str → Str) (xs : Str) (_F₀ : Fr h₀ L s.heap m) (_N₀ : News h₀ L s.heap news)
    (hh : A.handled = none) (hclos : closureFor scope env = pure cl) (hcell : ∀ y ∈ scope.names, y.2 ≠ .cell) (hkind : scope.kind = .function)
    (hnames : ∀ y ∈ scope.names, y.2 = .local → scope.names.lookup y.1 = some .local) (hx : scope.names.lookup x = some .local) (hsz : xs.length ≤ 1000)
    (h : wpAny (model prog w) A (eval iter env) (fun xv s₁ => StrIn prog w A h₀ L m news env elt x scope cl g xs Q xv s₁) E s)
    (hs : ∀ x, foldedSetIterable iter env x = pure x := by intro _; rfl) :
    wpAny (model prog w) A (eval (.ListComp elt [⟨.Name x px, iter, [], 0⟩] scope pos) env) Q E s := by
  refine wpAny_ListComp_free (fun _ => true) (fun v y => ∃ c t t', v = Value.str c t ∧ y = Value.str (g c) t') hclos hcell hkind hnames hx (wpAny_mono h (fun xv s₁ h₁ => ?_) fun _ _ e => e) hs
  (try k_extra "gf")
  obtain ⟨t, rfl, F, N, helt, hQ⟩ := h₁
  (try k_extra "gu")
  refine wpAny_pyIter_str fun o St W hst => ?_
  have keep : ∀ b o', s₁.heap.get? b = some o' → (s₁.heap.push o).get? b = some o' := fun b o' e => Heap.get?_push_of_some _ e
  have old : ∀ b o', s₁.heap.get? b = some o' → b ∉ [s₁.heap.objs.size] := fun b o' e hm => by rw [List.mem_singleton.mp hm] at e; exact Nat.lt_irrefl _ (Heap.lt_size e)
  refine ⟨s₁.heap.objs.size, [s₁.heap.objs.size], [s₁.heap.objs.size], xs.cps.size, _, St, rfl, W A hh, Nat.le_trans hsz (by decide), hst, ?_, ⟨?_, ?_⟩, ?_⟩
  · intro b hb
    rw [List.mem_singleton.mp hb]
    show _ < (s₁.heap.push o).objs.size
    rw [Heap.size_push]; exact Nat.lt_succ_self _
  · intro C i v s₃ m₃ E' _ _ hn hm hk _
    exact wpAny_tests_nil ⟨rfl, s₃.heap, s₃.toks, rfl, fun _ _ e => e⟩
  · intro C i v s₃ m₃ E' hC hv _ hn hm hk _
    (try k_extra "gf")
    obtain ⟨c, u, hc, rfl⟩ := hv
    (try k_extra "gu")
    have up : ∀ b o', s₁.heap.get? b = some o' → s₃.heap.get? b = some o' := fun b o' e => hk b o' (old b o' e) (keep b o' e)
    (try k_extra "gf")
    obtain ⟨oC, e, hoC⟩ := LCg.ns_obj hn
    (try k_extra "gu")
    have hlt : s₁.heap.objs.size < C := by have := hC; rw [show ({ s₁ with heap := s₁.heap.push o } : Shared).heap.objs.size = s₁.heap.objs.size + 1 from Heap.size_push ..] at this; exact this
    have F₃ := F.keeps up
    have N₃ : News h₀ L s₃.heap ((C, oC) :: news) := fun p hp => by
      rcases List.mem_cons.mp hp with rfl | hp
      · refine ⟨e, Nat.ne_of_gt (Nat.lt_trans F.ns.lt hlt), ?_⟩
        cases q : h₀.get? C with
        | none => rfl
        | some o' => exact absurd (Nat.lt_trans (Heap.lt_size (F.keep _ _ q)) hlt) (Nat.lt_irrefl _)
      · exact ⟨up _ _ (N p hp).1, (N p hp).2⟩
    refine wpAny_mono (helt C ⟨#[c]⟩ u s₃ m₃ oC E' ?_ hoC hm F₃ N₃) (fun y s₄ h₄ => ?_) fun _ _ e => e
    · rw [sgn, List.mem_map]
      have hc' : xs.cps.toList[i]? = some c := by rw [Array.getElem?_toList]; exact hc
      exact ⟨c, List.mem_of_getElem? hc', rfl⟩
    · (try k_extra "gf")
      obtain ⟨⟨t', rfl⟩, k⟩ := h₄
      (try k_extra "gu")
      exact ⟨⟨_, _, _, rfl, rfl⟩, k⟩
  · intro D h' tk ys vs hnew hlD hplD hlen hP hF hk
    have up : ∀ b o', s₁.heap.get? b = some o' → h'.get? b = some o' := fun b o' e => hk b o' (old b o' e) (keep b o' e)
    (try k_extra "gf")
    obtain ⟨n, hD⟩ := hplD
    (try k_extra "gu")
    have hD1 : ∀ b o', s₁.heap.get? b = some o' → b ≠ D := fun b o' e q => by
      have z := keep b o' e
      rw [q, hnew] at z; cases z
    rw [List.filter_eq_self.mpr (fun _ _ => rfl)] at hF
    refine hQ D ys n h' tk (F.keeps up) (fun p hp => ?_) (fun p hp => hD1 _ _ (N p hp).1) (strsAre_of hF ?_)
    · rcases List.mem_cons.mp hp with rfl | hp
      · refine ⟨hD, ?_, ?_⟩
        · (try k_extra "gf")
          obtain ⟨oL, _, _, hL, _⟩ := F.ns
          (try k_extra "gu")
          exact (hD1 _ _ hL).symm
        · cases q : h₀.get? D with
          | none => rfl
          | some o' => exact absurd rfl (hD1 _ _ (F.keep _ _ q))
      · exact ⟨up _ _ (N p hp).1, (N p hp).2⟩
    · refine strsAre_signs xs.cps.toList vs (by simpa using hlen) fun j v hj => ?_
      (try k_extra "gf")
      obtain ⟨c, u, hc, e⟩ := hP j v hj
      (try k_extra "gu")
      exact ⟨c, u, by rw [Array.getElem?_toList]; exact hc, e⟩
end

def teF (c : Str) : Str :=
  if c = Str.ofString "&" then Str.ofString "&amp;" else if c = Str.ofString "<" then Str.ofString "&lt;" else if c = Str.ofString ">" then Str.ofString "&gt;" else if c = Str.ofString "\r" then Str.ofString "&#13;" else c
theorem str_ex {x y : Str} {t : Tok} (h : x = y) : ∃ t', Value.str x t = Value.str y t' := ⟨t, by rw [h]⟩
theorem text_escape_spec (w : World) (c : Str) (t : Tok) : Spec w 72 [.str c t] 10 20 [] (fun r n' => n' = [] ∧ ∃ t', r = .str (teF c) t') := by
  unfold Spec
  k_fill
  intro mean mg mb dp un gd cn cs a ccd cl outer A₀ base h₀ L m s Q E B F X N T hk hd hu hret
  refine wpAny_call ?_
  k_dflt ktr_enter
  k_steps
  all_goals refine hret _ _ _ _ (by k_asm) (by k_asm) (done_end (by assumption) (by assumption) (by assumption)) ⟨rfl, str_ex ?_⟩
  all_goals simp_all [teF]
section
variable {prog : Program} {w : World} {A : Around} {E : Value → Shared → Prop} {s : Shared} {Q : Value → Shared → Prop}
theorem in_lit {x y : Str} {t u : Tok} {b : Bool} (e : (!(Builtin.Str.occurrences x y 0 x.length 1).isEmpty) = b) (h : Q (.bool b) s) : wpAny (model prog w) A (compareOp .In (.str y u) (.str x t)) Q E s :=
  in_str (by rw [e]; exact h)
theorem eq_lit {x y : Str} {t u : Tok} {b : Bool} (e : (x == y) = b) (h : Q (.bool b) s) : wpAny (model prog w) A (compareOp .Eq (.str x t) (.str y u)) Q E s := eq_str (by rw [e]; exact h)
theorem ne_lit {x y : Str} {t u : Tok} {b : Bool} (e : (x != y) = b) (h : Q (.bool b) s) : wpAny (model prog w) A (compareOp .NotEq (.str x t) (.str y u)) Q E s := ne_str (by rw [e]; exact h)
theorem ord_lit {x : Str} {t : Tok} (n : Nat) {k : Int} (e : x = Str.mk #[n]) (hk : k = n) (h : Q (.int k s.toks) { s with toks := s.toks + 1 }) : wpAny (model prog w) A (call (.builtin "ord") [.str x t]) Q E s := by
  subst e; subst hk; exact P.ord_of_char h
end
theorem reg_S1_1 : True := by
  k_with "compareOp In str str" => ((first | (with_reducible (first | refine in_lit (b := false) (by decide +kernel) ?_ | refine in_lit (b := true) (by decide +kernel) ?_)) | (k_dflt (first | refine in_lit (b := false) (by decide +kernel) ?_ | refine in_lit (b := true) (by decide +kernel) ?_))))
  trivial
theorem reg_S1_2 : True := by
  k_with "compareOp Eq str str" => ((first | (with_reducible (first | refine eq_lit (by with_reducible assumption) ?_ | refine eq_lit (b := false) (by decide +kernel) ?_ | refine eq_lit (b := true) (by decide +kernel) ?_)) | (k_dflt (first | refine eq_lit (b := false) (by decide +kernel) ?_ | refine eq_lit (b := true) (by decide +kernel) ?_ | refine eq_lit (by assumption) ?_))))
  trivial
theorem reg_S1_3 : True := by
  k_with "compareOp NotEq str str" => ((first | (with_reducible (first | refine ne_lit (by with_reducible assumption) ?_ | refine ne_lit (b := false) (by decide +kernel) ?_ | refine ne_lit (b := true) (by decide +kernel) ?_)) | (k_dflt (first | refine ne_lit (b := false) (by decide +kernel) ?_ | refine ne_lit (b := true) (by decide +kernel) ?_ | refine ne_lit (by assumption) ?_))))
  trivial
theorem reg_S1_4 : True := by
  k_with "call builtin:ord" => ((k_dflt (first | refine ord_lit 9 (k := 9) (by decide +kernel) rfl ?_ | refine ord_lit 10 (k := 10) (by decide +kernel) rfl ?_ | refine ord_lit 13 (k := 13) (by decide +kernel) rfl ?_)))
  trivial
def veF (c : Str) : Str :=
  if c = Str.ofString "&" then Str.ofString "&amp;" else if c = Str.ofString "<" then Str.ofString "&lt;" else if c = Str.ofString "\"" then Str.ofString "&quot;" else if c = Str.ofString "\t" then Str.ofString "&#9;" else if c = Str.ofString "\n" then Str.ofString "&#10;" else if c = Str.ofString "\r" then Str.ofString "&#13;" else c
def vSigns : List Str := [Str.ofString "1", Str.ofString "<", Str.ofString "&", Str.ofString ">", Str.ofString "\"", Str.ofString "'", Str.ofString "\t", Str.ofString "\n", Str.ofString "\r", Str.ofString "]"]
theorem reg_S1_5 : True := by
  k_with "call ref" => (((with_reducible show wpAny _ _ (call (Value.ref 72) _) _ _ _); k_here; k_dflt ((first | with_reducible refine' use_read (text_escape_spec _ _ _) (by intro _ _ h; exact h.1) ?zqB ?zqF ?zqX ?zqN ?zqT ?zqk ?zqs ?zqd ?zqu ?_ | refine' use_read (text_escape_spec _ _ _) (by intro _ _ h; exact h.1) ?zqB ?zqF ?zqX ?zqN ?zqT ?zqk ?zqs ?zqd ?zqu ?_); (case zqB => k_asm); (case zqF => k_asm); (case zqX => k_asm); (case zqN => k_asm); (case zqT => k_asm); (case zqs => first | exact fun _ h => h | (intro pm9 hpm9; (repeat (first | exact hpm9 | refine List.mem_cons_of_mem _ ?_)); done) | first | exact List.forall_mem_nil _ | lcg_sub); (case zqk => first | exact rfl | assumption); (case zqd => ktr_room); (case zqu => ktr_units); k_whole); intro rm9 hm9 tkm9 Fm9 Nm9 Km9 pm9; (try k_extra "gf"); obtain ⟨_, tm9, em9⟩ := pm9; subst em9; (try k_extra "gu"); (try k_sweep); (try dsimp only)))
  trivial
theorem value_escape_spec (w : World) (c : Str) (t : Tok) (hc : c ∈ vSigns) : Spec w 79 [.str c t] 10 20 [] (fun r n' => n' = [] ∧ ∃ t', r = .str (veF c) t') := by
  simp only [vSigns, List.mem_cons, List.not_mem_nil, or_false] at hc
  unfold Spec
  k_fill
  intro mean mg mb dp un gd cn cs a ccd cl outer A₀ base h₀ L m s Q E B F X N T hk hd hu hret
  refine wpAny_call ?_
  k_dflt ktr_enter
  rcases hc with rfl | rfl | rfl | rfl | rfl | rfl | rfl | rfl | rfl | rfl
  all_goals k_steps
  all_goals refine hret _ _ _ _ (by k_asm) (by k_asm) (done_end (by assumption) (by assumption) (by assumption)) ⟨rfl, str_ex ?_⟩
  all_goals decide +kernel
theorem reg_S1_6 : True := by
  k_with "call ref" => (((with_reducible show wpAny _ _ (call (Value.ref 79) _) _ _ _); k_here; k_dflt ((first | with_reducible refine' use_read (value_escape_spec _ _ _ ?zqhc) (by intro _ _ h; exact h.1) ?zqB ?zqF ?zqX ?zqN ?zqT ?zqk ?zqs ?zqd ?zqu ?_ | refine' use_read (value_escape_spec _ _ _ ?zqhc) (by intro _ _ h; exact h.1) ?zqB ?zqF ?zqX ?zqN ?zqT ?zqk ?zqs ?zqd ?zqu ?_); (case zqB => k_asm); (case zqF => k_asm); (case zqX => k_asm); (case zqN => k_asm); (case zqT => k_asm); (case zqhc => first | assumption | exact ‹∀ c ∈ sgn _, c ∈ vSigns› _ (by assumption)); (case zqs => first | exact fun _ h => h | (intro pm9 hpm9; (repeat (first | exact hpm9 | refine List.mem_cons_of_mem _ ?_)); done) | first | exact List.forall_mem_nil _ | lcg_sub); (case zqk => first | exact rfl | assumption); (case zqd => ktr_room); (case zqu => ktr_units); k_whole); intro rm9 hm9 tkm9 Fm9 Nm9 Km9 pm9; (try k_extra "gf"); obtain ⟨_, tm9, em9⟩ := pm9; subst em9; (try k_extra "gu"); (try k_sweep); (try dsimp only)))
  trivial

def etF (x : Str) : Str := catS ((sgn x).map teF)
def evF (x : Str) : Str := catS ((sgn x).map veF)
theorem sum_le_of {xs : List Str} {B : Nat} (h : ∀ x ∈ xs, x.length ≤ B) : (xs.map (·.length)).sum ≤ B * xs.length := by
  induction xs with
  | nil => exact Nat.zero_le _
  | cons x r ih =>
    have h1 := h x List.mem_cons_self
    have h2 := ih fun y hy => h y (List.mem_cons_of_mem _ hy)
    rw [List.map_cons, List.sum_cons, List.length_cons, Nat.mul_add]
    omega
theorem sgn_length (x : Str) : (sgn x).length = x.length := by simp [sgn, Str.length]
theorem sgn_one {x c : Str} (h : c ∈ sgn x) : c.length = 1 := by
  rw [sgn, List.mem_map] at h
  (try k_extra "gf")
  obtain ⟨n, _, rfl⟩ := h
  (try k_extra "gu")
  rfl
theorem lit_len (a : String) (n : Nat) (h : (Str.ofString a).length = n) (k : Nat) (hk : n ≤ k) : (Str.ofString a).length ≤ k := h ▸ hk
theorem teF_len {c : Str} (h : c.length = 1) : (teF c).length ≤ 6 := by
  unfold teF
  repeat' split
  all_goals first | exact Nat.le_of_ble_eq_true (by decide +kernel) | (rw [h]; decide)
theorem veF_len {c : Str} (h : c.length = 1) : (veF c).length ≤ 6 := by
  unfold veF
  repeat' split
  all_goals first | exact Nat.le_of_ble_eq_true (by decide +kernel) | (rw [h]; decide)
theorem etF_len (x : Str) : (etF x).length ≤ 6 * x.length := by
  rw [etF, catS_len]
  refine Nat.le_trans (sum_le_of (B := 6) fun y hy => ?_) (by rw [List.length_map, sgn_length]; exact Nat.le_refl _)
  (try k_extra "gf")
  obtain ⟨c, hc, rfl⟩ := List.mem_map.mp hy
  (try k_extra "gu")
  exact teF_len (sgn_one hc)
theorem evF_len (x : Str) : (evF x).length ≤ 6 * x.length := by
  rw [evF, catS_len]
  refine Nat.le_trans (sum_le_of (B := 6) fun y hy => ?_) (by rw [List.length_map, sgn_length]; exact Nat.le_refl _)
  (try k_extra "gf")
  obtain ⟨c, hc, rfl⟩ := List.mem_map.mp hy
  (try k_extra "gu")
  exact veF_len (sgn_one hc)
theorem reg_S2_1 : True := by
  k_with "Exists" => ((k_dflt ((refine ⟨_, rfl, by k_asm, by k_asm, ?zqe1, ?zqe2⟩); (case' zqe1 => intro Cm9 cm9 tm9 sm9 mm9 om9 Em9 hcm9 hC' hx' Fm9 Nm9); (case' zqe2 => intro Dm9 ysm9 nm9 hm9 tkm9 Fm9 Nm9 om9 hSm9))))
  trivial
theorem reg_S2_2 : True := by
  k_with "Keeps" => ((k_dflt (exact ⟨_, _, rfl, by k_asm⟩)))
  trivial
theorem reg_S2_3 : True := by
  k_with "call builtin:str.join" => ((k_dflt (refine' join_N ?zqN ?zqm ?zqS ?zqz ?_; (case zqN => k_asm); (case zqm => k_mem); (case zqS => assumption); (case zqz => assumption); k_whole; intro tm9 km9)))
  trivial
theorem reg_S2_4 : True := by
  k_with "eval ListComp" => ((k_here; k_dflt (refine comp_str teF _ (by k_asm) (by k_asm) (by rfl) (by rfl) (by decide) (by rfl) (by decide) (by rfl) (by assumption) ?_)))
  trivial
theorem escaped_text_spec (w : World) (x : Str) (t : Tok) (hx : x.length ≤ 1000) : Spec w 84 [.str x t] 20 40 [] (fun r n' => n' = [] ∧ ∃ t', r = .str (etF x) t') := by
  have hz : (catS ((sgn x).map teF)).length ≤ 16777216 := Nat.le_trans (etF_len x) (by omega)
  unfold Spec
  k_fill
  intro mean mg mb dp un gd cn cs a ccd cl outer A₀ base h₀ L m s Q E B F X N T hk hd hu hret
  refine wpAny_call ?_
  k_dflt ktr_enter
  k_steps
  refine ⟨_, rfl, by k_asm, by k_asm, ?_, ?_⟩
  all_goals k_steps
  all_goals exact hret _ [] _ _ (by k_asm) (fun _ h => nomatch h) (done_end (by assumption) (by assumption) (fun _ h => nomatch h)) ⟨rfl, _, rfl⟩
theorem reg_S2_5 : True := by
  k_with "eval ListComp" => ((k_here; k_dflt (refine comp_str veF _ (by k_asm) (by k_asm) (by rfl) (by rfl) (by decide) (by rfl) (by decide) (by rfl) (by assumption) ?_)))
  trivial
theorem escaped_value_spec (w : World) (x : Str) (t : Tok) (hx : x.length ≤ 1000) (hv : ∀ c ∈ sgn x, c ∈ vSigns) : Spec w 89 [.str x t] 20 40 [] (fun r n' => n' = [] ∧ ∃ t', r = .str (evF x) t') := by
  have hz : (catS ((sgn x).map veF)).length ≤ 16777216 := Nat.le_trans (evF_len x) (by omega)
  unfold Spec
  k_fill
  intro mean mg mb dp un gd cn cs a ccd cl outer A₀ base h₀ L m s Q E B F X N T hk hd hu hret
  refine wpAny_call ?_
  k_dflt ktr_enter
  k_steps
  refine ⟨_, rfl, by k_asm, by k_asm, ?_, ?_⟩
  all_goals k_steps
  all_goals exact hret _ [] _ _ (by k_asm) (fun _ h => nomatch h) (done_end (by assumption) (by assumption) (fun _ h => nomatch h)) ⟨rfl, _, rfl⟩
theorem reg_S2_6 : True := by
  k_with "call ref" => (((with_reducible show wpAny _ _ (call (Value.ref 84) _) _ _ _); k_here; k_dflt ((first | with_reducible refine' use_str (escaped_text_spec _ _ _ ?zqhc) ?zqB ?zqF ?zqX ?zqN ?zqT ?zqk ?zqs ?zqd ?zqu ?_ | refine' use_str (escaped_text_spec _ _ _ ?zqhc) ?zqB ?zqF ?zqX ?zqN ?zqT ?zqk ?zqs ?zqd ?zqu ?_); (case zqB => k_asm); (case zqF => k_asm); (case zqX => k_asm); (case zqN => k_asm); (case zqT => k_asm); (case zqhc => first | assumption | omega); (case zqs => first | exact fun _ h => h | (intro pm9 hpm9; (repeat (first | exact hpm9 | refine List.mem_cons_of_mem _ ?_)); done) | first | exact List.forall_mem_nil _ | lcg_sub); (case zqk => first | exact rfl | assumption); (case zqd => ktr_room); (case zqu => ktr_units); k_whole); intro tm9 hm9 tkm9 Fm9 Nm9; (try k_sweep); (try dsimp only)))
  trivial
theorem reg_S2_7 : True := by
  k_with "call ref" => (((with_reducible show wpAny _ _ (call (Value.ref 89) _) _ _ _); k_here; k_dflt ((first | with_reducible refine' use_str (escaped_value_spec _ _ _ ?zqhc ?zqhv) ?zqB ?zqF ?zqX ?zqN ?zqT ?zqk ?zqs ?zqd ?zqu ?_ | refine' use_str (escaped_value_spec _ _ _ ?zqhc ?zqhv) ?zqB ?zqF ?zqX ?zqN ?zqT ?zqk ?zqs ?zqd ?zqu ?_); (case zqB => k_asm); (case zqF => k_asm); (case zqX => k_asm); (case zqN => k_asm); (case zqT => k_asm); (case zqhc => first | assumption | omega); (case zqhv => assumption); (case zqs => first | exact fun _ h => h | (intro pm9 hpm9; (repeat (first | exact hpm9 | refine List.mem_cons_of_mem _ ?_)); done) | first | exact List.forall_mem_nil _ | lcg_sub); (case zqk => first | exact rfl | assumption); (case zqd => ktr_room); (case zqu => ktr_units); k_whole); intro tm9 hm9 tkm9 Fm9 Nm9; (try k_sweep); (try dsimp only)))
  trivial

abbrev keyE (P : Params) (nm : Str) (t : Tok) (v : Value) : DictEntry := ⟨PyData.keyHash P nm, .str nm t, v⟩
/-- one row of the tree, as the heap bears it -/
structure NdR where
  x : Addr
  d : Addr
  c : Addr
  t : Addr
  n : Addr
  ts : Nat → Tok
  kind : Str
  name : Str
  uri : Str
  loc : Str
  value : Str
  par : Value
  chv : List Value
  atv : List Value
  ec : Nat
  et : Nat
abbrev rowO (P : Params) (ts : Nat → Tok) (kind name uri loc value par : Value) (c t n : Addr) : Obj :=
  dictOf [keyE P (Str.ofString "kind") (ts 0) kind, keyE P (Str.ofString "name") (ts 1) name, keyE P (Str.ofString "uri") (ts 2) uri, keyE P (Str.ofString "local") (ts 3) loc, keyE P (Str.ofString "value") (ts 4) value,
    keyE P (Str.ofString "parent") (ts 5) par, keyE P (Str.ofString "children") (ts 6) (.ref c), keyE P (Str.ofString "attributes") (ts 7) (.ref t), keyE P (Str.ofString "namespaces") (ts 8) (.ref n)] 9
abbrev NdR.row (P : Params) (r : NdR) : Obj := rowO P r.ts (.str r.kind (r.ts 9)) (.str r.name (r.ts 10)) (.str r.uri (r.ts 11)) (.str r.loc (r.ts 12)) (.str r.value (r.ts 13)) r.par r.c r.t r.n
def NdR.cells (P : Params) (r : NdR) : List (Addr × Obj) := [(r.x, instObj 188 r.d), (r.d, r.row P), (r.c, listOf r.chv.toArray r.ec), (r.t, listOf r.atv.toArray r.et), (r.n, listOf #[] 0)]
def treeL (P : Params) (tr td : Addr) (tk : Tok) (R : Addr) (rs : List NdR) : List (Addr × Obj) :=
  (tr, instObj 377 td) :: (td, dictOf [keyE P (Str.ofString "rows") tk (.ref R)] 1) :: (R, listOf (rs.map fun r => Value.ref r.x).toArray rs.length) :: rs.flatMap (NdR.cells P)
def TreeIn (P : Params) (news : List (Addr × Obj)) (tr : Addr) (rs : List NdR) : Prop := ∃ td tk R, ∀ p ∈ treeL P tr td tk R rs, p ∈ news
theorem TreeIn.open {P : Params} {news : List (Addr × Obj)} {tr : Addr} {rs : List NdR} (h : TreeIn P news tr rs) : ∃ td tk R, (tr, instObj 377 td) ∈ news ∧ (td, dictOf [keyE P (Str.ofString "rows") tk (.ref R)] 1) ∈ news ∧ (R, listOf (rs.map fun r => Value.ref r.x).toArray rs.length) ∈ news := by
  (try k_extra "gf")
  obtain ⟨td, tk, R, h⟩ := h
  (try k_extra "gu")
  exact ⟨td, tk, R, h _ (by unfold treeL; k_extra "mm"), h _ (by unfold treeL; k_extra "mm"), h _ (by unfold treeL; k_extra "mm")⟩
theorem TreeIn.node {P : Params} {news : List (Addr × Obj)} {tr : Addr} {rs : List NdR} (h : TreeIn P news tr rs) {i : Nat} {r : NdR} (hi : rs[i]? = some r) :
    (r.x, instObj 188 r.d) ∈ news ∧ (r.d, r.row P) ∈ news ∧ (r.c, listOf r.chv.toArray r.ec) ∈ news ∧ (r.t, listOf r.atv.toArray r.et) ∈ news ∧ (r.n, listOf #[] 0) ∈ news := by
  (try k_extra "gf")
  obtain ⟨td, tk, R, h⟩ := h
  (try k_extra "gu")
  have hm := List.mem_of_getElem? hi
  have k : ∀ p ∈ r.cells P, p ∈ news := fun p hp => h p (by
    unfold treeL
    exact List.mem_cons_of_mem _ (List.mem_cons_of_mem _ (List.mem_cons_of_mem _ (List.mem_flatMap.mpr ⟨r, hm, hp⟩))))
  exact ⟨k _ (by unfold NdR.cells; k_extra "mm"), k _ (by unfold NdR.cells; k_extra "mm"), k _ (by unfold NdR.cells; k_extra "mm"), k _ (by unfold NdR.cells; k_extra "mm"), k _ (by unfold NdR.cells; k_extra "mm")⟩
theorem TreeIn.mono {P : Params} {news news' : List (Addr × Obj)} {tr : Addr} {rs : List NdR} (h : TreeIn P news tr rs) (s : ∀ p ∈ news, p ∈ news') : TreeIn P news' tr rs := by
  (try k_extra "gf")
  obtain ⟨td, tk, R, h⟩ := h
  (try k_extra "gu")
  exact ⟨td, tk, R, fun p hp => s p (h p hp)⟩
theorem getElem?_lt {α : Type} {l : List α} {i : Nat} {a : α} (h : l[i]? = some a) : i < l.length := by
  rcases Nat.lt_or_ge i l.length with q | q
  · exact q
  · rw [List.getElem?_eq_none q] at h; cases h
section
variable {prog : Program} {w : World} {A : Around} {E : Value → Shared → Prop} {s : Shared} {h₀ : Heap} {L : Addr} {m : Str → Option Value} {news : List (Addr × Obj)}
theorem item_N {value slice : PySem.Expr} {l : Addr} {its : Array Value} {n i : Nat} {k : Int} {u : Tok} {v : Value} {Q : Value → Shared → Prop} (N : News h₀ L s.heap news) (hm : (l, listOf its n) ∈ news) (hx : its[i]? = some v) (hk : k = (i : Int)) (hs : its.size ≤ 16777216) (h : Q v s)
    (hsb : subscripted slice false (.ref l) (.int k u) = operate [.ref l, .int k u] (getItem (.ref l) (.int k u)) := by with_unfolding_all rfl) :
    wpAny (model prog w) A (subscriptTail value slice (.ref l) (.int k u)) Q E s := by
  subst hk
  have hl : s.heap.IsList l its := ⟨_, (N _ hm).1, rfl, n, rfl⟩
  have hi : i < its.size := by
    rcases Nat.lt_or_ge i its.size with q | q
    · exact q
    · rw [Array.getElem?_eq_none q] at hx; cases hx
  exact tail_any hl.typeIs slot_list_getitem.lookup (wpAny_getItem_list hl (by omega) (by omega) (by simpa using hx) h) hsb
theorem len_N {l : Addr} {its : Array Value} {n : Nat} {j : Int} {Q : Value → Shared → Prop} (N : News h₀ L s.heap news) (hm : (l, listOf its n) ∈ news) (hj : (its.size : Int) = j) (hz : its.size ≤ 16777216)
    (h : ∀ t k, Q (.int j t) { s with toks := k }) : wpAny (model prog w) A (call (.builtin "len") [.ref l]) Q E s :=
  PyProof.Rows.len_list ⟨_, (N _ hm).1, rfl, n, rfl⟩ (by omega) (by rw [hj]; exact h _ _)
end
theorem rows_at {rs : List NdR} {i : Nat} {r : NdR} (h : rs[i]? = some r) : ((rs.map fun r => Value.ref r.x).toArray)[i]? = some (.ref r.x) := by simp [h]
local macro_rules | `(tactic| k_mem) => `(tactic| first | exact List.mem_cons_self | (refine List.mem_cons_of_mem _ ?_; k_mem) | assumption)
theorem reg_TR_1 : True := by
  k_with "subscriptTail Attribute Name Name ref int" => ((k_dflt (refine' item_N ?zqN ?zqm ?zqx ?zqk ?zqz ?_; (case zqN => k_asm); (case zqm => k_mem); (case zqx => first | assumption | apply_assumption); (case zqk => first | rfl | assumption); (case zqz => first | assumption | (simp only [Array.size_push, List.size_toArray, List.length_map, List.length_append, List.length_cons, List.length_nil]; omega)); k_whole)))
  trivial
theorem reg_TR_2 : True := by
  k_with "call builtin:len" => (((with_reducible show wpAny _ _ (call (Value.builtin "len") [Value.ref _]) _ _ _); k_dflt (refine' len_N ?zqN ?zqm ?zqk ?zqz ?_; (case zqN => k_asm); (case zqm => k_mem); (case zqk => first | assumption | (simp only [Array.size_push, List.size_toArray, List.length_map, List.length_append, List.length_cons, List.length_nil]; rfl)); (case zqz => first | assumption | (simp only [Array.size_push, List.size_toArray, List.length_map, List.length_append, List.length_cons, List.length_nil]; omega)); k_whole; intro tm9 km9)))
  trivial
theorem row_spec (w : World) (news : List (Addr × Obj)) (tr : Addr) (rs : List NdR) (i : Nat) (r : NdR) (k : Int) (t : Tok) (hT : TreeIn w.params news tr rs) (hi : rs[i]? = some r) (hk : k = (i : Int)) (hn : rs.length ≤ 1000) :
    Spec w 220 [.ref tr, .int k t] 20 40 news (fun v n' => n' = news ∧ v = .ref r.x) := by
  (try k_extra "gf")
  obtain ⟨td, tk, R, m1, m2, m3⟩ := hT.open
  (try k_extra "gu")
  have hlt := getElem?_lt hi
  have hx := rows_at hi
  have h0 : 0 ≤ k := by omega
  have h1 : k < (rs.length : Int) := by omega
  unfold Spec
  k_fill
  intro mean mg mb dp un gd cn cs a ccd cl outer A₀ base h₀ L m s Q E B F X N T hk hd hu hret
  refine wpAny_call ?_
  k_dflt ktr_enter
  k_steps
  all_goals exact hret _ _ _ _ (by k_asm) (by k_asm) (done_end (by assumption) (by assumption) (by assumption)) ⟨rfl, rfl⟩
theorem reg_TR_3 : True := by
  k_with "call ref" => (((with_reducible show wpAny _ _ (call (Value.ref 220) _) _ _ _); k_here; k_dflt ((first | with_reducible refine' use_val (row_spec _ _ _ _ _ _ _ _ ?zqhT ?zqhi ?zqhk ?zqhn) ?zqB ?zqF ?zqX ?zqN ?zqT ?zqk ?zqs ?zqd ?zqu ?_ | refine' use_val (row_spec _ _ _ _ _ _ _ _ ?zqhT ?zqhi ?zqhk ?zqhn) ?zqB ?zqF ?zqX ?zqN ?zqT ?zqk ?zqs ?zqd ?zqu ?_); (case zqB => k_asm); (case zqF => k_asm); (case zqX => k_asm); (case zqN => k_asm); (case zqT => k_asm); (case zqhk => first | exact rfl | assumption | omega); (case zqhT => first | assumption | exact TreeIn.mono (by assumption) (by intro pm9 hpm9; repeat (first | exact hpm9 | refine List.mem_cons_of_mem _ ?_))); (case zqhi => assumption); (case zqhn => assumption); (case zqs => first | exact fun _ h => h | (intro pm9 hpm9; (repeat (first | exact hpm9 | refine List.mem_cons_of_mem _ ?_)); done) | first | exact List.forall_mem_nil _ | lcg_sub); (case zqk => first | exact rfl | assumption); (case zqd => ktr_room); (case zqu => ktr_units); k_whole); intro hm9 tkm9 Fm9 Nm9; (try k_sweep); (try dsimp only)))
  trivial
theorem kind_spec (w : World) (news : List (Addr × Obj)) (tr : Addr) (rs : List NdR) (i : Nat) (r : NdR) (k : Int) (t : Tok) (hT : TreeIn w.params news tr rs) (hi : rs[i]? = some r) (hk : k = (i : Int)) (hn : rs.length ≤ 1000) :
    Spec w 297 [.ref tr, .int k t] 30 60 news (fun v n' => n' = news ∧ v = .str r.kind (r.ts 9)) := by
  (try k_extra "gf")
  obtain ⟨td, tkT, R, t1, t2, t3⟩ := hT.open
  (try k_extra "gu")
  (try k_extra "gf")
  obtain ⟨m1, m2, m3, m4, m5⟩ := hT.node hi
  (try k_extra "gu")
  unfold Spec
  k_fill
  intro mean mg mb dp un gd cn cs a ccd cl outer A₀ base h₀ L m s Q E B F X N T hk hd hu hret
  refine wpAny_call ?_
  k_dflt ktr_enter
  k_steps
  all_goals exact hret _ _ _ _ (by k_asm) (by k_asm) (done_end (by assumption) (by assumption) (by assumption)) ⟨rfl, rfl⟩
theorem reg_TR_4 : True := by
  k_with "call ref" => (((with_reducible show wpAny _ _ (call (Value.ref 297) _) _ _ _); k_here; k_dflt ((first | with_reducible refine' use_val (kind_spec _ _ _ _ _ _ _ _ ?zqhT ?zqhi ?zqhk ?zqhn) ?zqB ?zqF ?zqX ?zqN ?zqT ?zqk ?zqs ?zqd ?zqu ?_ | refine' use_val (kind_spec _ _ _ _ _ _ _ _ ?zqhT ?zqhi ?zqhk ?zqhn) ?zqB ?zqF ?zqX ?zqN ?zqT ?zqk ?zqs ?zqd ?zqu ?_); (case zqB => k_asm); (case zqF => k_asm); (case zqX => k_asm); (case zqN => k_asm); (case zqT => k_asm); (case zqhk => first | exact rfl | assumption | omega); (case zqhT => first | assumption | exact TreeIn.mono (by assumption) (by intro pm9 hpm9; repeat (first | exact hpm9 | refine List.mem_cons_of_mem _ ?_))); (case zqhi => assumption); (case zqhn => assumption); (case zqs => first | exact fun _ h => h | (intro pm9 hpm9; (repeat (first | exact hpm9 | refine List.mem_cons_of_mem _ ?_)); done) | first | exact List.forall_mem_nil _ | lcg_sub); (case zqk => first | exact rfl | assumption); (case zqd => ktr_room); (case zqu => ktr_units); k_whole); intro hm9 tkm9 Fm9 Nm9; (try k_sweep); (try dsimp only)))
  trivial
theorem name_spec (w : World) (news : List (Addr × Obj)) (tr : Addr) (rs : List NdR) (i : Nat) (r : NdR) (k : Int) (t : Tok) (hT : TreeIn w.params news tr rs) (hi : rs[i]? = some r) (hk : k = (i : Int)) (hn : rs.length ≤ 1000) :
    Spec w 304 [.ref tr, .int k t] 30 60 news (fun v n' => n' = news ∧ v = .str r.name (r.ts 10)) := by
  (try k_extra "gf")
  obtain ⟨td, tkT, R, t1, t2, t3⟩ := hT.open
  (try k_extra "gu")
  (try k_extra "gf")
  obtain ⟨m1, m2, m3, m4, m5⟩ := hT.node hi
  (try k_extra "gu")
  unfold Spec
  k_fill
  intro mean mg mb dp un gd cn cs a ccd cl outer A₀ base h₀ L m s Q E B F X N T hk hd hu hret
  refine wpAny_call ?_
  k_dflt ktr_enter
  k_steps
  all_goals exact hret _ _ _ _ (by k_asm) (by k_asm) (done_end (by assumption) (by assumption) (by assumption)) ⟨rfl, rfl⟩
theorem reg_TR_5 : True := by
  k_with "call ref" => (((with_reducible show wpAny _ _ (call (Value.ref 304) _) _ _ _); k_here; k_dflt ((first | with_reducible refine' use_val (name_spec _ _ _ _ _ _ _ _ ?zqhT ?zqhi ?zqhk ?zqhn) ?zqB ?zqF ?zqX ?zqN ?zqT ?zqk ?zqs ?zqd ?zqu ?_ | refine' use_val (name_spec _ _ _ _ _ _ _ _ ?zqhT ?zqhi ?zqhk ?zqhn) ?zqB ?zqF ?zqX ?zqN ?zqT ?zqk ?zqs ?zqd ?zqu ?_); (case zqB => k_asm); (case zqF => k_asm); (case zqX => k_asm); (case zqN => k_asm); (case zqT => k_asm); (case zqhk => first | exact rfl | assumption | omega); (case zqhT => first | assumption | exact TreeIn.mono (by assumption) (by intro pm9 hpm9; repeat (first | exact hpm9 | refine List.mem_cons_of_mem _ ?_))); (case zqhi => assumption); (case zqhn => assumption); (case zqs => first | exact fun _ h => h | (intro pm9 hpm9; (repeat (first | exact hpm9 | refine List.mem_cons_of_mem _ ?_)); done) | first | exact List.forall_mem_nil _ | lcg_sub); (case zqk => first | exact rfl | assumption); (case zqd => ktr_room); (case zqu => ktr_units); k_whole); intro hm9 tkm9 Fm9 Nm9; (try k_sweep); (try dsimp only)))
  trivial
theorem uri_spec (w : World) (news : List (Addr × Obj)) (tr : Addr) (rs : List NdR) (i : Nat) (r : NdR) (k : Int) (t : Tok) (hT : TreeIn w.params news tr rs) (hi : rs[i]? = some r) (hk : k = (i : Int)) (hn : rs.length ≤ 1000) :
    Spec w 311 [.ref tr, .int k t] 30 60 news (fun v n' => n' = news ∧ v = .str r.uri (r.ts 11)) := by
  (try k_extra "gf")
  obtain ⟨td, tkT, R, t1, t2, t3⟩ := hT.open
  (try k_extra "gu")
  (try k_extra "gf")
  obtain ⟨m1, m2, m3, m4, m5⟩ := hT.node hi
  (try k_extra "gu")
  unfold Spec
  k_fill
  intro mean mg mb dp un gd cn cs a ccd cl outer A₀ base h₀ L m s Q E B F X N T hk hd hu hret
  refine wpAny_call ?_
  k_dflt ktr_enter
  k_steps
  all_goals exact hret _ _ _ _ (by k_asm) (by k_asm) (done_end (by assumption) (by assumption) (by assumption)) ⟨rfl, rfl⟩
theorem reg_TR_6 : True := by
  k_with "call ref" => (((with_reducible show wpAny _ _ (call (Value.ref 311) _) _ _ _); k_here; k_dflt ((first | with_reducible refine' use_val (uri_spec _ _ _ _ _ _ _ _ ?zqhT ?zqhi ?zqhk ?zqhn) ?zqB ?zqF ?zqX ?zqN ?zqT ?zqk ?zqs ?zqd ?zqu ?_ | refine' use_val (uri_spec _ _ _ _ _ _ _ _ ?zqhT ?zqhi ?zqhk ?zqhn) ?zqB ?zqF ?zqX ?zqN ?zqT ?zqk ?zqs ?zqd ?zqu ?_); (case zqB => k_asm); (case zqF => k_asm); (case zqX => k_asm); (case zqN => k_asm); (case zqT => k_asm); (case zqhk => first | exact rfl | assumption | omega); (case zqhT => first | assumption | exact TreeIn.mono (by assumption) (by intro pm9 hpm9; repeat (first | exact hpm9 | refine List.mem_cons_of_mem _ ?_))); (case zqhi => assumption); (case zqhn => assumption); (case zqs => first | exact fun _ h => h | (intro pm9 hpm9; (repeat (first | exact hpm9 | refine List.mem_cons_of_mem _ ?_)); done) | first | exact List.forall_mem_nil _ | lcg_sub); (case zqk => first | exact rfl | assumption); (case zqd => ktr_room); (case zqu => ktr_units); k_whole); intro hm9 tkm9 Fm9 Nm9; (try k_sweep); (try dsimp only)))
  trivial
theorem value_spec (w : World) (news : List (Addr × Obj)) (tr : Addr) (rs : List NdR) (i : Nat) (r : NdR) (k : Int) (t : Tok) (hT : TreeIn w.params news tr rs) (hi : rs[i]? = some r) (hk : k = (i : Int)) (hn : rs.length ≤ 1000) :
    Spec w 325 [.ref tr, .int k t] 30 60 news (fun v n' => n' = news ∧ v = .str r.value (r.ts 13)) := by
  (try k_extra "gf")
  obtain ⟨td, tkT, R, t1, t2, t3⟩ := hT.open
  (try k_extra "gu")
  (try k_extra "gf")
  obtain ⟨m1, m2, m3, m4, m5⟩ := hT.node hi
  (try k_extra "gu")
  unfold Spec
  k_fill
  intro mean mg mb dp un gd cn cs a ccd cl outer A₀ base h₀ L m s Q E B F X N T hk hd hu hret
  refine wpAny_call ?_
  k_dflt ktr_enter
  k_steps
  all_goals exact hret _ _ _ _ (by k_asm) (by k_asm) (done_end (by assumption) (by assumption) (by assumption)) ⟨rfl, rfl⟩
theorem reg_TR_7 : True := by
  k_with "call ref" => (((with_reducible show wpAny _ _ (call (Value.ref 325) _) _ _ _); k_here; k_dflt ((first | with_reducible refine' use_val (value_spec _ _ _ _ _ _ _ _ ?zqhT ?zqhi ?zqhk ?zqhn) ?zqB ?zqF ?zqX ?zqN ?zqT ?zqk ?zqs ?zqd ?zqu ?_ | refine' use_val (value_spec _ _ _ _ _ _ _ _ ?zqhT ?zqhi ?zqhk ?zqhn) ?zqB ?zqF ?zqX ?zqN ?zqT ?zqk ?zqs ?zqd ?zqu ?_); (case zqB => k_asm); (case zqF => k_asm); (case zqX => k_asm); (case zqN => k_asm); (case zqT => k_asm); (case zqhk => first | exact rfl | assumption | omega); (case zqhT => first | assumption | exact TreeIn.mono (by assumption) (by intro pm9 hpm9; repeat (first | exact hpm9 | refine List.mem_cons_of_mem _ ?_))); (case zqhi => assumption); (case zqhn => assumption); (case zqs => first | exact fun _ h => h | (intro pm9 hpm9; (repeat (first | exact hpm9 | refine List.mem_cons_of_mem _ ?_)); done) | first | exact List.forall_mem_nil _ | lcg_sub); (case zqk => first | exact rfl | assumption); (case zqd => ktr_room); (case zqu => ktr_units); k_whole); intro hm9 tkm9 Fm9 Nm9; (try k_sweep); (try dsimp only)))
  trivial

section
variable {prog : Program} {w : World} {A : Around} {E : Value → Shared → Prop} {s : Shared} {h₀ : Heap} {L : Addr} {m : Str → Option Value} {news : List (Addr × Obj)} {Q : Value → Shared → Prop}
theorem copy_N {l : Addr} {its : Array Value} {n : Nat} (F : Fr h₀ L s.heap m) (N : News h₀ L s.heap news) (hm : (l, listOf its n) ∈ news)
    (h : ∀ D c h', Fr h₀ L h' m → News h₀ L h' ((D, listOf its c) :: news) → (∀ q ∈ news, q.1 < D) → Q (.ref D) { s with heap := h' }) (hz : its.size ≤ 16777216) : wpAny (model prog w) A (call (.type "list") [.ref l]) Q E s :=
  list_copyK F N ⟨_, (N _ hm).1, rfl, n, rfl⟩ h hz
end
theorem reg_TC_1 : True := by
  k_with "call type:list" => (((with_reducible show wpAny _ _ (call (Value.type _) [Value.ref _]) _ _ _); k_dflt (refine' copy_N ?zqF ?zqN ?zqm ?_ ?zqz; (case zqF => k_asm); (case zqN => k_asm); (case zqm => k_mem); (case zqz => (simp only [List.size_toArray]; omega)); k_whole); intro D' c' h' F' N' l1; (try k_sweep)))
  trivial
theorem children_spec (w : World) (news : List (Addr × Obj)) (tr : Addr) (rs : List NdR) (i : Nat) (r : NdR) (k : Int) (t : Tok) (hT : TreeIn w.params news tr rs) (hi : rs[i]? = some r) (hk : k = (i : Int)) (hn : rs.length ≤ 1000) (hz : r.chv.length ≤ 1000) :
    Spec w 339 [.ref tr, .int k t] 30 60 news (fun v n' => ∃ l c, v = .ref l ∧ n' = (l, listOf r.chv.toArray c) :: news ∧ ∀ p ∈ news, p.1 < l) := by
  (try k_extra "gf")
  obtain ⟨td, tkT, R, t1, t2, t3⟩ := hT.open
  (try k_extra "gu")
  (try k_extra "gf")
  obtain ⟨m1, m2, m3, m4, m5⟩ := hT.node hi
  (try k_extra "gu")
  unfold Spec
  k_fill
  intro mean mg mb dp un gd cn cs a ccd cl outer A₀ base h₀ L m s Q E B F X N T hk hd hu hret
  refine wpAny_call ?_
  k_dflt ktr_enter
  k_steps
  all_goals exact hret _ _ _ _ (by k_asm) (by k_asm) (done_end (by assumption) (by assumption) (by assumption)) ⟨_, _, rfl, rfl, by assumption⟩
theorem attributes_spec (w : World) (news : List (Addr × Obj)) (tr : Addr) (rs : List NdR) (i : Nat) (r : NdR) (k : Int) (t : Tok) (hT : TreeIn w.params news tr rs) (hi : rs[i]? = some r) (hk : k = (i : Int)) (hn : rs.length ≤ 1000) (hz : r.atv.length ≤ 1000) :
    Spec w 346 [.ref tr, .int k t] 30 60 news (fun v n' => ∃ l c, v = .ref l ∧ n' = (l, listOf r.atv.toArray c) :: news ∧ ∀ p ∈ news, p.1 < l) := by
  (try k_extra "gf")
  obtain ⟨td, tkT, R, t1, t2, t3⟩ := hT.open
  (try k_extra "gu")
  (try k_extra "gf")
  obtain ⟨m1, m2, m3, m4, m5⟩ := hT.node hi
  (try k_extra "gu")
  unfold Spec
  k_fill
  intro mean mg mb dp un gd cn cs a ccd cl outer A₀ base h₀ L m s Q E B F X N T hk hd hu hret
  refine wpAny_call ?_
  k_dflt ktr_enter
  k_steps
  all_goals exact hret _ _ _ _ (by k_asm) (by k_asm) (done_end (by assumption) (by assumption) (by assumption)) ⟨_, _, rfl, rfl, by assumption⟩
theorem namespaces_spec (w : World) (news : List (Addr × Obj)) (tr : Addr) (rs : List NdR) (i : Nat) (r : NdR) (k : Int) (t : Tok) (hT : TreeIn w.params news tr rs) (hi : rs[i]? = some r) (hk : k = (i : Int)) (hn : rs.length ≤ 1000) :
    Spec w 353 [.ref tr, .int k t] 30 60 news (fun v n' => ∃ l c, v = .ref l ∧ n' = (l, listOf #[] c) :: news ∧ ∀ p ∈ news, p.1 < l) := by
  (try k_extra "gf")
  obtain ⟨td, tkT, R, t1, t2, t3⟩ := hT.open
  (try k_extra "gu")
  (try k_extra "gf")
  obtain ⟨m1, m2, m3, m4, m5⟩ := hT.node hi
  (try k_extra "gu")
  have hz : (#[] : Array Value).size ≤ 16777216 := by decide
  unfold Spec
  k_fill
  intro mean mg mb dp un gd cn cs a ccd cl outer A₀ base h₀ L m s Q E B F X N T hk hd hu hret
  refine wpAny_call ?_
  k_dflt ktr_enter
  k_steps
  all_goals exact hret _ _ _ _ (by k_asm) (by k_asm) (done_end (by assumption) (by assumption) (by assumption)) ⟨_, _, rfl, rfl, by assumption⟩
theorem reg_TC_2 : True := by
  k_with "call ref" => (((with_reducible show wpAny _ _ (call (Value.ref 339) _) _ _ _); k_here; k_dflt ((first | with_reducible refine' use_lst (children_spec _ _ _ _ _ _ _ _ ?zqhT ?zqhi ?zqhk ?zqhn ?zqhz) ?zqB ?zqF ?zqX ?zqN ?zqT ?zqk ?zqd ?zqu ?_ | refine' use_lst (children_spec _ _ _ _ _ _ _ _ ?zqhT ?zqhi ?zqhk ?zqhn ?zqhz) ?zqB ?zqF ?zqX ?zqN ?zqT ?zqk ?zqd ?zqu ?_); (case zqB => k_asm); (case zqF => k_asm); (case zqX => k_asm); (case zqN => k_asm); (case zqT => k_asm); (case zqhk => first | exact rfl | assumption | omega); (case zqhT => first | assumption | exact TreeIn.mono (by assumption) (by intro pm9 hpm9; repeat (first | exact hpm9 | refine List.mem_cons_of_mem _ ?_))); (case zqhi => assumption); (case zqhn => assumption); (case zqhz => assumption); (case zqk => first | exact rfl | assumption); (case zqd => ktr_room); (case zqu => ktr_units); k_whole); intro lm9 cm9 hm9 tkm9 Fm9 Nm9 Gm9 l1; (try k_lt l1); (try k_sweep); (try dsimp only)))
  trivial
theorem reg_TC_3 : True := by
  k_with "call ref" => (((with_reducible show wpAny _ _ (call (Value.ref 346) _) _ _ _); k_here; k_dflt ((first | with_reducible refine' use_lst (attributes_spec _ _ _ _ _ _ _ _ ?zqhT ?zqhi ?zqhk ?zqhn ?zqhz) ?zqB ?zqF ?zqX ?zqN ?zqT ?zqk ?zqd ?zqu ?_ | refine' use_lst (attributes_spec _ _ _ _ _ _ _ _ ?zqhT ?zqhi ?zqhk ?zqhn ?zqhz) ?zqB ?zqF ?zqX ?zqN ?zqT ?zqk ?zqd ?zqu ?_); (case zqB => k_asm); (case zqF => k_asm); (case zqX => k_asm); (case zqN => k_asm); (case zqT => k_asm); (case zqhk => first | exact rfl | assumption | omega); (case zqhT => first | assumption | exact TreeIn.mono (by assumption) (by intro pm9 hpm9; repeat (first | exact hpm9 | refine List.mem_cons_of_mem _ ?_))); (case zqhi => assumption); (case zqhn => assumption); (case zqhz => assumption); (case zqk => first | exact rfl | assumption); (case zqd => ktr_room); (case zqu => ktr_units); k_whole); intro lm9 cm9 hm9 tkm9 Fm9 Nm9 Gm9 l1; (try k_lt l1); (try k_sweep); (try dsimp only)))
  trivial
theorem reg_TC_4 : True := by
  k_with "call ref" => (((with_reducible show wpAny _ _ (call (Value.ref 353) _) _ _ _); k_here; k_dflt ((first | with_reducible refine' use_lst (namespaces_spec _ _ _ _ _ _ _ _ ?zqhT ?zqhi ?zqhk ?zqhn) ?zqB ?zqF ?zqX ?zqN ?zqT ?zqk ?zqd ?zqu ?_ | refine' use_lst (namespaces_spec _ _ _ _ _ _ _ _ ?zqhT ?zqhi ?zqhk ?zqhn) ?zqB ?zqF ?zqX ?zqN ?zqT ?zqk ?zqd ?zqu ?_); (case zqB => k_asm); (case zqF => k_asm); (case zqX => k_asm); (case zqN => k_asm); (case zqT => k_asm); (case zqhk => first | exact rfl | assumption | omega); (case zqhT => first | assumption | exact TreeIn.mono (by assumption) (by intro pm9 hpm9; repeat (first | exact hpm9 | refine List.mem_cons_of_mem _ ?_))); (case zqhi => assumption); (case zqhn => assumption); (case zqk => first | exact rfl | assumption); (case zqd => ktr_room); (case zqu => ktr_units); k_whole); intro lm9 cm9 hm9 tkm9 Fm9 Nm9 Gm9 l1; (try k_lt l1); (try k_sweep); (try dsimp only)))
  trivial

local macro_rules | `(tactic| k_all) => `(tactic| with_reducible assumption)
inductive NewRawP (w : World) (tr td R : Addr) (tk : Tok) (xs : List Value) (n : Nat) (tail : List (Addr × Obj)) (kind name uri loc value : Str) (t1 t2 t3 t4 t5 : Tok) (par v : Value) (n' : List (Addr × Obj)) : Prop
  | mk (x d c t nn : Addr) (k0 k1 k2 k3 k4 k5 k6 k7 k8 tk' : Tok) (k' : Int) (h1 : v = .int k' tk') (h2 : k' = xs.length) (h3 : n' = (nn, listOf #[] 0) :: (t, listOf #[] 0) :: (c, listOf #[] 0) :: (x, instObj 188 d) :: (d, dictOf [keyE w.params (Str.ofString "kind") k0 (.str kind t1), keyE w.params (Str.ofString "name") k1 (.str name t2), keyE w.params (Str.ofString "uri") k2 (.str uri t3), keyE w.params (Str.ofString "local") k3 (.str loc t4), keyE w.params (Str.ofString "value") k4 (.str value t5), keyE w.params (Str.ofString "parent") k5 par, keyE w.params (Str.ofString "children") k6 (.ref c), keyE w.params (Str.ofString "attributes") k7 (.ref t), keyE w.params (Str.ofString "namespaces") k8 (.ref nn)] 9) :: (tr, instObj 377 td) :: (td, dictOf [keyE w.params (Str.ofString "rows") tk (.ref R)] 1) :: (R, listOf (xs.toArray.push (.ref x)) (n + 1)) :: tail) (h4 : (@LT.lt Nat _ d x ∧ @LT.lt Nat _ x c ∧ @LT.lt Nat _ c t ∧ @LT.lt Nat _ t nn ∧ @LT.lt Nat _ tr d ∧ @LT.lt Nat _ td d ∧ @LT.lt Nat _ R d ∧ AllLt d tail))
theorem new_row_raw (w : World) (tr td R : Addr) (tk : Tok) (xs : List Value) (n : Nat) (tail : List (Addr × Obj)) (kind name uri loc value : Str) (t1 t2 t3 t4 t5 : Tok) (par : Value)
    (h1 : @Ne Nat tr R) (h2 : @Ne Nat td R) (h3 : ∀ p ∈ tail, p.1 ≠ R) (hz : xs.length ≤ 1000) :
    Spec w 213 [.ref tr, .str kind t1, .str name t2, .str uri t3, .str loc t4, .str value t5, par] 20 40
      ((tr, instObj 377 td) :: (td, dictOf [keyE w.params (Str.ofString "rows") tk (.ref R)] 1) :: (R, listOf xs.toArray n) :: tail)
      (NewRawP w tr td R tk xs n tail kind name uri loc value t1 t2 t3 t4 t5 par) := by
  unfold Spec
  k_fill
  intro mean mg mb dp un gd cn cs a ccd cl outer A₀ base h₀ L m s Q E B F X N T hk hd hu hret
  refine wpAny_call ?_
  k_dflt ktr_enter
  k_steps
  all_goals (refine hret _ _ _ _ (by k_asm) (by k_asm) (done_end (by assumption) (by assumption) (by assumption)) ?_)
  all_goals (refine ⟨_, _, _, _, _, _, _, _, _, _, _, _, _, _, _, _, rfl, ?_, rfl, ?_⟩)
  all_goals first | (exact ⟨by omega, by omega, by omega, by omega, by omega, by omega, by omega, by tbn_find⟩) | omega
theorem parentsK (w : World) : ∃ t1 t2, (T0.heap_1 w.params).lookup 171 = some ⟨.type "tuple", none, .seq #[.str (Str.ofString "root") t1, .str (Str.ofString "element") t2] 0, #[]⟩ := ⟨_, _, by with_unfolding_all rfl⟩
abbrev noParent (x : Str) : Bool := !(([Str.ofString "root", Str.ofString "element"] : List Str).any (· == x))
theorem notin_parents {prog : Program} {w : World} {A : Around} {E : Value → Shared → Prop} {s : Shared} {h₀ : Heap} {L : Addr} {m : Str → Option Value} {x : Str} {u : Tok} {b : Bool} {Q : Value → Shared → Prop} (F : Fr h₀ L s.heap m) (X₀ : (T0.heap_1 w.params).In h₀)
    (hb : noParent x = b) (h : Q (.bool b) s) : wpAny (model prog w) A (compareOp .NotIn (.str x u) (.ref 171)) Q E s := by
  (try k_extra "gf")
  obtain ⟨t1, t2, e⟩ := parentsK w
  (try k_extra "gu")
  refine notin_tuple_strs (ys := [Str.ofString "root", Str.ofString "element"]) (tupK (l := [.str (Str.ofString "root") t1, .str (Str.ofString "element") t2]) (X₀.keeps F.keep) e) (.cons _ _ (.cons _ _ .nil)) ?_
  rw [← hb] at h
  exact h
theorem reg_BR_1 : True := by
  k_with "compareOp NotIn str ref" => (((with_reducible show wpAny _ _ (compareOp CmpOp.NotIn _ (Value.ref 171)) _ _ _); k_dflt (refine' notin_parents ?zqF ?zqX ?zqb ?_; (case zqF => k_asm); (case zqX => k_asm); (case zqb => assumption); k_whole)))
  trivial
theorem Spec.pre {w : World} {f : Addr} {vs : List Value} {dm um : Nat} {nc news : List (Addr × Obj)} {post : Value → List (Addr × Obj) → Prop} (S : Spec w f vs dm um nc post) (h1 : ∀ p ∈ nc, p ∈ news) (h2 : ∀ p ∈ news, p ∈ nc) : Spec w f vs dm um news post :=
  fun mean mg mb dp un gd cn cs a ccd cl outer A₀ base h₀ L m s Q E B F X N T hk hd hu hret => S mean mg mb dp un gd cn cs a ccd cl outer A₀ base h₀ L m s Q E B F X (fun p hp => N p (h1 p hp)) T hk hd hu fun r n' h' tk' F' N' D p => by
    have e : ∀ b : Addr, b ∈ nc.map (·.1) ↔ b ∈ news.map (·.1) := fun b => ⟨fun h => by obtain ⟨q, hq, rfl⟩ := List.mem_map.mp h; exact List.mem_map_of_mem (h1 q hq), fun h => by obtain ⟨q, hq, rfl⟩ := List.mem_map.mp h; exact List.mem_map_of_mem (h2 q hq)⟩
    exact hret r n' h' tk' F' N' ⟨fun b o q hn => D.1 b o q fun h => hn ((e b).mp h), fun q hq => (D.2 q hq).imp (e _).mp id⟩ p
def NdR.adr (r : NdR) : List Addr := [r.x, r.d, r.c, r.t, r.n]
theorem NdR.cell {P : Params} {r : NdR} {a : Addr} (h : a ∈ r.adr) : ∃ o, (a, o) ∈ r.cells P := by
  simp only [NdR.adr, List.mem_cons, List.not_mem_nil, or_false] at h
  rcases h with rfl | rfl | rfl | rfl | rfl
  · exact ⟨_, List.Mem.head _⟩
  · exact ⟨_, List.Mem.tail _ (List.Mem.head _)⟩
  · exact ⟨_, List.Mem.tail _ (List.Mem.tail _ (List.Mem.head _))⟩
  · exact ⟨_, List.Mem.tail _ (List.Mem.tail _ (List.Mem.tail _ (List.Mem.head _)))⟩
  · exact ⟨_, List.Mem.tail _ (List.Mem.tail _ (List.Mem.tail _ (List.Mem.tail _ (List.Mem.head _))))⟩
theorem NdR.cells_adr (P : Params) (r : NdR) : (r.cells P).map (·.1) = r.adr := rfl
/-- a row that was just made -/
structure NewRow (r : NdR) (kind name uri loc value : Str) (par : Value) : Prop where
  kind : r.kind = kind
  name : r.name = name
  uri : r.uri = uri
  loc : r.loc = loc
  value : r.value = value
  par : r.par = par
  chv : r.chv = []
  atv : r.atv = []
  ec : r.ec = 0
  et : r.et = 0
  nodup : r.adr.Nodup
inductive NewRowP (w : World) (tr td R : Addr) (tk : Tok) (xs : List Value) (n : Nat) (kind name uri loc value : Str) (par v : Value) (n' : List (Addr × Obj)) : Prop
  | mk (r : NdR) (tk' : Tok) (h1 : v = .int xs.length tk') (h2 : NewRow r kind name uri loc value par) (h3 : n' = r.cells w.params ++ [(tr, instObj 377 td), (td, dictOf [keyE w.params (Str.ofString "rows") tk (.ref R)] 1), (R, listOf (xs ++ [Value.ref r.x]).toArray (n + 1))]) (h4 : ∀ a ∈ r.adr, a ∉ [tr, td, R])
theorem new_row_spec (w : World) (tr td R : Addr) (tk : Tok) (xs : List Value) (n : Nat) (kind name uri loc value : Str) (t1 t2 t3 t4 t5 : Tok) (par : Value) (h1 : @Ne Nat tr R) (h2 : @Ne Nat td R) (hz : xs.length ≤ 1000) :
    Spec w 213 [.ref tr, .str kind t1, .str name t2, .str uri t3, .str loc t4, .str value t5, par] 20 40 [(tr, instObj 377 td), (td, dictOf [keyE w.params (Str.ofString "rows") tk (.ref R)] 1), (R, listOf xs.toArray n)]
      (NewRowP w tr td R tk xs n kind name uri loc value par) := by
  refine (new_row_raw w tr td R tk xs n [] kind name uri loc value t1 t2 t3 t4 t5 par h1 h2 (List.forall_mem_nil _) hz).conseq ?_
  intro v n' zr2
  (try k_extra "gf")
  obtain ⟨x, d, c, t, nn, k0, k1, k2, k3, k4, k5, k6, k7, k8, tk', k', rfl, hk', rfl, a1, a2, a3, a4, a5, a6, a7, _⟩ := zr2
  (try k_extra "gu")
  subst hk'
  refine ⟨NdR.cells w.params ⟨x, d, c, t, nn, fun i => match i with | 0 => k0 | 1 => k1 | 2 => k2 | 3 => k3 | 4 => k4 | 5 => k5 | 6 => k6 | 7 => k7 | 8 => k8 | 9 => t1 | 10 => t2 | 11 => t3 | 12 => t4 | _ => t5, kind, name, uri, loc, value, par, [], [], 0, 0⟩ ++ [(tr, instObj 377 td), (td, dictOf [keyE w.params (Str.ofString "rows") tk (.ref R)] 1), (R, listOf (xs ++ [Value.ref x]).toArray (n + 1))], ?_, ⟨x, d, c, t, nn, fun i => match i with | 0 => k0 | 1 => k1 | 2 => k2 | 3 => k3 | 4 => k4 | 5 => k5 | 6 => k6 | 7 => k7 | 8 => k8 | 9 => t1 | 10 => t2 | 11 => t3 | 12 => t4 | _ => t5, kind, name, uri, loc, value, par, [], [], 0, 0⟩, tk', rfl, ⟨rfl, rfl, rfl, rfl, rfl, rfl, rfl, rfl, rfl, rfl, ?_⟩, rfl, ?_⟩
  · intro p hp
    simp only [NdR.cells, List.cons_append, List.nil_append, List.mem_cons, List.not_mem_nil, or_false] at hp
    simp only [List.mem_cons, List.push_toArray]
    rcases hp with rfl | rfl | rfl | rfl | rfl | rfl | rfl | rfl <;> simp [NdR.row]
  · have b1 : d ≠ x := Nat.ne_of_lt a1
    have b2 : x ≠ c := Nat.ne_of_lt a2
    have b3 : c ≠ t := Nat.ne_of_lt a3
    have b4 : t ≠ nn := Nat.ne_of_lt a4
    have b5 : d ≠ c := Nat.ne_of_lt (Nat.lt_trans a1 a2)
    have b6 : x ≠ t := Nat.ne_of_lt (Nat.lt_trans a2 a3)
    have b7 : c ≠ nn := Nat.ne_of_lt (Nat.lt_trans a3 a4)
    have b8 : d ≠ t := Nat.ne_of_lt (Nat.lt_trans a1 (Nat.lt_trans a2 a3))
    have b9 : x ≠ nn := Nat.ne_of_lt (Nat.lt_trans a2 (Nat.lt_trans a3 a4))
    have b10 : d ≠ nn := Nat.ne_of_lt (Nat.lt_trans a1 (Nat.lt_trans a2 (Nat.lt_trans a3 a4)))
    simp [NdR.adr, b1.symm, b2, b3, b4, b5, b6, b7, b8, b9, b10]
  · intro a ha hm
    have q : @LE.le Nat _ d a := by
      simp only [NdR.adr, List.mem_cons, List.not_mem_nil, or_false] at ha
      rcases ha with rfl | rfl | rfl | rfl | rfl
      · exact Nat.le_of_lt a1
      · exact Nat.le_refl _
      · exact Nat.le_of_lt (Nat.lt_trans a1 a2)
      · exact Nat.le_of_lt (Nat.lt_trans a1 (Nat.lt_trans a2 a3))
      · exact Nat.le_of_lt (Nat.lt_trans a1 (Nat.lt_trans a2 (Nat.lt_trans a3 a4)))
    simp only [List.mem_cons, List.not_mem_nil, or_false] at hm
    rcases hm with rfl | rfl | rfl
    · exact Nat.lt_irrefl _ (Nat.lt_of_lt_of_le a5 q)
    · exact Nat.lt_irrefl _ (Nat.lt_of_lt_of_le a6 q)
    · exact Nat.lt_irrefl _ (Nat.lt_of_lt_of_le a7 q)

theorem reg_BS_1 : True := by
  k_with "call ref" => (((with_reducible show wpAny _ _ (call (Value.ref 213) _) _ _ _); k_here; k_dflt (refine' use_part (new_row_spec _ _ _ _ _ _ _ _ _ _ _ _ _ _ _ _ _ _ ?zqh1 ?zqh2 ?zqhz) ?zqB ?zqF ?zqX ?zqN ?zqT ?zqk ?zqs ?zqr ?zqo ?zqd ?zqu ?_; (case zqB => k_asm); (case zqF => k_asm); (case zqX => k_asm); (case zqN => k_asm); (case zqT => k_asm); (case zqs => lcg_sub); (case zqr => exact fun _ h => List.mem_cons.mpr ((List.mem_cons.mp h).imp id fun h => List.mem_cons_of_mem _ (List.mem_cons_of_mem _ (List.mem_cons_of_mem _ h)))); (case zqh1 => assumption); (case zqh2 => assumption); (case zqhz => assumption); (case zqo => assumption); (case zqk => first | exact rfl | assumption); (case zqd => ktr_room); (case zqu => ktr_units); k_whole); intro rm9 nm9 hm9 tkm9 Fm9 Nm9 Om9 pm9; obtain ⟨rm9, t90, em9, qm9, fm9, lm9⟩ := pm9; subst em9; subst fm9; simp only [NdR.cells, List.cons_append, List.nil_append] at Nm9; (have om9 := OffAll.of (Om9 _ List.mem_cons_self)); simp only [NdR.cells, List.cons_append, List.nil_append, OffAll, and_true] at om9; (try k_sweep); (try dsimp only)))
  trivial
inductive AddRawP (w : World) (tr td R : Addr) (tk : Tok) (xs chv : List Value) (n ec : Nat) (tail : List (Addr × Obj)) (rc : Addr) (kind name uri loc value : Str) (par v : Value) (n' : List (Addr × Obj)) : Prop
  | mk (r : NdR) (tk' : Tok) (h1 : v = .int xs.length tk') (h2 : NewRow r kind name uri loc value par) (h3 : n' = (r.x, instObj 188 r.d) :: (r.d, r.row w.params) :: (r.c, listOf r.chv.toArray r.ec) :: (r.t, listOf r.atv.toArray r.et) :: (r.n, listOf #[] 0) :: (tr, instObj 377 td) :: (td, dictOf [keyE w.params (Str.ofString "rows") tk (.ref R)] 1) :: (R, listOf (xs ++ [Value.ref r.x]).toArray (n + 1)) :: (rc, listOf (chv.toArray.push (.int xs.length tk')) (ec + 1)) :: tail) (h4 : (∀ a ∈ r.adr, a ∉ [tr, td, R])) (h5 : (∀ a ∈ r.adr, a ≠ rc)) (h6 : ∀ p ∈ tail, p.1 ∉ r.adr)
theorem add_child_raw (w : World) (tr td R : Addr) (tk : Tok) (xs chv : List Value) (n ec : Nat) (tail : List (Addr × Obj)) (rs : List NdR) (i : Nat) (rp : NdR) (k : Int) (tp : Tok) (kind name uri loc value : Str) (t1 t2 t3 t4 t5 : Tok)
    (h1 : @Ne Nat tr R) (h2 : @Ne Nat td R) (h4 : @Ne Nat tr rp.c) (h5 : @Ne Nat td rp.c) (h6 : @Ne Nat R rp.c) (h7 : ∀ p ∈ tail, p.1 ≠ rp.c) (h8 : ∀ p ∈ (rp.c, listOf chv.toArray ec) :: tail, p.1 ∉ [tr, td, R]) (hz : xs.length ≤ 1000) (hcz : chv.length ≤ 1000)
    (hx : xs[i]? = some (.ref rp.x)) (hi : rs[i]? = some rp) (hk : k = (i : Int)) (hn : rs.length ≤ 1000)
    (hT : TreeIn w.params ((rp.c, listOf chv.toArray ec) :: (tr, instObj 377 td) :: (td, dictOf [keyE w.params (Str.ofString "rows") tk (.ref R)] 1) :: (R, listOf xs.toArray n) :: tail) tr rs) (hpk : noParent rp.kind = false)
    (m1 : (rp.x, instObj 188 rp.d) ∈ tail) (m2 : (rp.d, rp.row w.params) ∈ tail) :
    Spec w 234 [.ref tr, .int k tp, .str kind t1, .str name t2, .str uri t3, .str loc t4, .str value t5] 60 100
      ((rp.c, listOf chv.toArray ec) :: (tr, instObj 377 td) :: (td, dictOf [keyE w.params (Str.ofString "rows") tk (.ref R)] 1) :: (R, listOf xs.toArray n) :: tail)
      (AddRawP w tr td R tk xs chv n ec tail rp.c kind name uri loc value (.int k tp)) := by
  have hx9 : ∀ v : Value, ((xs ++ [v]).toArray)[i]? = some (.ref rp.x) := fun v => by
    have := getElem?_lt hx
    rw [List.getElem?_toArray, List.getElem?_append_left this]
    exact hx
  unfold Spec
  k_fill
  intro mean mg mb dp un gd cn cs a ccd cl outer A₀ base h₀ L m s Q E B F X N T hk hd hu hret
  refine wpAny_call ?_
  k_dflt ktr_enter
  k_steps
  all_goals (rename NewRow _ _ _ _ _ _ _ => q9)
  all_goals (rename (∀ p ∈ (rp.c, listOf chv.toArray ec) :: tail, ∀ (q : Addr × Obj), q ∈ _ → p.1 ≠ q.1) => O9)
  all_goals (rename (∀ a ∈ NdR.adr _, a ∉ _) => l9)
  all_goals (refine hret _ _ _ _ (by k_asm) (by k_asm) (done_end (by assumption) (by assumption) (by assumption)) ?_)
  all_goals (refine ⟨_, _, rfl, q9, rfl, l9, fun a ha e => ?_, fun p hp hm => ?_⟩)
  · (try k_extra "gf")
    obtain ⟨o, ho⟩ := NdR.cell (P := w.params) ha
    (try k_extra "gu")
    exact O9 _ List.mem_cons_self _ (List.mem_append_left _ ho) e.symm
  · (try k_extra "gf")
    obtain ⟨o, ho⟩ := NdR.cell (P := w.params) hm
    (try k_extra "gu")
    exact O9 _ (List.mem_cons_of_mem _ hp) _ (List.mem_append_left _ ho) rfl

def treeAdr (tr td R : Addr) (rs : List NdR) : List Addr := tr :: td :: R :: rs.flatMap NdR.adr
theorem treeL_adr (P : Params) (tr td : Addr) (tk : Tok) (R : Addr) (rs : List NdR) : (treeL P tr td tk R rs).map (·.1) = treeAdr tr td R rs := by
  simp only [treeL, treeAdr, List.map_cons, List.map_flatMap, NdR.cells_adr]
def Dis (tr td R : Addr) (rs : List NdR) : Prop := (treeAdr tr td R rs).Nodup
theorem nodup_fst {l : List (Addr × Obj)} (h : (l.map (·.1)).Nodup) {p q : Addr × Obj} (hp : p ∈ l) (hq : q ∈ l) (e : p.1 = q.1) : p = q := by
  induction l with
  | nil => cases hp
  | cons a r ih =>
    rw [List.map_cons, List.nodup_cons] at h
    rcases List.mem_cons.mp hp with rfl | hp'
    · rcases List.mem_cons.mp hq with rfl | hq'
      · rfl
      · exact absurd (e ▸ List.mem_map_of_mem hq') h.1
    · rcases List.mem_cons.mp hq with rfl | hq'
      · exact absurd (e ▸ List.mem_map_of_mem hp') h.1
      · exact ih h.2 hp' hq'
structure DisF (tr td R : Addr) (rs : List NdR) : Prop where
  h1 : tr ≠ td
  h2 : tr ≠ R
  h3 : td ≠ R
  h4 : ∀ r ∈ rs, ∀ a ∈ r.adr, a ≠ tr ∧ a ≠ td ∧ a ≠ R
  h5 : ∀ r ∈ rs, r.adr.Nodup
  h6 : rs.Pairwise fun r₁ r₂ => ∀ a ∈ r₁.adr, ∀ b ∈ r₂.adr, a ≠ b
theorem dis_iff {tr td R : Addr} {rs : List NdR} : Dis tr td R rs ↔ DisF tr td R rs := by
  unfold Dis treeAdr
  rw [List.nodup_cons, List.nodup_cons, List.nodup_cons]
  have e : (rs.flatMap NdR.adr).Nodup ↔ (∀ a ∈ rs, a.adr.Nodup) ∧ rs.Pairwise fun r₁ r₂ => ∀ a ∈ r₁.adr, ∀ b ∈ r₂.adr, a ≠ b := List.pairwise_flatMap
  rw [e]
  simp only [List.mem_cons, List.mem_flatMap, not_or, not_exists, not_and]
  constructor
  · intro zr0
    (try k_extra "gf")
    obtain ⟨⟨a1, a2, a3⟩, ⟨b1, b2⟩, c1, d1, d2⟩ := zr0
    (try k_extra "gu")
    exact ⟨a1, a2, b1, fun r hr a ha => ⟨fun e => a3 r hr (e ▸ ha), fun e => b2 r hr (e ▸ ha), fun e => c1 r hr (e ▸ ha)⟩, d1, d2⟩
  · intro zr0
    (try k_extra "gf")
    obtain ⟨h1, h2, h3, h4, h5, h6⟩ := zr0
    (try k_extra "gu")
    exact ⟨⟨h1, h2, fun r hr ha => (h4 r hr _ ha).1 rfl⟩, ⟨h3, fun r hr ha => (h4 r hr _ ha).2.1 rfl⟩, fun r hr ha => (h4 r hr _ ha).2.2 rfl, h5, h6⟩
theorem DisF.apart {tr td R : Addr} {rs : List NdR} (h : DisF tr td R rs) {i j : Nat} {r₁ r₂ : NdR} (hi : rs[i]? = some r₁) (hj : rs[j]? = some r₂) (hne : i ≠ j) : ∀ a ∈ r₁.adr, ∀ b ∈ r₂.adr, a ≠ b := by
  have h6 := List.pairwise_iff_getElem.mp h.h6
  have li := getElem?_lt hi
  have lj := getElem?_lt hj
  have e1 : rs[i] = r₁ := by rw [List.getElem?_eq_getElem li] at hi; exact Option.some.inj hi
  have e2 : rs[j] = r₂ := by rw [List.getElem?_eq_getElem lj] at hj; exact Option.some.inj hj
  rcases Nat.lt_or_gt_of_ne hne with q | q
  · rw [← e1, ← e2]; exact h6 i j li lj q
  · rw [← e1, ← e2]; exact fun a ha b hb e => h6 j i lj li q b hb a ha e.symm
/-- a change of one row that keeps its addresses -/
theorem dis_modify {tr td R : Addr} {rs : List NdR} {i : Nat} {f : NdR → NdR} (hf : ∀ r, (f r).adr = r.adr) (h : Dis tr td R rs) : Dis tr td R (rs.modify i f) := by
  have e : (rs.modify i f).flatMap NdR.adr = rs.flatMap NdR.adr := by
    rw [List.flatMap_def, List.flatMap_def]
    congr 1
    apply List.ext_getElem?
    intro j
    rw [List.getElem?_map, List.getElem?_map, List.getElem?_modify]
    cases rs[j]? with
    | none => rfl
    | some r => by_cases q : i = j <;> simp [q, hf]
  unfold Dis treeAdr at *
  rw [e]; exact h
theorem dis_push {tr td R : Addr} {rs : List NdR} {r : NdR} (h : Dis tr td R rs) (h1 : r.adr.Nodup) (h2 : ∀ a ∈ r.adr, a ≠ tr ∧ a ≠ td ∧ a ≠ R) (h3 : ∀ q ∈ rs, ∀ a ∈ q.adr, a ∉ r.adr) : Dis tr td R (rs ++ [r]) := by
  rw [dis_iff] at *
  refine ⟨h.h1, h.h2, h.h3, fun q hq => ?_, fun q hq => ?_, ?_⟩
  · rcases List.mem_append.mp hq with hq | hq
    · exact h.h4 q hq
    · rw [List.mem_singleton.mp hq]; exact h2
  · rcases List.mem_append.mp hq with hq | hq
    · exact h.h5 q hq
    · rw [List.mem_singleton.mp hq]; exact h1
  · refine List.pairwise_append.mpr ⟨h.h6, List.pairwise_singleton _ _, fun q hq q' hq' a ha b hb e => ?_⟩
    rw [List.mem_singleton.mp hq'] at hb
    exact h3 q hq a ha (e ▸ hb)
/-- the tree with one child more -/
def kidTo (v : Value) (rp : NdR) : NdR := { rp with chv := rp.chv ++ [v], ec := rp.ec + 1 }
def addTo (rs : List NdR) (i : Nat) (v : Value) (r : NdR) : List NdR := rs.modify i (kidTo v) ++ [r]
theorem map_modify_same {α β : Type} (g : α → β) (f : α → α) (hf : ∀ a, g (f a) = g a) (l : List α) (i : Nat) : (l.modify i f).map g = l.map g := by
  apply List.ext_getElem?
  intro j
  rw [List.getElem?_map, List.getElem?_map, List.getElem?_modify]
  cases l[j]? with
  | none => rfl
  | some r => by_cases q : i = j <;> simp [q, hf]
theorem mem_modify {α : Type} {f : α → α} {l : List α} {i : Nat} {a : α} (h : a ∈ l.modify i f) : ∃ j b, l[j]? = some b ∧ ((j = i ∧ a = f b) ∨ (j ≠ i ∧ a = b)) := by
  (try k_extra "gf")
  obtain ⟨j, hj⟩ := List.getElem?_of_mem h
  (try k_extra "gu")
  rw [List.getElem?_modify] at hj
  cases e : l[j]? with
  | none => rw [e] at hj; cases hj
  | some b =>
    rw [e] at hj
    refine ⟨j, b, e, ?_⟩
    by_cases q : i = j
    · simp [q] at hj; exact .inl ⟨q.symm, hj.symm⟩
    · simp [q] at hj; exact .inr ⟨fun h => q h.symm, hj.symm⟩
theorem mem_cells {P : Params} {r : NdR} {p : Addr × Obj} (h : p ∈ r.cells P) : p.1 ∈ r.adr := by
  rw [← NdR.cells_adr P]; exact List.mem_map_of_mem h
inductive AddP (w : World) (tr td R : Addr) (tk : Tok) (rs : List NdR) (i : Nat) (kind name uri loc value : Str) (par v : Value) (n' : List (Addr × Obj)) : Prop
  | mk (r : NdR) (tk' : Tok) (h1 : v = .int rs.length tk') (h2 : NewRow r kind name uri loc value par) (h3 : n' = treeL w.params tr td tk R (addTo rs i (.int rs.length tk') r)) (h4 : Dis tr td R (addTo rs i (.int rs.length tk') r))
theorem add_child_spec (w : World) (tr td R : Addr) (tk : Tok) (rs : List NdR) (i : Nat) (rp : NdR) (k : Int) (tp : Tok) (kind name uri loc value : Str) (t1 t2 t3 t4 t5 : Tok)
    (hD : Dis tr td R rs) (hi : rs[i]? = some rp) (hk : k = (i : Int)) (hn : rs.length ≤ 1000) (hcz : rp.chv.length ≤ 1000) (hpk : noParent rp.kind = false) :
    Spec w 234 [.ref tr, .int k tp, .str kind t1, .str name t2, .str uri t3, .str loc t4, .str value t5] 60 100 (treeL w.params tr td tk R rs)
      (AddP w tr td R tk rs i kind name uri loc value (.int k tp)) := by
  have hm := List.mem_of_getElem? hi
  have F := dis_iff.mp hD
  have hND : ((treeL w.params tr td tk R rs).map (·.1)).Nodup := by rw [treeL_adr]; exact hD
  have hF4 := F.h4 rp hm
  have hcm : rp.c ∈ rp.adr := by simp [NdR.adr]
  have hcells : ∀ r ∈ rs, ∀ p ∈ r.cells w.params, p ∈ treeL w.params tr td tk R rs := fun r hr p hp => by
    unfold treeL
    exact List.mem_cons_of_mem _ (List.mem_cons_of_mem _ (List.mem_cons_of_mem _ (List.mem_flatMap.mpr ⟨r, hr, hp⟩)))
  let tail := (rs.flatMap (NdR.cells w.params)).filter fun p => !decide (p.1 = rp.c)
  have htail : ∀ p, p ∈ tail ↔ (∃ r ∈ rs, p ∈ r.cells w.params) ∧ p.1 ≠ rp.c := fun p => by
    simp [tail, List.mem_filter, List.mem_flatMap]
  have hown : (rp.c, listOf rp.chv.toArray rp.ec) ∈ rp.cells w.params := by unfold NdR.cells; k_extra "mm"
  have hu := F.h5 rp hm
  have hx : rp.x ≠ rp.c := by simp [NdR.adr] at hu; exact hu.1.2.1
  have hd : rp.d ≠ rp.c := by simp [NdR.adr] at hu; exact hu.2.1.1
  have ht : rp.t ≠ rp.c := by simp [NdR.adr] at hu; exact fun e => hu.2.2.1.1 e.symm
  have hnn : rp.n ≠ rp.c := by simp [NdR.adr] at hu; exact fun e => hu.2.2.1.2 e.symm
  have raw := add_child_raw w tr td R tk (rs.map fun r => Value.ref r.x) rp.chv rs.length rp.ec tail rs i rp k tp kind name uri loc value t1 t2 t3 t4 t5
    F.h2 F.h3 (hF4 _ hcm).1.symm (hF4 _ hcm).2.1.symm (hF4 _ hcm).2.2.symm (fun p hp => ((htail p).mp hp).2)
    (fun p hp => by
      have hh : ∃ r ∈ rs, p ∈ r.cells w.params := by
        rcases List.mem_cons.mp hp with rfl | hp
        · exact ⟨rp, hm, hown⟩
        · exact ((htail p).mp hp).1
      (try k_extra "gf")
      obtain ⟨r, hr, hpr⟩ := hh
      (try k_extra "gu")
      have := F.h4 r hr p.1 (mem_cells hpr)
      simp [this.1, this.2.1, this.2.2])
    (by simpa using hn) hcz (by simp [hi]) hi hk hn
    ⟨td, tk, R, fun p hp => by
      unfold treeL at hp
      rcases List.mem_cons.mp hp with rfl | hp
      · k_extra "mm"
      rcases List.mem_cons.mp hp with rfl | hp
      · k_extra "mm"
      rcases List.mem_cons.mp hp with rfl | hp
      · k_extra "mm"
      (try k_extra "gf")
      obtain ⟨r, hr, hpr⟩ := List.mem_flatMap.mp hp
      (try k_extra "gu")
      by_cases q : p.1 = rp.c
      · have : p = (rp.c, listOf rp.chv.toArray rp.ec) := nodup_fst hND (hcells r hr p hpr) (hcells rp hm _ hown) q
        rw [this]; exact List.mem_cons_self
      · exact List.mem_cons_of_mem _ (List.mem_cons_of_mem _ (List.mem_cons_of_mem _ (List.mem_cons_of_mem _ ((htail p).mpr ⟨⟨r, hr, hpr⟩, q⟩))))⟩
    hpk ((htail _).mpr ⟨⟨rp, hm, by unfold NdR.cells; k_extra "mm"⟩, hx⟩) ((htail _).mpr ⟨⟨rp, hm, by unfold NdR.cells; k_extra "mm"⟩, hd⟩)
  refine ((raw.pre (news := treeL w.params tr td tk R rs) ?_ ?_)).conseq ?_
  · intro p hp
    rcases List.mem_cons.mp hp with rfl | hp
    · exact hcells rp hm _ hown
    rcases List.mem_cons.mp hp with rfl | hp
    · unfold treeL; k_extra "mm"
    rcases List.mem_cons.mp hp with rfl | hp
    · unfold treeL; k_extra "mm"
    rcases List.mem_cons.mp hp with rfl | hp
    · unfold treeL; k_extra "mm"
    (try k_extra "gf")
    obtain ⟨⟨r, hr, hpr⟩, _⟩ := (htail p).mp hp
    (try k_extra "gu")
    exact hcells r hr p hpr
  · intro p hp
    unfold treeL at hp
    rcases List.mem_cons.mp hp with rfl | hp
    · k_extra "mm"
    rcases List.mem_cons.mp hp with rfl | hp
    · k_extra "mm"
    rcases List.mem_cons.mp hp with rfl | hp
    · k_extra "mm"
    (try k_extra "gf")
    obtain ⟨r, hr, hpr⟩ := List.mem_flatMap.mp hp
    (try k_extra "gu")
    by_cases q : p.1 = rp.c
    · have : p = (rp.c, listOf rp.chv.toArray rp.ec) := nodup_fst hND (hcells r hr p hpr) (hcells rp hm _ hown) q
      rw [this]; exact List.mem_cons_self
    · exact List.mem_cons_of_mem _ (List.mem_cons_of_mem _ (List.mem_cons_of_mem _ (List.mem_cons_of_mem _ ((htail p).mpr ⟨⟨r, hr, hpr⟩, q⟩))))
  · intro v n' zr2
    (try k_extra "gf")
    obtain ⟨r, tk', rfl, hr, rfl, a1, a2, a3⟩ := zr2
    (try k_extra "gu")
    have hlen : (rs.map fun r => Value.ref r.x).length = rs.length := by simp
    rw [hlen] at *
    refine ⟨treeL w.params tr td tk R (addTo rs i (.int rs.length tk') r), ?_, r, tk', rfl, hr, rfl, ?_⟩
    · intro p hp
      unfold treeL at hp
      rcases List.mem_cons.mp hp with rfl | hp
      · k_extra "mm"
      rcases List.mem_cons.mp hp with rfl | hp
      · k_extra "mm"
      rcases List.mem_cons.mp hp with rfl | hp
      · have e1 : (addTo rs i (.int rs.length tk') r).map (fun r => Value.ref r.x) = (rs.map fun r => Value.ref r.x) ++ [Value.ref r.x] := by
          rw [addTo, List.map_append, map_modify_same (fun r : NdR => Value.ref r.x) (kidTo _) (fun _ => rfl)]; rfl
        have e2 : (addTo rs i (.int rs.length tk') r).length = rs.length + 1 := by simp [addTo]
        rw [e1, e2]; k_extra "mm"
      (try k_extra "gf")
      obtain ⟨q, hq, hpq⟩ := List.mem_flatMap.mp hp
      (try k_extra "gu")
      rcases List.mem_append.mp hq with hq | hq
      · (try k_extra "gf")
        obtain ⟨j, b, hb, h⟩ := mem_modify hq
        (try k_extra "gu")
        rcases h with ⟨rfl, rfl⟩ | ⟨hne, rfl⟩
        · rw [hi] at hb
          cases hb
          simp only [NdR.cells, List.mem_cons, List.not_mem_nil, or_false] at hpq
          have skip : ∀ z, z ∈ tail → z ∈ (r.x, instObj 188 r.d) :: (r.d, r.row w.params) :: (r.c, listOf r.chv.toArray r.ec) :: (r.t, listOf r.atv.toArray r.et) :: (r.n, listOf #[] 0) :: (tr, instObj 377 td) :: (td, dictOf [keyE w.params (Str.ofString "rows") tk (.ref R)] 1) ::
              (R, listOf ((rs.map fun r => Value.ref r.x) ++ [Value.ref r.x]).toArray (rs.length + 1)) :: (rp.c, listOf (rp.chv.toArray.push (.int rs.length tk')) (rp.ec + 1)) :: tail := fun z hz => by simp [hz]
          rcases hpq with rfl | rfl | rfl | rfl | rfl
          · exact skip _ ((htail _).mpr ⟨⟨rp, hm, by unfold NdR.cells; k_extra "mm"⟩, hx⟩)
          · exact skip _ ((htail _).mpr ⟨⟨rp, hm, by unfold NdR.cells; k_extra "mm"⟩, hd⟩)
          · simp [kidTo]
          · exact skip _ ((htail _).mpr ⟨⟨rp, hm, by unfold NdR.cells; k_extra "mm"⟩, ht⟩)
          · exact skip _ ((htail _).mpr ⟨⟨rp, hm, by unfold NdR.cells; k_extra "mm"⟩, hnn⟩)
        · have hq' := List.mem_of_getElem? hb
          have : p ∈ tail := (htail p).mpr ⟨⟨q, hq', hpq⟩, F.apart hb hi hne p.1 (mem_cells hpq) rp.c hcm⟩
          k_extra "mm"
      · rw [List.mem_singleton.mp hq] at hpq
        simp only [NdR.cells, List.mem_cons, List.not_mem_nil, or_false] at hpq
        rcases hpq with rfl | rfl | rfl | rfl | rfl <;> k_extra "mm"
    · refine dis_push (dis_modify (fun _ => rfl) hD) hr.nodup (fun a ha => ?_) fun q hq a ha hm' => ?_
      · have := a1 a ha
        simp only [List.mem_cons, List.not_mem_nil, or_false, not_or] at this
        exact this
      · (try k_extra "gf")
        obtain ⟨j, b, hb, h⟩ := mem_modify hq
        (try k_extra "gu")
        have hba : a ∈ b.adr := by
          rcases h with ⟨_, rfl⟩ | ⟨_, rfl⟩
          · exact ha
          · exact ha
        by_cases q' : a = rp.c
        · exact a2 a hm' q'
        · (try k_extra "gf")
          obtain ⟨o, ho⟩ := NdR.cell (P := w.params) hba
          (try k_extra "gu")
          exact a3 (a, o) ((htail _).mpr ⟨⟨b, List.mem_of_getElem? hb, ho⟩, q'⟩) hm'

theorem reg_BU_1 : True := by
  k_with "call ref" => (((with_reducible show wpAny _ _ (call (Value.ref 234) _) _ _ _); k_here; k_dflt ((first | with_reducible refine' use_all (add_child_spec _ _ _ _ _ _ _ _ _ _ _ _ _ _ _ _ _ _ _ _ ?zqhD ?zqhi ?zqhk ?zqhn ?zqhcz ?zqhpk) ?zqB ?zqF ?zqX ?zqN ?zqT ?zqk ?zqd ?zqu ?_ | refine' use_all (add_child_spec _ _ _ _ _ _ _ _ _ _ _ _ _ _ _ _ _ _ _ _ ?zqhD ?zqhi ?zqhk ?zqhn ?zqhcz ?zqhpk) ?zqB ?zqF ?zqX ?zqN ?zqT ?zqk ?zqd ?zqu ?_); (case zqB => k_asm); (case zqF => k_asm); (case zqX => k_asm); (case zqN => k_asm); (case zqT => k_asm); (case zqhk => first | exact rfl | assumption); (case zqhD => assumption); (case zqhi => assumption); (case zqhn => assumption); (case zqhcz => assumption); (case zqhpk => assumption); (case zqk => first | exact rfl | assumption); (case zqd => ktr_room); (case zqu => ktr_units); k_whole); intro rm9 nm9 hm9 tkm9 Fm9 Nm9 Gm9 pm9; (try k_extra "gf"); obtain ⟨rm9, t90, em9, qm9, fm9, dm9⟩ := pm9; subst em9; subst fm9; (try k_extra "gu"); (try k_sweep); (try dsimp only)))
  trivial
theorem add_element_spec (w : World) (tr td R : Addr) (tk : Tok) (rs : List NdR) (i : Nat) (rp : NdR) (k : Int) (tp : Tok) (name loc : Str) (t1 t2 t3 : Tok)
    (hD : Dis tr td R rs) (hi : rs[i]? = some rp) (hk : k = (i : Int)) (hn : rs.length ≤ 1000) (hcz : rp.chv.length ≤ 1000) (hpk : noParent rp.kind = false) :
    Spec w 241 [.ref tr, .int k tp, .str name t1, .str (Str.ofString "") t2, .str loc t3] 70 120 (treeL w.params tr td tk R rs)
      (AddP w tr td R tk rs i (Str.ofString "element") name (Str.ofString "") loc (Str.ofString "") (.int k tp)) := by
  have m1 : (tr, instObj 377 td) ∈ treeL w.params tr td tk R rs := by simp [treeL]
  have m2 : (td, dictOf [keyE w.params (Str.ofString "rows") tk (.ref R)] 1) ∈ treeL w.params tr td tk R rs := by simp [treeL]
  unfold Spec
  k_fill
  intro mean mg mb dp un gd cn cs a ccd cl outer A₀ base h₀ L m s Q E B F X N T hk hd hu hret
  refine wpAny_call ?_
  k_dflt ktr_enter
  k_steps
  all_goals exact hret _ _ _ _ (by k_asm) (by k_asm) (done_end (by assumption) (by assumption) (by assumption)) ⟨_, _, rfl, by assumption, rfl, by assumption⟩
theorem add_text_spec (w : World) (tr td R : Addr) (tk : Tok) (rs : List NdR) (i : Nat) (rp : NdR) (k : Int) (tp : Tok) (value : Str) (t1 : Tok)
    (hD : Dis tr td R rs) (hi : rs[i]? = some rp) (hk : k = (i : Int)) (hn : rs.length ≤ 1000) (hcz : rp.chv.length ≤ 1000) (hpk : noParent rp.kind = false) :
    Spec w 248 [.ref tr, .int k tp, .str value t1] 70 120 (treeL w.params tr td tk R rs)
      (AddP w tr td R tk rs i (Str.ofString "text") (Str.ofString "") (Str.ofString "") (Str.ofString "") value (.int k tp)) := by
  have m1 : (tr, instObj 377 td) ∈ treeL w.params tr td tk R rs := by simp [treeL]
  have m2 : (td, dictOf [keyE w.params (Str.ofString "rows") tk (.ref R)] 1) ∈ treeL w.params tr td tk R rs := by simp [treeL]
  unfold Spec
  k_fill
  intro mean mg mb dp un gd cn cs a ccd cl outer A₀ base h₀ L m s Q E B F X N T hk hd hu hret
  refine wpAny_call ?_
  k_dflt ktr_enter
  k_steps
  all_goals exact hret _ _ _ _ (by k_asm) (by k_asm) (done_end (by assumption) (by assumption) (by assumption)) ⟨_, _, rfl, by assumption, rfl, by assumption⟩
theorem add_comment_spec (w : World) (tr td R : Addr) (tk : Tok) (rs : List NdR) (i : Nat) (rp : NdR) (k : Int) (tp : Tok) (value : Str) (t1 : Tok)
    (hD : Dis tr td R rs) (hi : rs[i]? = some rp) (hk : k = (i : Int)) (hn : rs.length ≤ 1000) (hcz : rp.chv.length ≤ 1000) (hpk : noParent rp.kind = false) :
    Spec w 255 [.ref tr, .int k tp, .str value t1] 70 120 (treeL w.params tr td tk R rs)
      (AddP w tr td R tk rs i (Str.ofString "comment") (Str.ofString "") (Str.ofString "") (Str.ofString "") value (.int k tp)) := by
  have m1 : (tr, instObj 377 td) ∈ treeL w.params tr td tk R rs := by simp [treeL]
  have m2 : (td, dictOf [keyE w.params (Str.ofString "rows") tk (.ref R)] 1) ∈ treeL w.params tr td tk R rs := by simp [treeL]
  unfold Spec
  k_fill
  intro mean mg mb dp un gd cn cs a ccd cl outer A₀ base h₀ L m s Q E B F X N T hk hd hu hret
  refine wpAny_call ?_
  k_dflt ktr_enter
  k_steps
  all_goals exact hret _ _ _ _ (by k_asm) (by k_asm) (done_end (by assumption) (by assumption) (by assumption)) ⟨_, _, rfl, by assumption, rfl, by assumption⟩
theorem add_instruction_spec (w : World) (tr td R : Addr) (tk : Tok) (rs : List NdR) (i : Nat) (rp : NdR) (k : Int) (tp : Tok) (name value : Str) (t1 t2 : Tok)
    (hD : Dis tr td R rs) (hi : rs[i]? = some rp) (hk : k = (i : Int)) (hn : rs.length ≤ 1000) (hcz : rp.chv.length ≤ 1000) (hpk : noParent rp.kind = false) :
    Spec w 262 [.ref tr, .int k tp, .str name t1, .str value t2] 70 120 (treeL w.params tr td tk R rs)
      (AddP w tr td R tk rs i (Str.ofString "instruction") name (Str.ofString "") name value (.int k tp)) := by
  have m1 : (tr, instObj 377 td) ∈ treeL w.params tr td tk R rs := by simp [treeL]
  have m2 : (td, dictOf [keyE w.params (Str.ofString "rows") tk (.ref R)] 1) ∈ treeL w.params tr td tk R rs := by simp [treeL]
  unfold Spec
  k_fill
  intro mean mg mb dp un gd cn cs a ccd cl outer A₀ base h₀ L m s Q E B F X N T hk hd hu hret
  refine wpAny_call ?_
  k_dflt ktr_enter
  k_steps
  all_goals exact hret _ _ _ _ (by k_asm) (by k_asm) (done_end (by assumption) (by assumption) (by assumption)) ⟨_, _, rfl, by assumption, rfl, by assumption⟩

theorem element_row_spec (w : World) (news : List (Addr × Obj)) (tr : Addr) (rs : List NdR) (i : Nat) (r : NdR) (k : Int) (t : Tok) (hT : TreeIn w.params news tr rs) (hi : rs[i]? = some r) (hk : k = (i : Int)) (hn : rs.length ≤ 1000) (hke : (r.kind != Str.ofString "element") = false) :
    Spec w 269 [.ref tr, .int k t] 30 60 news (fun v n' => n' = news ∧ v = .ref r.x) := by
  (try k_extra "gf")
  obtain ⟨td, tkT, R, t1, t2, t3⟩ := hT.open
  (try k_extra "gu")
  (try k_extra "gf")
  obtain ⟨m1, m2, m3, m4, m5⟩ := hT.node hi
  (try k_extra "gu")
  unfold Spec
  k_fill
  intro mean mg mb dp un gd cn cs a ccd cl outer A₀ base h₀ L m s Q E B F X N T hk hd hu hret
  refine wpAny_call ?_
  k_dflt ktr_enter
  k_steps
  all_goals exact hret _ _ _ _ (by k_asm) (by k_asm) (done_end (by assumption) (by assumption) (by assumption)) ⟨rfl, rfl⟩
theorem reg_BV_1 : True := by
  k_with "call ref" => (((with_reducible show wpAny _ _ (call (Value.ref 269) _) _ _ _); k_here; k_dflt ((first | with_reducible refine' use_val (element_row_spec _ _ _ _ _ _ _ _ ?zqhT ?zqhi ?zqhk ?zqhn ?zqhke) ?zqB ?zqF ?zqX ?zqN ?zqT ?zqk ?zqs ?zqd ?zqu ?_ | refine' use_val (element_row_spec _ _ _ _ _ _ _ _ ?zqhT ?zqhi ?zqhk ?zqhn ?zqhke) ?zqB ?zqF ?zqX ?zqN ?zqT ?zqk ?zqs ?zqd ?zqu ?_); (case zqB => k_asm); (case zqF => k_asm); (case zqX => k_asm); (case zqN => k_asm); (case zqT => k_asm); (case zqhk => first | exact rfl | assumption | omega); (case zqhT => first | assumption | exact TreeIn.mono (by assumption) (by intro pm9 hpm9; repeat (first | exact hpm9 | refine List.mem_cons_of_mem _ ?_))); (case zqhi => assumption); (case zqhn => assumption); (case zqhke => assumption); (case zqs => first | exact fun _ h => h | (intro pm9 hpm9; (repeat (first | exact hpm9 | refine List.mem_cons_of_mem _ ?_)); done) | first | exact List.forall_mem_nil _ | lcg_sub); (case zqk => first | exact rfl | assumption); (case zqd => ktr_room); (case zqu => ktr_units); k_whole); intro hm9 tkm9 Fm9 Nm9; (try k_sweep); (try dsimp only)))
  trivial
theorem reg_BV_2 : True := by
  k_with "pyIter ref" => (((with_reducible show wpAny _ _ (pyIter (Value.ref _)) (fun it s₂ => LoopAtV _ _ _ _ _ _ _ _ _ it s₂) _ _); k_dflt ((refine' iter_listUnr ?zqhh ?zqF ?zqN ?zqhm ?zqhc ?zqhd ?_; (case zqhh => exact rfl); (case zqF => k_asm); (case zqN => k_asm); (case zqhm => k_mem); (case zqhc => exact rfl); (case zqhd => exact rfl)); intro im9 lm9)))
  trivial
inductive SetRawP (w : World) (tr td R : Addr) (tk : Tok) (xs old : List Value) (n et : Nat) (tail : List (Addr × Obj)) (rt : Addr) (name uri loc value : Str) (par : Value) (n' : List (Addr × Obj)) : Prop
  | mk (r : NdR) (tk' : Tok) (h1 : NewRow r (Str.ofString "attribute") name uri loc value par) (h2 : n' = (r.x, instObj 188 r.d) :: (r.d, r.row w.params) :: (r.c, listOf r.chv.toArray r.ec) :: (r.t, listOf r.atv.toArray r.et) :: (r.n, listOf #[] 0) :: (tr, instObj 377 td) :: (td, dictOf [keyE w.params (Str.ofString "rows") tk (.ref R)] 1) :: (R, listOf (xs ++ [Value.ref r.x]).toArray (n + 1)) :: (rt, listOf ((List.toArray old).push (.int xs.length tk')) (et + 1)) :: tail) (h3 : (∀ a ∈ r.adr, a ∉ [tr, td, R])) (h4 : (∀ a ∈ r.adr, a ≠ rt)) (h5 : ∀ p ∈ tail, p.1 ∉ r.adr)
theorem set_attr0_raw (w : World) (tr td R : Addr) (tk : Tok) (xs : List Value) (n et : Nat) (tail : List (Addr × Obj)) (rs : List NdR) (i : Nat) (rp : NdR) (k : Int) (tp : Tok) (name uri loc value : Str) (t2 t3 t4 t5 : Tok)
    (h1 : @Ne Nat tr R) (h2 : @Ne Nat td R) (h4 : @Ne Nat tr rp.t) (h5 : @Ne Nat td rp.t) (h6 : @Ne Nat R rp.t) (h7 : ∀ p ∈ tail, p.1 ≠ rp.t) (h8 : ∀ p ∈ (rp.t, listOf (List.toArray []) et) :: tail, p.1 ∉ [tr, td, R]) (hz : xs.length ≤ 1000)
    (hi : rs[i]? = some rp) (hk : k = (i : Int)) (hn : rs.length ≤ 1000)
    (hT : TreeIn w.params ((rp.t, listOf (List.toArray []) et) :: (tr, instObj 377 td) :: (td, dictOf [keyE w.params (Str.ofString "rows") tk (.ref R)] 1) :: (R, listOf xs.toArray n) :: tail) tr rs) (hke : (rp.kind != Str.ofString "element") = false)
    (m1 : (rp.x, instObj 188 rp.d) ∈ tail) (m2 : (rp.d, rp.row w.params) ∈ tail) :
    Spec w 276 [.ref tr, .int k tp, .str name t2, .str uri t3, .str loc t4, .str value t5] 60 100
      ((rp.t, listOf (List.toArray []) et) :: (tr, instObj 377 td) :: (td, dictOf [keyE w.params (Str.ofString "rows") tk (.ref R)] 1) :: (R, listOf xs.toArray n) :: tail)
      (fun _ n' => SetRawP w tr td R tk xs [] n et tail rp.t name uri loc value (.int k tp) n') := by
  unfold Spec
  k_fill
  intro mean mg mb dp un gd cn cs a ccd cl outer A₀ base h₀ L m s Q E B F X N T hk hd hu hret
  refine wpAny_call ?_
  k_dflt ktr_enter
  k_steps
  all_goals (rename NewRow _ _ _ _ _ _ _ => q9)
  all_goals (rename (∀ p ∈ (rp.t, listOf (List.toArray []) et) :: tail, ∀ (q : Addr × Obj), q ∈ _ → p.1 ≠ q.1) => O9)
  all_goals (rename (∀ a ∈ NdR.adr _, a ∉ _) => l9)
  all_goals (refine hret _ _ _ _ (by k_asm) (by k_asm) (done_end (by assumption) (by assumption) (by assumption)) ?_)
  all_goals (refine ⟨_, _, q9, rfl, l9, fun a ha e => ?_, fun p hp hm => ?_⟩)
  · (try k_extra "gf")
    obtain ⟨o, ho⟩ := NdR.cell (P := w.params) ha
    (try k_extra "gu")
    exact O9 _ List.mem_cons_self _ (List.mem_append_left _ ho) e.symm
  · (try k_extra "gf")
    obtain ⟨o, ho⟩ := NdR.cell (P := w.params) hm
    (try k_extra "gu")
    exact O9 _ (List.mem_cons_of_mem _ hp) _ (List.mem_append_left _ ho) rfl
theorem UnrEnd.same {h₀ : Heap} {L I : Addr} {it : Obj} {rest : (Str → Option Value) → List (Addr × Obj) → Prop} {s₁ : Shared} {h' : Heap} {tk : Nat} {m' : Str → Option Value} {news : List (Addr × Obj)} (F : Fr h₀ L h' m') (N : News h₀ L h' ((I, it) :: news))
    (off : ∀ p ∈ news, p.1 < I) (r : rest m' news) : UnrEnd h₀ L s₁ I it rest { s₁ with heap := h', toks := tk } := ⟨h', tk, m', news, rfl, F, N, fun p hp => Nat.ne_of_lt (off p hp), r⟩
theorem reg_BV_3 : True := by
  k_with "UnrEnd" => ((k_dflt (refine UnrEnd.same (by assumption) (by assumption) (by assumption) ⟨by k_mem, ?_⟩)))
  trivial
theorem set_attr1_raw (w : World) (tr td R : Addr) (tk : Tok) (xs : List Value) (n et : Nat) (tail : List (Addr × Obj)) (rs : List NdR) (i : Nat) (rp ra : NdR) (j9 : Nat) (j : Int) (tj : Tok) (k : Int) (tp : Tok) (name uri loc value : Str) (t2 t3 t4 t5 : Tok)
    (h1 : @Ne Nat tr R) (h2 : @Ne Nat td R) (h4 : @Ne Nat tr rp.t) (h5 : @Ne Nat td rp.t) (h6 : @Ne Nat R rp.t) (h7 : ∀ p ∈ tail, p.1 ≠ rp.t) (h8 : ∀ p ∈ (rp.t, listOf (List.toArray [Value.int j tj]) et) :: tail, p.1 ∉ [tr, td, R]) (hz : xs.length ≤ 1000)
    (hi : rs[i]? = some rp) (hk : k = (i : Int)) (hn : rs.length ≤ 1000)
    (hT : TreeIn w.params ((rp.t, listOf (List.toArray [Value.int j tj]) et) :: (tr, instObj 377 td) :: (td, dictOf [keyE w.params (Str.ofString "rows") tk (.ref R)] 1) :: (R, listOf xs.toArray n) :: tail) tr rs) (hke : (rp.kind != Str.ofString "element") = false)
    (hxj : xs[j9]? = some (.ref ra.x)) (hj : j = (j9 : Int)) (hu1 : (ra.uri == uri) = true) (hu2 : (ra.loc == loc) = false) (m3 : (ra.x, instObj 188 ra.d) ∈ tail) (m4 : (ra.d, ra.row w.params) ∈ tail)
    (m1 : (rp.x, instObj 188 rp.d) ∈ tail) (m2 : (rp.d, rp.row w.params) ∈ tail) :
    Spec w 276 [.ref tr, .int k tp, .str name t2, .str uri t3, .str loc t4, .str value t5] 60 100
      ((rp.t, listOf (List.toArray [Value.int j tj]) et) :: (tr, instObj 377 td) :: (td, dictOf [keyE w.params (Str.ofString "rows") tk (.ref R)] 1) :: (R, listOf xs.toArray n) :: tail)
      (fun _ n' => SetRawP w tr td R tk xs [Value.int j tj] n et tail rp.t name uri loc value (.int k tp) n') := by
  have hxj' : xs.toArray[j9]? = some (.ref ra.x) := by rw [List.getElem?_toArray]; exact hxj
  unfold Spec
  k_fill
  intro mean mg mb dp un gd cn cs a ccd cl outer A₀ base h₀ L m s Q E B F X N T hk hd hu hret
  refine wpAny_call ?_
  k_dflt ktr_enter
  k_steps
  all_goals (rename NewRow _ _ _ _ _ _ _ => q9)
  all_goals (rename (∀ p ∈ (rp.t, listOf (List.toArray [Value.int j tj]) et) :: tail, ∀ (q : Addr × Obj), q ∈ _ → p.1 ≠ q.1) => O9)
  all_goals (rename (∀ a ∈ NdR.adr _, a ∉ _) => l9)
  all_goals (refine hret _ _ _ _ (by k_asm) (by k_asm) (done_end (by assumption) (by assumption) (by assumption)) ?_)
  all_goals (refine ⟨_, _, q9, rfl, l9, fun a ha e => ?_, fun p hp hm => ?_⟩)
  · (try k_extra "gf")
    obtain ⟨o, ho⟩ := NdR.cell (P := w.params) ha
    (try k_extra "gu")
    exact O9 _ List.mem_cons_self _ (List.mem_append_left _ ho) e.symm
  · (try k_extra "gf")
    obtain ⟨o, ho⟩ := NdR.cell (P := w.params) hm
    (try k_extra "gu")
    exact O9 _ (List.mem_cons_of_mem _ hp) _ (List.mem_append_left _ ho) rfl

/-- the tree with one attribute more -/
def attTo (v : Value) (rp : NdR) : NdR := { rp with atv := rp.atv ++ [v], et := rp.et + 1 }
def setTo (rs : List NdR) (i : Nat) (v : Value) (r : NdR) : List NdR := rs.modify i (attTo v) ++ [r]
inductive SetP (w : World) (tr td R : Addr) (tk : Tok) (rs : List NdR) (i : Nat) (name uri loc value : Str) (par : Value) (n' : List (Addr × Obj)) : Prop
  | mk (r : NdR) (tk' : Tok) (h1 : NewRow r (Str.ofString "attribute") name uri loc value par) (h2 : n' = treeL w.params tr td tk R (setTo rs i (.int rs.length tk') r)) (h3 : Dis tr td R (setTo rs i (.int rs.length tk') r))
theorem set_attr_lift (w : World) (tr td R : Addr) (tk : Tok) (rs : List NdR) (i : Nat) (rp : NdR) (k : Int) (tp : Tok) (name uri loc value : Str) (vs : List Value)
    (hD : Dis tr td R rs) (hi : rs[i]? = some rp)
    (hraw : ∀ tail : List (Addr × Obj), (∀ p ∈ tail, p.1 ≠ rp.t) → (∀ p ∈ (rp.t, listOf rp.atv.toArray rp.et) :: tail, p.1 ∉ [tr, td, R]) → (∀ q ∈ rs, ∀ p ∈ q.cells w.params, p.1 ≠ rp.t → p ∈ tail) →
      TreeIn w.params ((rp.t, listOf rp.atv.toArray rp.et) :: (tr, instObj 377 td) :: (td, dictOf [keyE w.params (Str.ofString "rows") tk (.ref R)] 1) :: (R, listOf (rs.map fun r => Value.ref r.x).toArray rs.length) :: tail) tr rs → (rp.x, instObj 188 rp.d) ∈ tail → (rp.d, rp.row w.params) ∈ tail →
      Spec w 276 vs 60 100
        ((rp.t, listOf rp.atv.toArray rp.et) :: (tr, instObj 377 td) :: (td, dictOf [keyE w.params (Str.ofString "rows") tk (.ref R)] 1) :: (R, listOf (rs.map fun r => Value.ref r.x).toArray rs.length) :: tail)
        (fun _ n' => SetRawP w tr td R tk (rs.map fun r => Value.ref r.x) rp.atv rs.length rp.et tail rp.t name uri loc value (.int k tp) n')) :
    Spec w 276 vs 60 100 (treeL w.params tr td tk R rs)
      (fun _ n' => SetP w tr td R tk rs i name uri loc value (.int k tp) n') := by
  have hm := List.mem_of_getElem? hi
  have F := dis_iff.mp hD
  have hND : ((treeL w.params tr td tk R rs).map (·.1)).Nodup := by rw [treeL_adr]; exact hD
  have hF4 := F.h4 rp hm
  have htm : rp.t ∈ rp.adr := by simp [NdR.adr]
  have hcells : ∀ r ∈ rs, ∀ p ∈ r.cells w.params, p ∈ treeL w.params tr td tk R rs := fun r hr p hp => by
    unfold treeL
    exact List.mem_cons_of_mem _ (List.mem_cons_of_mem _ (List.mem_cons_of_mem _ (List.mem_flatMap.mpr ⟨r, hr, hp⟩)))
  let tail := (rs.flatMap (NdR.cells w.params)).filter fun p => !decide (p.1 = rp.t)
  have htail : ∀ p, p ∈ tail ↔ (∃ r ∈ rs, p ∈ r.cells w.params) ∧ p.1 ≠ rp.t := fun p => by
    simp [tail, List.mem_filter, List.mem_flatMap]
  have hown : (rp.t, listOf rp.atv.toArray rp.et) ∈ rp.cells w.params := by unfold NdR.cells; k_extra "mm"
  have hu := F.h5 rp hm
  have hx : rp.x ≠ rp.t := by simp [NdR.adr] at hu; exact hu.1.2.2.1
  have hd : rp.d ≠ rp.t := by simp [NdR.adr] at hu; exact hu.2.1.2.1
  have ht : rp.c ≠ rp.t := by simp [NdR.adr] at hu; exact hu.2.2.1.1
  have hnn : rp.n ≠ rp.t := by simp [NdR.adr] at hu; exact fun e => hu.2.2.2 e.symm
  have raw := hraw tail (fun p hp => ((htail p).mp hp).2)
    (fun p hp => by
      have hh : ∃ r ∈ rs, p ∈ r.cells w.params := by
        rcases List.mem_cons.mp hp with rfl | hp
        · exact ⟨rp, hm, hown⟩
        · exact ((htail p).mp hp).1
      (try k_extra "gf")
      obtain ⟨r, hr, hpr⟩ := hh
      (try k_extra "gu")
      have := F.h4 r hr p.1 (mem_cells hpr)
      simp [this.1, this.2.1, this.2.2])
    (fun q hq p hp hne => (htail p).mpr ⟨⟨q, hq, hp⟩, hne⟩)
    ⟨td, tk, R, fun p hp => by
      unfold treeL at hp
      rcases List.mem_cons.mp hp with rfl | hp
      · k_extra "mm"
      rcases List.mem_cons.mp hp with rfl | hp
      · k_extra "mm"
      rcases List.mem_cons.mp hp with rfl | hp
      · k_extra "mm"
      (try k_extra "gf")
      obtain ⟨r, hr, hpr⟩ := List.mem_flatMap.mp hp
      (try k_extra "gu")
      by_cases q : p.1 = rp.t
      · have : p = (rp.t, listOf rp.atv.toArray rp.et) := nodup_fst hND (hcells r hr p hpr) (hcells rp hm _ hown) q
        rw [this]; exact List.mem_cons_self
      · exact List.mem_cons_of_mem _ (List.mem_cons_of_mem _ (List.mem_cons_of_mem _ (List.mem_cons_of_mem _ ((htail p).mpr ⟨⟨r, hr, hpr⟩, q⟩))))⟩
    ((htail _).mpr ⟨⟨rp, hm, by unfold NdR.cells; k_extra "mm"⟩, hx⟩) ((htail _).mpr ⟨⟨rp, hm, by unfold NdR.cells; k_extra "mm"⟩, hd⟩)
  refine ((raw.pre (news := treeL w.params tr td tk R rs) ?_ ?_)).conseq ?_
  · intro p hp
    rcases List.mem_cons.mp hp with rfl | hp
    · exact hcells rp hm _ hown
    rcases List.mem_cons.mp hp with rfl | hp
    · unfold treeL; k_extra "mm"
    rcases List.mem_cons.mp hp with rfl | hp
    · unfold treeL; k_extra "mm"
    rcases List.mem_cons.mp hp with rfl | hp
    · unfold treeL; k_extra "mm"
    (try k_extra "gf")
    obtain ⟨⟨r, hr, hpr⟩, _⟩ := (htail p).mp hp
    (try k_extra "gu")
    exact hcells r hr p hpr
  · intro p hp
    unfold treeL at hp
    rcases List.mem_cons.mp hp with rfl | hp
    · k_extra "mm"
    rcases List.mem_cons.mp hp with rfl | hp
    · k_extra "mm"
    rcases List.mem_cons.mp hp with rfl | hp
    · k_extra "mm"
    (try k_extra "gf")
    obtain ⟨r, hr, hpr⟩ := List.mem_flatMap.mp hp
    (try k_extra "gu")
    by_cases q : p.1 = rp.t
    · have : p = (rp.t, listOf rp.atv.toArray rp.et) := nodup_fst hND (hcells r hr p hpr) (hcells rp hm _ hown) q
      rw [this]; exact List.mem_cons_self
    · exact List.mem_cons_of_mem _ (List.mem_cons_of_mem _ (List.mem_cons_of_mem _ (List.mem_cons_of_mem _ ((htail p).mpr ⟨⟨r, hr, hpr⟩, q⟩))))
  · intro v n' zr2
    (try k_extra "gf")
    obtain ⟨r, tk', hr, rfl, a1, a2, a3⟩ := zr2
    (try k_extra "gu")
    have hlen : (rs.map fun r => Value.ref r.x).length = rs.length := by simp
    rw [hlen] at *
    refine ⟨treeL w.params tr td tk R (setTo rs i (.int rs.length tk') r), ?_, r, tk', hr, rfl, ?_⟩
    · intro p hp
      unfold treeL at hp
      rcases List.mem_cons.mp hp with rfl | hp
      · k_extra "mm"
      rcases List.mem_cons.mp hp with rfl | hp
      · k_extra "mm"
      rcases List.mem_cons.mp hp with rfl | hp
      · have e1 : (setTo rs i (.int rs.length tk') r).map (fun r => Value.ref r.x) = (rs.map fun r => Value.ref r.x) ++ [Value.ref r.x] := by
          rw [setTo, List.map_append, map_modify_same (fun r : NdR => Value.ref r.x) (attTo _) (fun _ => rfl)]; rfl
        have e2 : (setTo rs i (.int rs.length tk') r).length = rs.length + 1 := by simp [setTo]
        rw [e1, e2]; k_extra "mm"
      (try k_extra "gf")
      obtain ⟨q, hq, hpq⟩ := List.mem_flatMap.mp hp
      (try k_extra "gu")
      rcases List.mem_append.mp hq with hq | hq
      · (try k_extra "gf")
        obtain ⟨j, b, hb, h⟩ := mem_modify hq
        (try k_extra "gu")
        rcases h with ⟨rfl, rfl⟩ | ⟨hne, rfl⟩
        · rw [hi] at hb
          cases hb
          simp only [NdR.cells, List.mem_cons, List.not_mem_nil, or_false] at hpq
          have skip : ∀ z, z ∈ tail → z ∈ (r.x, instObj 188 r.d) :: (r.d, r.row w.params) :: (r.c, listOf r.chv.toArray r.ec) :: (r.t, listOf r.atv.toArray r.et) :: (r.n, listOf #[] 0) :: (tr, instObj 377 td) :: (td, dictOf [keyE w.params (Str.ofString "rows") tk (.ref R)] 1) ::
              (R, listOf ((rs.map fun r => Value.ref r.x) ++ [Value.ref r.x]).toArray (rs.length + 1)) :: (rp.t, listOf (rp.atv.toArray.push (.int rs.length tk')) (rp.et + 1)) :: tail := fun z hz => by simp [hz]
          rcases hpq with rfl | rfl | rfl | rfl | rfl
          · exact skip _ ((htail _).mpr ⟨⟨rp, hm, by unfold NdR.cells; k_extra "mm"⟩, hx⟩)
          · exact skip _ ((htail _).mpr ⟨⟨rp, hm, by unfold NdR.cells; k_extra "mm"⟩, hd⟩)
          · exact skip _ ((htail _).mpr ⟨⟨rp, hm, by unfold NdR.cells; k_extra "mm"⟩, ht⟩)
          · simp [attTo]
          · exact skip _ ((htail _).mpr ⟨⟨rp, hm, by unfold NdR.cells; k_extra "mm"⟩, hnn⟩)
        · have hq' := List.mem_of_getElem? hb
          have : p ∈ tail := (htail p).mpr ⟨⟨q, hq', hpq⟩, F.apart hb hi hne p.1 (mem_cells hpq) rp.t htm⟩
          k_extra "mm"
      · rw [List.mem_singleton.mp hq] at hpq
        simp only [NdR.cells, List.mem_cons, List.not_mem_nil, or_false] at hpq
        rcases hpq with rfl | rfl | rfl | rfl | rfl <;> k_extra "mm"
    · refine dis_push (dis_modify (fun _ => rfl) hD) hr.nodup (fun a ha => ?_) fun q hq a ha hm' => ?_
      · have := a1 a ha
        simp only [List.mem_cons, List.not_mem_nil, or_false, not_or] at this
        exact this
      · (try k_extra "gf")
        obtain ⟨j, b, hb, h⟩ := mem_modify hq
        (try k_extra "gu")
        have hba : a ∈ b.adr := by
          rcases h with ⟨_, rfl⟩ | ⟨_, rfl⟩
          · exact ha
          · exact ha
        by_cases q' : a = rp.t
        · exact a2 a hm' q'
        · (try k_extra "gf")
          obtain ⟨o, ho⟩ := NdR.cell (P := w.params) hba
          (try k_extra "gu")
          exact a3 (a, o) ((htail _).mpr ⟨⟨b, List.mem_of_getElem? hb, ho⟩, q'⟩) hm'
theorem set_attribute_spec (w : World) (tr td R : Addr) (tk : Tok) (rs : List NdR) (i : Nat) (rp : NdR) (k : Int) (tp : Tok) (name uri loc value : Str) (t2 t3 t4 t5 : Tok)
    (hD : Dis tr td R rs) (hi : rs[i]? = some rp) (hk : k = (i : Int)) (hn : rs.length ≤ 1000) (hke : (rp.kind != Str.ofString "element") = false)
    (hat : rp.atv = [] ∨ ∃ (j : Int) (tj : Tok) (j9 : Nat) (ra : NdR), rp.atv = [Value.int j tj] ∧ rs[j9]? = some ra ∧ j = (j9 : Int) ∧ (ra.uri == uri) = true ∧ (ra.loc == loc) = false) :
    Spec w 276 [.ref tr, .int k tp, .str name t2, .str uri t3, .str loc t4, .str value t5] 60 100 (treeL w.params tr td tk R rs)
      (fun _ n' => SetP w tr td R tk rs i name uri loc value (.int k tp) n') := by
  have hm := List.mem_of_getElem? hi
  have F := dis_iff.mp hD
  have hF4 := F.h4 rp hm
  have htm : rp.t ∈ rp.adr := by simp [NdR.adr]
  refine set_attr_lift w tr td R tk rs i rp k tp name uri loc value _ hD hi fun tail h7 h8 hcells hT m1 m2 => ?_
  rcases hat with ha | ⟨j, tj, j9, ra, ha, hj9, hj, hu1, hu2⟩
  · rw [ha] at h8 hT ⊢
    exact set_attr0_raw w tr td R tk _ rs.length rp.et tail rs i rp k tp name uri loc value t2 t3 t4 t5 F.h2 F.h3 (hF4 _ htm).1.symm (hF4 _ htm).2.1.symm (hF4 _ htm).2.2.symm h7 h8 (by simpa using hn) hi hk hn hT hke m1 m2
  · have hne : ∀ p ∈ ra.cells w.params, p.1 ≠ rp.t ∨ ra = rp := fun p hp => by
      by_cases q : j9 = i
      · subst q; rw [hi] at hj9; exact .inr (Option.some.inj hj9).symm
      · exact .inl (F.apart hj9 hi q _ (mem_cells hp) _ htm)
    have hu := F.h5 ra (List.mem_of_getElem? hj9)
    have hx : ra.x ≠ rp.t := by
      rcases hne (ra.x, instObj 188 ra.d) (by unfold NdR.cells; k_extra "mm") with h | h
      · exact h
      · subst h; simp [NdR.adr] at hu; exact hu.1.2.2.1
    have hd : ra.d ≠ rp.t := by
      rcases hne (ra.d, ra.row w.params) (by unfold NdR.cells; k_extra "mm") with h | h
      · exact h
      · subst h; simp [NdR.adr] at hu; exact hu.2.1.2.1
    rw [ha] at h8 hT ⊢
    exact set_attr1_raw w tr td R tk _ rs.length rp.et tail rs i rp ra j9 j tj k tp name uri loc value t2 t3 t4 t5 F.h2 F.h3 (hF4 _ htm).1.symm (hF4 _ htm).2.1.symm (hF4 _ htm).2.2.symm h7 h8 (by simpa using hn) hi hk hn hT hke
      (by simp [hj9]) hj hu1 hu2 (hcells ra (List.mem_of_getElem? hj9) _ (by unfold NdR.cells; k_extra "mm") hx) (hcells ra (List.mem_of_getElem? hj9) _ (by unfold NdR.cells; k_extra "mm") hd) m1 m2

theorem reg_LT_1 : True := by
  k_with "binaryOp Mult int int" => (with_reducible refine PyProof.Rows.mul_int ?_)
  trivial
local macro_rules | `(tactic| k_steps) => `(tactic| repeat' (first | (k_unfold; (try dsimp only)) | (k_end; wrow_close) | ((first | (with_reducible show wpAny _ _ (exec _ _) _ _ _) | (with_reducible show wpAny _ _ (execs _ _) _ _ _)); (fail_if_success (fail_if_success k_fold)); refine fold_q ?_; intro qk9) | walk1 | (dsimp only; walk1) | (leave1; walk_say "STEP leave1"; try dsimp only) | fail "no step"))
theorem fm0 {x m : Int} (h : 0 < m) : 0 ≤ x.fmod m := Int.fmod_nonneg_of_pos x h
theorem fm1 {x m : Int} (h : 0 < m) : x.fmod m < m := Int.fmod_lt_of_pos x h
theorem mul_fm {a : Int} {m : Int} (b : Int) (h : 0 < m) (h2 : m < 2 ^ 64) : IntMulOk (a.fmod m) b :=
  IntMulOk.of_left (intBits_le_64 (Int.lt_of_lt_of_le (by decide) (fm0 h)) (Int.lt_trans (fm1 h) h2))
theorem reg_LT_2 : True := by
  k_with "binaryOp Mult int int" => (((with_reducible show wpAny _ _ (binaryOp Operator.Mult (Value.int _ _) (Value.int _ _)) _ _ _); k_dflt (refine mul_int ?_ (mul_fm (m := 2147483647) _ (by decide) (by decide)))))
  trivial
inductive TakeRawP (S : Addr) (top : Int) (v : Value) (n' : List (Addr × Obj)) : Prop
  | mk (k : Int) (t' : Tok) (a' b' : Int) (ta' tb' : Tok) (e' : Nat) (h1 : v = .int k t') (h2 : n' = [(S, listOf #[.int a' ta', .int b' tb'] e')]) (h3 : 0 ≤ k) (h4 : k < top) (h5 : 0 ≤ a') (h6 : 0 ≤ b') (h7 : b' < 2147483647)
theorem law_take_raw (w : World) (S : Addr) (a b top : Int) (ta tb t : Tok) (e : Nat) (ha : 0 ≤ a) (hb : 0 ≤ b) (hb2 : b < 2147483647) (ht : 0 < top) (ht2 : top < 1000) :
    Spec w 395 [.ref S, .int top t] 10 20 [(S, listOf #[.int a ta, .int b tb] e)] (TakeRawP S top) := by
  unfold Spec
  k_fill
  intro mean mg mb dp un gd cn cs a ccd cl outer A₀ base h₀ L m s Q E B F X N T hk hd hu hret
  refine wpAny_call ?_
  k_dflt ktr_enter
  k_steps
  all_goals refine hret _ _ _ _ (by k_asm) (by k_asm) (done_end (by assumption) (by assumption) (by assumption)) ⟨_, _, _, _, _, _, _, rfl, rfl, ?_, ?_, ?_, ?_, ?_⟩
  all_goals first | exact fm0 ht | exact fm1 ht | exact Int.fdiv_nonneg ha (Int.le_of_lt ht) | exact ha | exact hb | exact hb2 | exact fm0 (by decide) | exact fm1 (by decide)
/-- the pool of draws as the heap bears it -/
inductive Src (o : Obj) : Prop
  | mk (a b : Int) (ta tb : Tok) (e : Nat) (h1 : o = listOf #[.int a ta, .int b tb] e) (h2 : 0 ≤ a) (h3 : 0 ≤ b) (h4 : b < 2147483647)
inductive TakeP (S : Addr) (top : Int) (v : Value) (n' : List (Addr × Obj)) : Prop
  | mk (k : Int) (t' : Tok) (o' : Obj) (h1 : v = .int k t') (h2 : n' = [(S, o')]) (h3 : Src o') (h4 : 0 ≤ k) (h5 : k < top)
theorem law_take_spec (w : World) (S : Addr) (o : Obj) (top : Int) (t : Tok) (hs : Src o) (ht : 0 < top) (ht2 : top < 1000) :
    Spec w 395 [.ref S, .int top t] 10 20 [(S, o)] (TakeP S top) := by
  (try k_extra "gf")
  obtain ⟨a, b, ta, tb, e, rfl, ha, hb, hb2⟩ := hs
  (try k_extra "gu")
  refine (law_take_raw w S a b top ta tb t e ha hb hb2 ht ht2).conseq ?_
  intro v n' zr2
  (try k_extra "gf")
  obtain ⟨k, t', a', b', ta', tb', e', rfl, rfl, h1, h2, h3, h4, h5⟩ := zr2
  (try k_extra "gu")
  exact ⟨_, fun _ h => h, k, t', _, rfl, rfl, ⟨a', b', ta', tb', e', rfl, h3, h4, h5⟩, h1, h2⟩
inductive Split (x : Addr × Obj) : List (Addr × Obj) → List (Addr × Obj) → Prop
  | head (r : List (Addr × Obj)) : Split x (x :: r) r
  | tail (y : Addr × Obj) {r r' : List (Addr × Obj)} (h : Split x r r') : Split x (y :: r) (y :: r')
theorem Split.mem {x : Addr × Obj} {r r' : List (Addr × Obj)} (h : Split x r r') : x ∈ r := by
  induction h with
  | head => exact List.mem_cons_self
  | tail _ _ ih => exact List.mem_cons_of_mem _ ih
theorem Split.sub {x : Addr × Obj} {r r' : List (Addr × Obj)} (h : Split x r r') : ∀ p ∈ r', p ∈ r := by
  induction h with
  | head => exact fun p hp => List.mem_cons_of_mem _ hp
  | tail _ _ ih => exact fun p hp => List.mem_cons.mpr ((List.mem_cons.mp hp).imp id (ih p))
/-- nothing of a ledger lies at an address -/
def Off (a : Addr) (l : List (Addr × Obj)) : Prop := ∀ p ∈ l, p.1 ≠ a
theorem Off.cons {a b : Addr} {o : Obj} {l : List (Addr × Obj)} (h : @Ne Nat b a) (r : Off a l) : Off a ((b, o) :: l) := fun p hp => by
  rcases List.mem_cons.mp hp with rfl | hp
  · exact h
  · exact r p hp
theorem Off.nil {a : Addr} : Off a [] := fun _ h => nomatch h
theorem Off.not {a : Addr} {l : List (Addr × Obj)} (h : Off a l) : ∀ p ∈ l, p.1 ∉ [a] := fun p hp e => h p hp (List.mem_singleton.mp e)
section
variable {w : World} {mean : ExcName → Option Value} {mg mb : Str → Option Value} {dp un : Nat} {gd : Option (List Code)} {cn : Str} {cs : Scope} {a : Addr} {ccd : Value} {cl : List (Str × Addr)} {outer : List Env} {A₀ : Around} {base h₀ : Heap} {L : Addr} {m : Str → Option Value} {s : Shared} {Q E : Value → Shared → Prop} {news rest : List (Addr × Obj)}
theorem use_take {S : Addr} {o : Obj} {top : Int} {t : Tok} (B : Below A₀ base outer h₀) (F : Fr h₀ L s.heap m) (X : (T0.heap_1 w.params).In h₀) (N : News h₀ L s.heap news) (T : Top V0 (looseW V0 [Str.ofString "write"]) mean mg mb h₀)
    (hk : cs.kind = .function) (hp : Split (S, o) news rest) (hs : Src o) (ht : 0 < top) (ht2 : top < 1000) (hoff : Off S rest) (hd : dp + 10 < recursionLimit) (hu : un + 20 < cLine)
    (ret : ∀ k t' o' h' tk', Src o' → 0 ≤ k → k < top → Fr h₀ L h' m → News h₀ L h' ((S, o') :: rest) → Q (.int k t') { s with heap := h', toks := tk' }) :
    wpAny (model PySem.Challenge.rw_on0191_01.row.toRowW.prog w) (ktrTop dp un gd cn cs L a ccd cl outer) (call (.ref 395) [.ref S, .int top t]) Q E s :=
  use_part (rest := rest) (law_take_spec w S o top t hs ht ht2) B F X N T hk (fun p hp' => by rw [List.mem_singleton.mp hp']; exact hp.mem) hp.sub hoff.not hd hu
    fun r n' h' tk' F' N' _ p => by
      (try k_extra "gf")
      obtain ⟨k, t', o', rfl, rfl, h1, h2, h3⟩ := p
      (try k_extra "gu")
      exact ret k t' o' h' tk' h1 h2 h3 F' N'
end
theorem reg_LT_3 : True := by
  k_with "call ref" => (((with_reducible show wpAny _ _ (call (Value.ref 395) _) _ _ _); k_here; k_dflt (refine' use_take ?zqB ?zqF ?zqX ?zqN ?zqT ?zqk ?zqp ?zqhs ?zqht ?zqht2 ?zqo ?zqd ?zqu ?_; (case zqB => k_asm); (case zqF => k_asm); (case zqX => k_asm); (case zqN => k_asm); (case zqT => k_asm); (case zqp => with_reducible repeat (first | exact Split.head _ | refine Split.tail _ ?_)); (case zqhs => assumption); (case zqht => first | decide | assumption | omega); (case zqht2 => first | decide | assumption | omega); (case zqo => repeat (first | exact Off.nil | assumption | refine Off.cons (by first | assumption | omega) ?_)); (case zqk => first | exact rfl | assumption); (case zqd => ktr_room); (case zqu => ktr_units); k_whole); intro km9 tm9 om9 hm9 tkm9 hsm9 hk0 hk1 Fm9 Nm9; (try k_sweep); (try dsimp only)))
  trivial
section
variable {prog : Program} {w : World} {A : Around} {E : Value → Shared → Prop} {s : Shared} {h₀ : Heap} {L : Addr} {m : Str → Option Value} {news : List (Addr × Obj)}
theorem item_any {value slice : PySem.Expr} {l : Addr} {its : Array Value} {n : Nat} {k : Int} {u : Tok} {Q : Value → Shared → Prop} (N : News h₀ L s.heap news) (hm : (l, listOf its n) ∈ news) (h0 : 0 ≤ k) (h1 : k < (its.size : Int)) (hs : its.size ≤ 16777216)
    (h : ∀ (i : Nat) v, its[i]? = some v → k = (i : Int) → Q v s) (hsb : subscripted slice false (.ref l) (.int k u) = operate [.ref l, .int k u] (getItem (.ref l) (.int k u)) := by with_unfolding_all rfl) :
    wpAny (model prog w) A (subscriptTail value slice (.ref l) (.int k u)) Q E s := by
  have hlt : k.toNat < its.size := by omega
  have hx : its[k.toNat]? = some its[k.toNat] := Array.getElem?_eq_getElem hlt
  exact item_N N hm hx (by omega) hs (h _ _ hx (by omega)) hsb
end
theorem reg_LT_4 : True := by
  k_with "subscriptTail Name Call ref int" => ((k_dflt (refine' item_any ?zqN ?zqm ?zqh0 ?zqh1 ?zqz ?_; (case zqN => k_asm); (case zqm => k_mem); (case zqh0 => first | assumption | omega); (case zqh1 => first | assumption | omega); (case zqz => first | assumption | (simp only [List.size_toArray]; omega)); k_whole; intro im9 vm9 xm9 em9)))
  trivial
inductive OneP (S D : Addr) (vals : List Value) (c : Nat) (v : Value) (n' : List (Addr × Obj)) : Prop
  | mk (o' : Obj) (h1 : v ∈ vals) (h2 : n' = [(S, o'), (D, listOf vals.toArray c)]) (h3 : Src o')
theorem law_one_spec (w : World) (S D : Addr) (o : Obj) (vals : List Value) (c : Nat) (hs : Src o) (hne : @Ne Nat S D) (h1 : 0 < (vals.length : Int)) (h2 : (vals.length : Int) < 1000) :
    Spec w 402 [.ref S, .ref D] 30 60 [(S, o), (D, listOf vals.toArray c)] (OneP S D vals c) := by
  have hne' : @Ne Nat D S := hne.symm
  unfold Spec
  k_fill
  intro mean mg mb dp un gd cn cs a ccd cl outer A₀ base h₀ L m s Q E B F X N T hk hd hu hret
  refine wpAny_call ?_
  k_dflt ktr_enter
  k_steps
  all_goals refine hret _ _ _ _ (by k_asm) (by k_asm) (done_end (by assumption) (by assumption) (by assumption)) ⟨_, ?_, rfl, by assumption⟩
  all_goals (rename _[_]? = some _ => x9; rw [List.getElem?_toArray] at x9; exact List.mem_of_getElem? x9)
local macro_rules | `(tactic| k_steps) => `(tactic| repeat' (first | (k_unfold; (try dsimp only)) | (k_end; wrow_close) | walk1 | (dsimp only; walk1) | (leave1; walk_say "STEP leave1"; try dsimp only) | fail "no step"))

/-- what a node of the tree bears -/
inductive Nd where
  | el (name : Str) (ats : List (Str × Str))
  | tx (v : Str)
  | cm (v : Str)
  | pi (v : Str)
/-- a row of sibling nodes: the first, what is in it, and the others -/
inductive Fo where
  | nil
  | cons (n : Nd) (kids rest : Fo)
def Nd.isEl : Nd → Bool
  | .el _ _ => true
  | _ => false
def Fo.size : Fo → Nat
  | .nil => 0
  | .cons _ k r => 1 + k.size + r.size
def Fo.nodes : Fo → List Nd
  | .nil => []
  | .cons n k r => n :: (k.nodes ++ r.nodes)
def Fo.app : Fo → Fo → Fo
  | .nil, g => g
  | .cons n k r, g => .cons n k (r.app g)
theorem Fo.size_app (f g : Fo) : (f.app g).size = f.size + g.size := by
  induction f with
  | nil => simp [Fo.app, Fo.size]
  | cons n k r _ ih => simp only [Fo.app, Fo.size, ih]; omega
theorem Fo.nodes_app (f g : Fo) : (f.app g).nodes = f.nodes ++ g.nodes := by
  induction f with
  | nil => rfl
  | cons n k r _ ih => simp [Fo.app, Fo.nodes, ih]
theorem Fo.nodes_length (f : Fo) : f.nodes.length = f.size := by
  induction f with
  | nil => rfl
  | cons n k r h1 h2 => simp [Fo.nodes, Fo.size, h1, h2]; omega
inductive AttC (rs : List NdR) (n x : Str) (rec : List Value → Prop) (vs : List Value) : Prop
  | mk (i : Nat) (t : Tok) (r : NdR) (vs' : List Value) (h1 : vs = .int (i : Int) t :: vs') (h2 : rs[i]? = some r) (h3 : r.name = n) (h4 : r.uri = Str.ofString "") (h5 : r.value = x) (h6 : rec vs')
def AttsAre (rs : List NdR) : List Value → List (Str × Str) → Prop
  | vs, [] => vs = []
  | vs, (n, x) :: l => AttC rs n x (fun v => AttsAre rs v l) vs
/-- a row of the tree is such a node -/
def NodeIs (rs : List NdR) (r : NdR) : Nd → Prop
  | .el name ats => r.kind = Str.ofString "element" ∧ r.name = name ∧ r.uri = Str.ofString "" ∧ AttsAre rs r.atv ats
  | .tx v => r.kind = Str.ofString "text" ∧ r.value = v
  | .cm v => r.kind = Str.ofString "comment" ∧ r.value = v
  | .pi v => r.kind = Str.ofString "instruction" ∧ r.name = Str.ofString "go" ∧ r.value = v
inductive RepTC (rs : List NdR) (n : Nd) (r1 r2 : List Value → Prop) (vs : List Value) : Prop
  | mk (i : Nat) (t : Tok) (r : NdR) (vs' : List Value) (h1 : vs = .int (i : Int) t :: vs') (h2 : rs[i]? = some r) (h3 : NodeIs rs r n) (h4 : r1 r.chv) (h5 : r2 vs')
def RepT (rs : List NdR) : List Value → Fo → Prop
  | vs, .nil => vs = []
  | vs, .cons n k f => RepTC rs n (fun v => RepT rs v k) (fun v => RepT rs v f) vs
theorem RepT.app {rs : List NdR} {vs us : List Value} {f g : Fo} (h1 : RepT rs vs f) (h2 : RepT rs us g) : RepT rs (vs ++ us) (f.app g) := by
  induction f generalizing vs with
  | nil => rw [show vs = [] from h1]; exact h2
  | cons n k r _ ih =>
    (try k_extra "gf")
    obtain ⟨i, t, row, vs', rfl, hi, hn, hk, hr⟩ := h1
    (try k_extra "gu")
    exact ⟨i, t, row, vs' ++ us, rfl, hi, hn, hk, ih hr⟩
theorem RepT.len {rs : List NdR} {vs : List Value} {f : Fo} (h : RepT rs vs f) : vs.length ≤ f.size := by
  induction f generalizing vs with
  | nil => rw [show vs = [] from h]; exact Nat.le_refl _
  | cons n k r _ ih =>
    (try k_extra "gf")
    obtain ⟨i, t, row, vs', rfl, hi, hn, hk, hr⟩ := h
    (try k_extra "gu")
    have := ih hr
    simp only [List.length_cons, Fo.size]; omega
inductive NdsC (rs : List NdR) (n : Nd) (r2 : List Value → Prop) (vs : List Value) : Prop
  | mk (i : Nat) (t : Tok) (r : NdR) (vs' : List Value) (h1 : vs = .int (i : Int) t :: vs') (h2 : rs[i]? = some r) (h3 : NodeIs rs r n) (h4 : r2 vs')
def NodesAt (rs : List NdR) : List Value → List Nd → Prop
  | vs, [] => vs = []
  | vs, n :: l => NdsC rs n (fun v => NodesAt rs v l) vs
theorem NodesAt.snoc {rs : List NdR} {vs : List Value} {l : List Nd} {i : Nat} {t : Tok} {r : NdR} {n : Nd} (h : NodesAt rs vs l) (hi : rs[i]? = some r) (hn : NodeIs rs r n) : NodesAt rs (vs ++ [.int (i : Int) t]) (l ++ [n]) := by
  induction l generalizing vs with
  | nil => rw [show vs = [] from h]; exact ⟨i, t, r, [], rfl, hi, hn, rfl⟩
  | cons n' l ih =>
    (try k_extra "gf")
    obtain ⟨j, u, q, vs', rfl, hj, hn', hr⟩ := h
    (try k_extra "gu")
    exact ⟨j, u, q, _, rfl, hj, hn', ih hr⟩
theorem NodesAt.len {rs : List NdR} {vs : List Value} {l : List Nd} (h : NodesAt rs vs l) : vs.length = l.length := by
  induction l generalizing vs with
  | nil => rw [show vs = [] from h]; rfl
  | cons n l ih =>
    (try k_extra "gf")
    obtain ⟨i, t, row, vs', rfl, hi, hn, hr⟩ := h
    (try k_extra "gu")
    simp [ih hr]

/-- a place where the walk stands still -/
def Held (P : Prop) : Prop := P
theorem Held.out {P : Prop} (h : Held P) : P := h
theorem reg_WA_1 : True := by
  k_with "exec While" => ((k_here; refine Held.out ?_))
  trivial
section
variable {prog : Program} {w : World} {A : Around} {E : Value → Shared → Prop} {s : Shared} {h₀ : Heap} {L : Addr} {m : Str → Option Value} {news news' : List (Addr × Obj)} {Q : Value → Shared → Prop}
theorem lst_N {l : Addr} {its : Array Value} {n : Nat} (N : News h₀ L s.heap news) (hm : (l, listOf its n) ∈ news) : s.heap.IsList l its := ⟨_, (N _ hm).1, rfl, n, rfl⟩
theorem rev_N {value slice : PySem.Expr} {l : Addr} {xs : List Value} {n : Nat} {vk : Value} {ops : List Value} (F : Fr h₀ L s.heap m) (N : News h₀ L s.heap news) (hm : (l, listOf (List.toArray xs) n) ∈ news) (pk : IsPart vk (some (-1)))
    (h : ∀ D h', Fr h₀ L h' m → News h₀ L h' ((D, listOf (List.toArray xs.reverse) 0) :: news) → (∀ p ∈ news, p.1 < D) → Q (.ref D) { s with heap := h' })
    (hs : subscripted slice false (.ref l) (.ref s.heap.objs.size) = operate ops (getItem (.ref l) (.ref s.heap.objs.size))) (ht : ∀ r, letTemporaryGo value (.ref l) r = pure ()) (hz : xs.length ≤ 1000000) :
    wpAny (model prog w) A (subscriptTail value slice (.ref l) (.ref s.heap.objs.size)) Q E { s with heap := s.heap.push { cls := .type "slice", data := .fields #[.none, .none, vk] } } :=
  krv_lit F N (lst_N N hm) pk rfl h hs ht (by rw [List.size_toArray, sizeLine_eq]; omega)
theorem pop_N {D : Addr} {n : Nat} {xs : List Value} {y : Value} (F : Fr h₀ L s.heap m) (N : News h₀ L s.heap news) (U : Upd D (listOf (List.toArray (xs ++ [y])) n) (listOf (List.toArray xs) (n + 1)) news news')
    (hz : xs.length ≤ 1000000) (h : ∀ h', Fr h₀ L h' m → News h₀ L h' news' → Q y { s with heap := h' }) : wpAny (model prog w) A (call (.builtin "list.pop") [.ref D]) Q E s :=
  kl_pop F N (kpa_last y xs) U (by rw [List.length_append, sizeLine_eq]; simp; omega) h
theorem cat_N {a b : Addr} {xs ys : List Value} {n k : Nat} (F : Fr h₀ L s.heap m) (N : News h₀ L s.heap news) (ha : (a, listOf (List.toArray xs) n) ∈ news) (hb : (b, listOf (List.toArray ys) k) ∈ news)
    (h : ∀ D h', Fr h₀ L h' m → News h₀ L h' ((D, listOf (List.toArray (xs ++ ys)) 0) :: news) → (∀ p ∈ news, p.1 < D) → Q (.ref D) { s with heap := h' })
    (hz : xs.length + ys.length ≤ 1000000) : wpAny (model prog w) A (binaryOp .Add (.ref a) (.ref b)) Q E s :=
  kmk_add_lit F N (lst_N N ha) (lst_N N hb) rfl h (by rw [sizeLine_eq]; simp; omega)
theorem ne_no {a b : Addr} {n k : Nat} (N : News h₀ L s.heap news) (ha : (a, listOf (List.toArray []) n) ∈ news) (hb : (b, listOf (List.toArray []) k) ∈ news) (hu : A.units < cLine) (h : Q (.bool false) s) :
    wpAny (model prog w) A (compareOp .NotEq (.ref a) (.ref b)) Q E s := by
  have e := PySem.SeqAt.RcNeAt.lists (A := A) (e := fun _ => true) (lst_N N ha) (lst_N N hb) rfl hu (fun j h1 => absurd h1 (Nat.not_lt_zero _))
  exact e prog w E Q h
theorem ne_yes {a b : Addr} {n k : Nat} {xs : List Value} {y : Value} (N : News h₀ L s.heap news) (ha : (a, listOf (List.toArray (xs ++ [y])) n) ∈ news) (hb : (b, listOf (List.toArray []) k) ∈ news) (hu : A.units < cLine) (h : Q (.bool true) s) :
    wpAny (model prog w) A (compareOp .NotEq (.ref a) (.ref b)) Q E s :=
  PySem.SeqAt.RcNeAt.lists_lengths (A := A) (lst_N N ha) (lst_N N hb) (by simp) hu prog w E Q h
end
theorem reg_WA_2 : True := by
  k_with "subscriptTail Name Slice ref ref" => ((k_here; (with_reducible show wpAny _ _ (subscriptTail _ (PySem.Expr.Slice none none (some _) _) (Value.ref _) (Value.ref _)) _ _ _); k_dflt (refine' rev_N ?zqF ?zqN ?zql ?zqk ?_ ?zqs ?zqt ?zqz; (case zqF => k_asm); (case zqN => k_asm); (case zql => k_mem); (case zqk => exact IsPart.int _ _); (case zqs => with_unfolding_all rfl); (case zqt => kmk_pure); (case zqz => first | assumption | omega)); intro D' h' F' N' l1; (try k_lt l1); (try k_sweep)))
  trivial
theorem reg_WA_3 : True := by
  k_with "call builtin:list.pop" => ((k_here; (with_reducible show wpAny _ _ (call (Value.builtin _) [Value.ref _]) _ _ _); k_dflt (refine' pop_N ?zqF ?zqN ?zqU ?zqz ?_; (case zqF => k_asm); (case zqN => k_asm); (case zqU => k_upd); (case zqz => first | assumption | (simp only [List.length_reverse]; omega))); intro h' F' N'; (try k_sweep)))
  trivial
theorem reg_WA_4 : True := by
  k_with "binaryOp Add ref ref" => ((k_here; (with_reducible show wpAny _ _ (binaryOp _ (Value.ref _) (Value.ref _)) _ _ _); k_dflt (refine' cat_N ?zqF ?zqN ?zqa ?zqb ?_ ?zqz; (case zqF => k_asm); (case zqN => k_asm); (case zqa => k_mem); (case zqb => k_mem); (case zqz => first | assumption | (simp only [List.length_reverse, List.length_map]; omega))); intro D' h' F' N' l1; (try k_lt l1); (try k_sweep)))
  trivial
theorem reg_WA_5 : True := by
  k_with "compareOp NotEq ref ref" => ((k_here; (with_reducible show wpAny _ _ (compareOp CmpOp.NotEq (Value.ref _) (Value.ref _)) _ _ _); k_dflt (first | (refine' ne_no ?zqN ?zqa ?zqb ?zqu ?_; (case zqN => k_asm); (case zqa => with_reducible k_mem); (case zqb => with_reducible k_mem); (case zqu => units_room)) | (refine' ne_yes ?zqN ?zqa ?zqb ?zqu ?_; (case zqN => k_asm); (case zqa => with_reducible k_mem); (case zqb => with_reducible k_mem); (case zqu => units_room)) | (refine' ne_no ?zqN ?zqa ?zqb ?zqu ?_; (case zqN => k_asm); (case zqa => k_mem); (case zqb => k_mem); (case zqu => units_room)) | (refine' ne_yes ?zqN ?zqa ?zqb ?zqu ?_; (case zqN => k_asm); (case zqa => k_mem); (case zqb => k_mem); (case zqu => units_room)))))
  trivial
section
variable {prog : Program} {w : World} {A : Around} {E : Value → Shared → Prop} {Q : Flow → Shared → Prop} {s : Shared} {env : Env} {h₀ : Heap} {L : Addr}
inductive W3 (x1 x2 x3 : Str) (vt : Value) (J : Nat → Value → Value → List (Addr × Obj) → Prop) (n : Nat) (m : Str → Option Value) (nx : List (Addr × Obj)) : Prop
  | mk (vl vd : Value) (h1 : m x1 = some vl) (h2 : m x2 = some vd) (h3 : m x3 = some vt) (h4 : J n vl vd nx)
theorem While_3 {test : Expr} {body : List Stmt} {pos : Pos} {m : Str → Option Value} {news : List (Addr × Obj)} (x1 x2 x3 : Str) (J : Nat → Value → Value → List (Addr × Obj) → Prop) {n₀ : Nat} {vl₀ vd₀ vt : Value}
    (F : Fr h₀ L s.heap m) (N : News h₀ L s.heap news) (e1 : m x1 = some vl₀) (e2 : m x2 = some vd₀) (e3 : m x3 = some vt) (hJ : J n₀ vl₀ vd₀ news)
    (turn : ∀ n (u : Str → Option Value) (vl vd : Value) news₁ h₁ tk₁, Fr h₀ L h₁ (fun y => if y = x1 then some vl else if y = x2 then some vd else if y = x3 then some vt else u y) → News h₀ L h₁ news₁ → J n vl vd news₁ →
      wpAny (model prog w) A (isTrue test env (eval test env)) (fun b s₂ =>
        if b = true then wpAny (model prog w) A (execs body env) (WhileStep h₀ L s (W3 x1 x2 x3 vt J) n) E s₂ else Q .next s₂) E { s with heap := h₁, toks := tk₁ })
    (hE : PassesOwn (model prog w) A env E := by passes_own) :
    wpAny (model prog w) A (exec (.While test body [] pos) env) Q E s := by
  refine While_inv (W3 x1 x2 x3 vt J) (n₀ := n₀) F N ⟨vl₀, vd₀, e1, e2, e3, hJ⟩ ?_ hE
  intro n m₁ news₁ h₁ tk₁ F₁ N₁ zr7
  (try k_extra "gf")
  obtain ⟨vl, vd, q1, q2, q3, hJ₁⟩ := zr7
  (try k_extra "gu")
  refine turn n m₁ vl vd news₁ h₁ tk₁ ?_ N₁ hJ₁
  have e : (fun y => if y = x1 then some vl else if y = x2 then some vd else if y = x3 then some vt else m₁ y) = m₁ := by
    funext y
    by_cases h1 : y = x1
    · simp [h1, q1]
    · by_cases h2 : y = x2
      · subst h2; simp only [if_neg h1, if_true]; exact q2.symm
      · by_cases h3 : y = x3
        · subst h3; simp only [if_neg h1, if_neg h2, if_true]; exact q3.symm
        · simp only [if_neg h1, if_neg h2, if_neg h3]
  rw [e]; exact F₁
theorem W3.step {x1 x2 x3 : Str} {vt vl vd : Value} {J : Nat → Value → Value → List (Addr × Obj) → Prop} {n n' tk : Nat} {h' : Heap} {m : Str → Option Value} {all nx : List (Addr × Obj)} (F : Fr h₀ L h' m) (N : News h₀ L h' all) (hsub : ∀ p ∈ nx, p ∈ all) (hn : n' < n)
    (e1 : m x1 = some vl) (e2 : m x2 = some vd) (e3 : m x3 = some vt) (hJ : J n' vl vd nx) : WhileStep h₀ L s (W3 x1 x2 x3 vt J) n .next { s with heap := h', toks := tk } :=
  WhileStep.intro F (fun p hp => N p (hsub p hp)) hn ⟨vl, vd, e1, e2, e3, hJ⟩
end
theorem News.less {h₀ h : Heap} {L : Addr} {all nx : List (Addr × Obj)} (N : News h₀ L h all) (hs : ∀ p ∈ nx, p ∈ all) : News h₀ L h nx := fun p hp => N p (hs p hp)

inductive BenJ (rs : List NdR) (news : List (Addr × Obj)) (f : Fo) (n : Nat) (vl vd : Value) (nx : List (Addr × Obj)) : Prop
  | mk (ll ld : Addr) (cl cd : Nat) (ids out : List Value) (g : Fo) (done : List Nd) (h1 : vl = .ref ll) (h2 : vd = .ref ld) (h3 : nx = (ll, listOf (List.toArray ids.reverse) cl) :: (ld, listOf (List.toArray out) cd) :: news) (h4 : @LT.lt Nat _ ld ll) (h5 : (∀ p ∈ news, p.1 < ld)) (h6 : AllLt ld news) (h7 : AllLt ll news) (h8 : RepT rs ids g) (h9 : NodesAt rs out done) (h10 : done ++ g.nodes = f.nodes) (h11 : n = g.size)
inductive BenP (rs : List NdR) (news : List (Addr × Obj)) (f : Fo) (v : Value) (n' : List (Addr × Obj)) : Prop
  | mk (l : Addr) (c : Nat) (out : List Value) (h1 : v = .ref l) (h2 : n' = (l, listOf (List.toArray out) c) :: news) (h3 : NodesAt rs out f.nodes) (h4 : (∀ p ∈ news, p.1 < l))
local macro_rules | `(tactic| k_steps) => `(tactic| repeat' (first | (k_unfold; (try dsimp only)) | (k_end; wrow_close) | ((first | (with_reducible show wpAny _ _ (exec _ _) _ _ _) | (with_reducible show wpAny _ _ (execs _ _) _ _ _)); (fail_if_success (fail_if_success k_fold)); refine fold_q ?_; intro qk9) | walk1 | (dsimp only; walk1) | (leave1; walk_say "STEP leave1"; try dsimp only) | fail "no step"))
theorem beneath_spec (w : World) (news : List (Addr × Obj)) (tr : Addr) (rs : List NdR) (i : Nat) (r : NdR) (k : Int) (t : Tok) (f : Fo) (hT : TreeIn w.params news tr rs) (hi : rs[i]? = some r) (hk : k = (i : Int)) (hn : rs.length ≤ 1000)
    (hf : RepT rs r.chv f) (hs : f.size ≤ 1000) :
    Spec w 28 [.ref tr, .int k t] 60 100 news (BenP rs news f) := by
  (try k_extra "gf")
  obtain ⟨td, tkT, R, t1, t2, t3⟩ := hT.open
  (try k_extra "gu")
  (try k_extra "gf")
  obtain ⟨m1, m2, m3, m4, m5⟩ := hT.node hi
  (try k_extra "gu")
  have hz : r.chv.length ≤ 1000 := Nat.le_trans hf.len hs
  unfold Spec
  k_fill
  intro mean mg mb dp un gd cn cs a ccd cl outer A₀ base h₀ L m s Q E B F X N T hk hd hu hret
  refine wpAny_call ?_
  k_dflt ktr_enter
  k_steps
  unfold Held
  rename (∀ p ∈ news, p.1 < _) => l1
  refine While_3 (Str.ofString "left") (Str.ofString "found") (Str.ofString "tree") (BenJ rs news f) (n₀ := f.size) (by assumption) (News.less (by assumption) ?_) rfl rfl rfl ⟨_, _, 0, 0, r.chv, [], f, [], rfl, rfl, rfl, by omega, by assumption, allLt_of (by assumption), ?_, hf, rfl, rfl, rfl⟩ ?_
  · intro p hp
    rcases List.mem_cons.mp hp with rfl | hp
    · exact List.mem_cons_self
    · exact List.mem_cons_of_mem _ (List.mem_cons_of_mem _ hp)
  · tbn_find
  intro n u vl vd nx h₁ tk₁ F₁ N₁ zr9
  (try k_extra "gf")
  obtain ⟨ll, ld, cl, cd, ids, out, g, done, rfl, rfl, rfl, lt, ln, an1, an2, hg, ho, hnd, rfl⟩ := zr9
  (try k_extra "gu")
  have hgs : done.length + g.size ≤ 1000 := by
    have := congrArg List.length hnd
    rw [List.length_append, Fo.nodes_length, Fo.nodes_length] at this
    omega
  have hol := ho.len
  cases g with
  | nil =>
    obtain rfl : ids = [] := hg
    rw [List.reverse_nil] at N₁
    k_steps
    have sub : ∀ all : List (Addr × Obj), (ld, listOf (List.toArray out) cd) ∈ all → (∀ p ∈ news, p ∈ all) → ∀ p ∈ (ld, listOf (List.toArray out) cd) :: news, p ∈ all := fun all h1 h2 p hp => by
      rcases List.mem_cons.mp hp with rfl | hp
      · exact h1
      · exact h2 p hp
    rw [show done = f.nodes by simpa [Fo.nodes] using hnd] at ho
    exact hret _ _ _ _ (by k_asm) (News.less (by k_asm) (sub _ (by k_mem) fun p hp => by k_mem)) (done_end (by assumption) (by assumption) (News.less (by assumption) (sub _ (by k_mem) fun p hp => by k_mem))) ⟨ld, cd, out, rfl, rfl, ho, ln⟩
  | cons nd kids rest =>
    (try k_extra "gf")
    obtain ⟨j, tj, q, vs', rfl, hj, hnq, hk', hr'⟩ := hg
    (try k_extra "gu")
    rw [List.reverse_cons] at N₁
    have hkl := hk'.len
    have hrl := hr'.len
    simp only [Fo.size] at hgs ⊢
    have hz' : q.chv.length ≤ 1000 := by omega
    have hv' : vs'.length ≤ 1000 := by omega
    have ho' : out.length ≤ 1000 := by omega
    k_steps
    refine W3.step (vl := .ref _) (vd := .ref ld) (n' := kids.size + rest.size) (by assumption) (by assumption) ?_ (by omega) rfl rfl rfl ⟨_, ld, 0, cd + 1, q.chv ++ vs', out ++ [.int j tj], kids.app rest, done ++ [nd], rfl, rfl, rfl, ?_, ln, an1, ?_, hk'.app hr', ho.snoc hj hnq, ?_, (Fo.size_app ..).symm⟩
    · intro p hp
      rw [List.reverse_append, ← List.push_toArray] at hp
      rcases List.mem_cons.mp hp with rfl | hp
      · k_mem
      rcases List.mem_cons.mp hp with rfl | hp
      · k_mem
      · k_mem
    · omega
    · tbn_find
    · rw [Fo.nodes_app, ← hnd]; simp [Fo.nodes]
local macro_rules | `(tactic| k_steps) => `(tactic| repeat' (first | (k_unfold; (try dsimp only)) | (k_end; wrow_close) | walk1 | (dsimp only; walk1) | (leave1; walk_say "STEP leave1"; try dsimp only) | fail "no step"))

section
variable {prog : Program} {w : World} {A : Around} {E : Value → Shared → Prop} {s : Shared} {h₀ : Heap} {L : Addr} {m : Str → Option Value}
inductive LedIn (prog : Program) (w : World) (A : Around) (h₀ : Heap) (L : Addr) (m : Str → Option Value) (ifs : List Expr) (elt : Expr) (x : Str) (scope : Scope) (cl : List (Str × Addr)) (env : Env) (p : Value → Bool) (G : Value → Value → Prop) (Q : Value → Shared → Prop) (xv : Value) (s₁ : Shared) : Prop
  | mk (l : Addr) (c : Nat) (news : List (Addr × Obj)) (xs : List Value) (h1 : xv = .ref l) (h2 : (l, listOf (List.toArray xs) c) ∈ news) (h3 : xs.length ≤ 1000000) (h4 : Fr h₀ L s₁.heap m) (h5 : News h₀ L s₁.heap news) (h6 : (∀ C v s₂ m₂ oC E', v ∈ xs → LCg.NsObj oC m₂ → m₂ x = some v → Fr h₀ L s₂.heap m → News h₀ L s₂.heap ((C, oC) :: news) → wpAny (model prog w) A (forIn ifs true fun c r => if r = true then do let ok ← isTrue c (compEnvC scope cl C env) (eval c (compEnvC scope cl C env)); pure (ForInStep.yield ok) else pure (ForInStep.yield r)) (fun ok s₄ => ok = p v ∧ Keeps s₂ s₄) E' s₂)) (h7 : (∀ C v s₂ m₂ oC E', v ∈ xs → p v = true → LCg.NsObj oC m₂ → m₂ x = some v → Fr h₀ L s₂.heap m → News h₀ L s₂.heap ((C, oC) :: news) → wpAny (model prog w) A (eval elt (compEnvC scope cl C env)) (fun y s₃ => G v y ∧ Keeps s₂ s₃) E' s₂)) (h8 : (∀ D ys n h' tk, Fr h₀ L h' m → News h₀ L h' ((D, listOf (List.toArray ys) n) :: news) → (∀ p ∈ news, p.1 ≠ D) → Paired G (xs.filter p) ys → Q (.ref D) { s₁ with heap := h', toks := tk }))
/-- a list comprehension over a list of the ledger whose tests and elements turn nothing -/
theorem comp_led {env : Env} {elt iter : Expr} {ifs : List Expr} {x : Str} {px : Pos} {scope : Scope} {cl : List (Str × Addr)} {pos : Pos} {Q : Value → Shared → Prop} (p : Value → Bool) (G : Value → Value → Prop)
    (_F₀ : Fr h₀ L s.heap m) (hh : A.handled = none) (hclos : closureFor scope env = pure cl) (hcell : ∀ y ∈ scope.names, y.2 ≠ .cell) (hkind : scope.kind = .function)
    (hnames : ∀ y ∈ scope.names, y.2 = .local → scope.names.lookup y.1 = some .local) (hx : scope.names.lookup x = some .local)
    (h : wpAny (model prog w) A (eval iter env) (fun xv s₁ => Held (LedIn prog w A h₀ L m ifs elt x scope cl env p G Q xv s₁)) E s)
    (hs : ∀ x, foldedSetIterable iter env x = pure x := by intro _; rfl) :
    wpAny (model prog w) A (eval (.ListComp elt [⟨.Name x px, iter, ifs, 0⟩] scope pos) env) Q E s := by
  refine wpAny_ListComp_free p G hclos hcell hkind hnames hx (wpAny_mono h (fun xv s₁ h₁ => ?_) fun _ _ e => e) hs
  (try k_extra "gf")
  obtain ⟨l, c, news, xs, rfl, hm, hlen, F, N, htest, helt, hQ⟩ := h₁
  (try k_extra "gu")
  have hl : s₁.heap.IsList l (List.toArray xs) := ⟨_, (N _ hm).1, rfl, c, rfl⟩
  have hne : l ≠ s₁.heap.objs.size := Nat.ne_of_lt (Heap.lt_size (N _ hm).1)
  refine wpAny_pyIter_list hl ?_
  let o : Obj := { cls := .type "list_iterator", data := .fields #[.ref l, rawInt 0] }
  have keep : ∀ b o', s₁.heap.get? b = some o' → (s₁.heap.push o).get? b = some o' := fun b o' e => Heap.get?_push_of_some _ e
  have old : ∀ b o', s₁.heap.get? b = some o' → b ∉ [s₁.heap.objs.size] := fun b o' e hm => by rw [List.mem_singleton.mp hm] at e; exact Nat.lt_irrefl _ (Heap.lt_size e)
  have W := Walks.list (prog := prog) (w := w) hh s₁.heap.objs.size l hne (List.toArray xs)
  have inxs : ∀ i v, (List.toArray xs)[i]? = some v → v ∈ xs := fun i v e => by rw [List.getElem?_toArray] at e; exact List.mem_of_getElem? e
  have upN : ∀ C (s₃ : Shared) m₃, s₁.heap.objs.size + 1 ≤ C → s₃.heap.Ns C m₃ → (∀ b o', b ∉ [s₁.heap.objs.size] → (s₁.heap.push o).get? b = some o' → s₃.heap.get? b = some o') →
      ∃ oC, LCg.NsObj oC m₃ ∧ Fr h₀ L s₃.heap m ∧ News h₀ L s₃.heap ((C, oC) :: news) := fun C s₃ m₃ hC hn hk => by
    have up : ∀ b o', s₁.heap.get? b = some o' → s₃.heap.get? b = some o' := fun b o' e => hk b o' (old b o' e) (keep b o' e)
    (try k_extra "gf")
    obtain ⟨oC, e, hoC⟩ := LCg.ns_obj hn
    (try k_extra "gu")
    refine ⟨oC, hoC, F.keeps up, fun q hq => ?_⟩
    rcases List.mem_cons.mp hq with rfl | hq
    · refine ⟨e, Nat.ne_of_gt (Nat.lt_trans F.ns.lt hC), ?_⟩
      cases z : h₀.get? C with
      | none => rfl
      | some o' => exact absurd (Nat.lt_trans (Heap.lt_size (F.keep _ _ z)) hC) (Nat.lt_irrefl _)
    · exact ⟨up _ _ (N q hq).1, (N q hq).2⟩
  have hsz : (s₁.heap.push o).objs.size = s₁.heap.objs.size + 1 := Heap.size_push ..
  refine ⟨s₁.heap.objs.size, _, _, _, _, _, rfl, W, by rw [List.size_toArray, sizeLine_eq]; omega, ⟨⟨_, Heap.get?_push_size _ rfl, rfl, rfl⟩, hl.at fun o e => Heap.get?_push_of_some _ e⟩, ?_, ⟨?_, ?_⟩, ?_⟩
  · intro b hb
    show b < (s₁.heap.push o).objs.size
    rw [hsz]
    rcases List.mem_cons.mp hb with rfl | hb
    · exact Nat.lt_succ_self _
    · rw [List.mem_singleton.mp hb]; exact Nat.lt_succ_of_lt (Heap.lt_size (N _ hm).1)
  · intro C i v s₃ m₃ E' hC hv hn hmx hk _
    obtain ⟨oC, a, b, c⟩ := upN C s₃ m₃ (by rw [← hsz]; exact hC) hn hk
    exact htest C v s₃ m₃ oC E' (inxs i v hv) a hmx b c
  · intro C i v s₃ m₃ E' hC hv hp hn hmx hk _
    obtain ⟨oC, a, b, c⟩ := upN C s₃ m₃ (by rw [← hsz]; exact hC) hn hk
    exact helt C v s₃ m₃ oC E' (inxs i v hv) hp a hmx b c
  · intro D h' tk ys vs hnew hlD hplD hlv hP hF hk
    have up : ∀ b o', s₁.heap.get? b = some o' → h'.get? b = some o' := fun b o' e => hk b o' (old b o' e) (keep b o' e)
    (try k_extra "gf")
    obtain ⟨n, hD⟩ := hplD
    (try k_extra "gu")
    have hD1 : ∀ b o', s₁.heap.get? b = some o' → b ≠ D := fun b o' e q => by
      have z := keep b o' e
      rw [q] at z; rw [show (s₁.heap.push o).get? D = none from hnew] at z; cases z
    have hvs : vs = xs := by
      apply List.ext_getElem?
      intro j
      cases e : vs[j]? with
      | none =>
        have := List.getElem?_eq_none_iff.mp e
        rw [hlv, List.size_toArray] at this
        exact (List.getElem?_eq_none_iff.mpr this).symm
      | some v => have := hP j v e; rw [List.getElem?_toArray] at this; exact this.symm
    rw [hvs] at hF
    refine hQ D ys.toList n h' tk (F.keeps up) (fun q hq => ?_) (fun q hq => hD1 _ _ (N q hq).1) hF
    rcases List.mem_cons.mp hq with rfl | hq
    · refine ⟨by rw [show (listOf (List.toArray ys.toList) n) = listOf ys n by rw [Array.toArray_toList]]; exact hD, ?_, ?_⟩
      · (try k_extra "gf")
        obtain ⟨oL, _, _, hL, _⟩ := F.ns
        (try k_extra "gu")
        exact (hD1 _ _ hL).symm
      · cases z : h₀.get? D with
        | none => rfl
        | some o' => exact absurd rfl (hD1 _ _ (F.keep _ _ z))
    · exact ⟨up _ _ (N q hq).1, (N q hq).2⟩
end

local macro_rules | `(tactic| k_steps) => `(tactic| repeat' (first | (k_unfold; (try dsimp only)) | (k_end; wrow_close) | ((first | (with_reducible show wpAny _ _ (exec _ _) _ _ _) | (with_reducible show wpAny _ _ (execs _ _) _ _ _)); (fail_if_success (fail_if_success k_fold)); refine fold_q ?_; intro qk9) | walk1 | (dsimp only; walk1) | (leave1; walk_say "STEP leave1"; try dsimp only) | fail "no step"))
/-- a triple that says nothing of what is off the ledger (a def with cells) -/
def SpecW (w : World) (f : Addr) (vs : List Value) (dm um : Nat) (news : List (Addr × Obj)) (post : Value → List (Addr × Obj) → Prop) : Prop :=
  ∀ (mean : ExcName → Option Value) (mg mb : Str → Option Value) (dp un : Nat) (gd : Option (List Code)) (cn : Str) (cs : Scope) (a : Addr) (ccd : Value) (cl : List (Str × Addr)) (outer : List Env) (A₀ : Around) (base h₀ : Heap) (L : Addr) (m : Str → Option Value) (s : Shared) (Q E : Value → Shared → Prop),
    Below A₀ base outer h₀ → Fr h₀ L s.heap m → (T0.heap_1 w.params).In h₀ → News h₀ L s.heap news → Top V0 (looseW V0 [Str.ofString "write"]) mean mg mb h₀ → cs.kind = .function → dp + dm < recursionLimit → un + um < cLine →
    (∀ r news' h' tk', Fr h₀ L h' m → News h₀ L h' news' → post r news' → Q r { s with heap := h', toks := tk' }) →
    wpAny (model PySem.Challenge.rw_on0191_01.row.toRowW.prog w) (ktrTop dp un gd cn cs L a ccd cl outer) (call (.ref f) vs) Q E s
theorem use_w {w : World} {f : Addr} {vs : List Value} {dm um : Nat} {post : Value → List (Addr × Obj) → Prop} {mean : ExcName → Option Value} {mg mb : Str → Option Value} {dp un : Nat} {gd : Option (List Code)} {cn : Str} {cs : Scope} {a : Addr} {ccd : Value} {cl : List (Str × Addr)} {outer : List Env} {A₀ : Around} {base h₀ : Heap} {L : Addr} {m : Str → Option Value} {s : Shared} {Q E : Value → Shared → Prop} {news : List (Addr × Obj)}
    (S : SpecW w f vs dm um news post) (B : Below A₀ base outer h₀) (F : Fr h₀ L s.heap m) (X : (T0.heap_1 w.params).In h₀) (N : News h₀ L s.heap news) (T : Top V0 (looseW V0 [Str.ofString "write"]) mean mg mb h₀)
    (hk : cs.kind = .function) (hd : dp + dm < recursionLimit) (hu : un + um < cLine)
    (ret : ∀ r n' h' tk', Fr h₀ L h' m → News h₀ L h' n' → post r n' → Q r { s with heap := h', toks := tk' }) :
    wpAny (model PySem.Challenge.rw_on0191_01.row.toRowW.prog w) (ktrTop dp un gd cn cs L a ccd cl outer) (call (.ref f) vs) Q E s :=
  S mean mg mb dp un gd cn cs a ccd cl outer A₀ base h₀ L m s Q E B F X N T hk hd hu ret
theorem use_wstr {w : World} {f : Addr} {vs : List Value} {dm um : Nat} {x : Str} {mean : ExcName → Option Value} {mg mb : Str → Option Value} {dp un : Nat} {gd : Option (List Code)} {cn : Str} {cs : Scope} {a : Addr} {ccd : Value} {cl : List (Str × Addr)} {outer : List Env} {A₀ : Around} {base h₀ : Heap} {L : Addr} {m : Str → Option Value} {s : Shared} {Q E : Value → Shared → Prop} {news : List (Addr × Obj)}
    (S : SpecW w f vs dm um news (fun v n' => n' = news ∧ ∃ t', v = .str x t')) (B : Below A₀ base outer h₀) (F : Fr h₀ L s.heap m) (X : (T0.heap_1 w.params).In h₀) (N : News h₀ L s.heap news) (T : Top V0 (looseW V0 [Str.ofString "write"]) mean mg mb h₀)
    (hk : cs.kind = .function) (hd : dp + dm < recursionLimit) (hu : un + um < cLine)
    (ret : ∀ t h' tk', Fr h₀ L h' m → News h₀ L h' news → Q (.str x t) { s with heap := h', toks := tk' }) :
    wpAny (model PySem.Challenge.rw_on0191_01.row.toRowW.prog w) (ktrTop dp un gd cn cs L a ccd cl outer) (call (.ref f) vs) Q E s :=
  use_w S B F X N T hk hd hu fun r n' h' tk' F' N' p => by
    (try k_extra "gf")
    obtain ⟨e, t, e'⟩ := p
    (try k_extra "gu")
    subst e; subst e'
    exact ret t h' tk' F' N'
/-- the texts in a row of nodes -/
def Nd.plain : Nd → List Str
  | .tx v => [v]
  | _ => []
def Fo.plainP (f : Fo) : List Str := f.nodes.flatMap Nd.plain
theorem reg_WS_1 : True := by
  k_with "eval ListComp" => ((k_here; refine Held.out ?_))
  trivial
def isTextV (rs : List NdR) (v : Value) : Bool :=
  match v with
  | .int i _ => (match rs[i.toNat]? with | some r => r.kind == Str.ofString "text" | none => false)
  | _ => false
theorem reg_WS_2 : True := by
  k_with "call ref" => (((with_reducible show wpAny _ _ (call (Value.ref 297) _) _ _ _); k_here; k_dflt ((first | with_reducible refine' use_read (kind_spec _ _ _ _ _ _ _ _ ?zqhT ?zqhi ?zqhk ?zqhn) (by intro _ _ h; exact h.1) ?zqB ?zqF ?zqX ?zqN ?zqT ?zqk ?zqs ?zqd ?zqu ?_ | refine' use_read (kind_spec _ _ _ _ _ _ _ _ ?zqhT ?zqhi ?zqhk ?zqhn) (by intro _ _ h; exact h.1) ?zqB ?zqF ?zqX ?zqN ?zqT ?zqk ?zqs ?zqd ?zqu ?_); (case zqB => k_asm); (case zqF => k_asm); (case zqX => k_asm); (case zqN => k_asm); (case zqT => k_asm); (case zqhk => first | exact rfl | assumption | omega); (case zqhT => first | assumption | exact TreeIn.mono (by assumption) (by intro pm9 hpm9; repeat (first | exact hpm9 | refine List.mem_cons_of_mem _ ?_))); (case zqhi => assumption); (case zqhn => assumption); (case zqs => first | exact fun _ h => h | (intro pm9 hpm9; (repeat (first | exact hpm9 | refine List.mem_cons_of_mem _ ?_)); done) | first | exact List.forall_mem_nil _ | lcg_sub); (case zqk => first | exact rfl | assumption); (case zqd => ktr_room); (case zqu => ktr_units); k_whole); intro rm9 hm9 tkm9 Fm9 Nm9 Km9 pm9; (try k_extra "gf"); obtain ⟨_, em9⟩ := pm9; subst em9; (try k_extra "gu"); (try k_sweep); (try dsimp only)))
  trivial
theorem reg_WS_3 : True := by
  k_with "call ref" => (((with_reducible show wpAny _ _ (call (Value.ref 325) _) _ _ _); k_here; k_dflt ((first | with_reducible refine' use_read (value_spec _ _ _ _ _ _ _ _ ?zqhT ?zqhi ?zqhk ?zqhn) (by intro _ _ h; exact h.1) ?zqB ?zqF ?zqX ?zqN ?zqT ?zqk ?zqs ?zqd ?zqu ?_ | refine' use_read (value_spec _ _ _ _ _ _ _ _ ?zqhT ?zqhi ?zqhk ?zqhn) (by intro _ _ h; exact h.1) ?zqB ?zqF ?zqX ?zqN ?zqT ?zqk ?zqs ?zqd ?zqu ?_); (case zqB => k_asm); (case zqF => k_asm); (case zqX => k_asm); (case zqN => k_asm); (case zqT => k_asm); (case zqhk => first | exact rfl | assumption | omega); (case zqhT => first | assumption | exact TreeIn.mono (by assumption) (by intro pm9 hpm9; repeat (first | exact hpm9 | refine List.mem_cons_of_mem _ ?_))); (case zqhi => assumption); (case zqhn => assumption); (case zqs => first | exact fun _ h => h | (intro pm9 hpm9; (repeat (first | exact hpm9 | refine List.mem_cons_of_mem _ ?_)); done) | first | exact List.forall_mem_nil _ | lcg_sub); (case zqk => first | exact rfl | assumption); (case zqd => ktr_room); (case zqu => ktr_units); k_whole); intro rm9 hm9 tkm9 Fm9 Nm9 Km9 pm9; (try k_extra "gf"); obtain ⟨_, em9⟩ := pm9; subst em9; (try k_extra "gu"); (try k_sweep); (try dsimp only)))
  trivial
theorem reg_WS_4 : True := by
  k_with "call ref" => (((with_reducible show wpAny _ _ (call (Value.ref 28) _) _ _ _); k_here; k_dflt ((first | with_reducible refine' use_all (beneath_spec _ _ _ _ _ _ _ _ _ ?zqhT ?zqhi ?zqhk ?zqhn ?zqhf ?zqhs) ?zqB ?zqF ?zqX ?zqN ?zqT ?zqk ?zqd ?zqu ?_ | refine' use_all (beneath_spec _ _ _ _ _ _ _ _ _ ?zqhT ?zqhi ?zqhk ?zqhn ?zqhf ?zqhs) ?zqB ?zqF ?zqX ?zqN ?zqT ?zqk ?zqd ?zqu ?_); (case zqB => k_asm); (case zqF => k_asm); (case zqX => k_asm); (case zqN => k_asm); (case zqT => k_asm); (case zqhk => first | exact rfl | assumption | omega); (case zqhT => first | assumption | exact TreeIn.mono (by assumption) (by intro pm9 hpm9; repeat (first | exact hpm9 | refine List.mem_cons_of_mem _ ?_))); (case zqhi => assumption); (case zqhn => assumption); (case zqhf => assumption); (case zqhs => assumption); (case zqk => first | exact rfl | assumption); (case zqd => ktr_room); (case zqu => ktr_units); k_whole); intro rm9 nm9 hm9 tkm9 Fm9 Nm9 Gm9 pm9; (try k_extra "gf"); obtain ⟨lm9, cm9, om9, em9, fm9, dm9, l1⟩ := pm9; subst em9; subst fm9; (try k_lt l1); (try k_extra "gu"); (try k_sweep); (try dsimp only)))
  trivial
theorem NodesAt.mem {rs : List NdR} {vs : List Value} {l : List Nd} (h : NodesAt rs vs l) {v : Value} (hv : v ∈ vs) : ∃ (i : Nat) (t : Tok) (r : NdR), v = .int (i : Int) t ∧ rs[i]? = some r := by
  induction l generalizing vs with
  | nil => rw [show vs = [] from h] at hv; cases hv
  | cons n l ih =>
    (try k_extra "gf")
    obtain ⟨i, t, r, vs', rfl, hi, _, hr⟩ := h
    (try k_extra "gu")
    rcases List.mem_cons.mp hv with rfl | hv
    · exact ⟨i, t, r, rfl, hi⟩
    · exact ih hr hv
theorem isTextV_at {rs : List NdR} {i : Nat} {t : Tok} {r : NdR} (h : rs[i]? = some r) : isTextV rs (.int (i : Int) t) = (r.kind == Str.ofString "text") := by
  simp [isTextV, h]
theorem plain_texts {rs : List NdR} : ∀ {l : List Nd} {vs ys : List Value}, NodesAt rs vs l → Paired (fun v y => ∃ (i : Nat) (t t' : Tok) (r : NdR), v = .int (i : Int) t ∧ rs[i]? = some r ∧ y = .str r.value t') (vs.filter (isTextV rs)) ys → StrsAre ys (l.flatMap Nd.plain) := by
  intro l
  induction l with
  | nil =>
    intro vs ys h hp
    rw [show vs = [] from h] at hp
    cases hp
    exact .nil
  | cons n l ih =>
    intro vs ys h hp
    (try k_extra "gf")
    obtain ⟨i, t, r, vs', rfl, hi, hn, hr⟩ := h
    (try k_extra "gu")
    rw [List.filter_cons, isTextV_at hi] at hp
    rw [List.flatMap_cons]
    cases n with
    | tx v =>
      have e : (r.kind == Str.ofString "text") = true := by rw [hn.1]; decide +kernel
      rw [e, if_pos rfl] at hp
      cases hp with
      | cons h1 h2 =>
        (try k_extra "gf")
        obtain ⟨i', u, u', r', e1, e2, rfl⟩ := h1
        (try k_extra "gu")
        have hii : i = i' := by
          have := congrArg (fun v : Value => match v with | .int k _ => k | _ => 0) e1
          exact Int.ofNat.inj this
        subst hii
        rw [hi] at e2
        cases e2
        rw [hn.2]
        exact .cons _ _ (ih hr h2)
    | el a b =>
      have e : (r.kind == Str.ofString "text") = false := by rw [hn.1]; decide +kernel
      rw [e, if_neg (by decide)] at hp
      exact ih hr hp
    | cm a =>
      have e : (r.kind == Str.ofString "text") = false := by rw [hn.1]; decide +kernel
      rw [e, if_neg (by decide)] at hp
      exact ih hr hp
    | pi a =>
      have e : (r.kind == Str.ofString "text") = false := by rw [hn.1]; decide +kernel
      rw [e, if_neg (by decide)] at hp
      exact ih hr hp
theorem string_value_spec (w : World) (news : List (Addr × Obj)) (tr : Addr) (rs : List NdR) (i : Nat) (r : NdR) (k : Int) (t : Tok) (f : Fo) (hT : TreeIn w.params news tr rs) (hi : rs[i]? = some r) (hk : k = (i : Int)) (hn : rs.length ≤ 1000)
    (hr : r.kind = Str.ofString "root") (hf : RepT rs r.chv f) (hs : f.size ≤ 1000) (hz : (catS f.plainP).length ≤ 16777216) :
    SpecW w 33 [.ref tr, .int k t] 80 140 news (fun v n' => n' = news ∧ ∃ t', v = .str (catS f.plainP) t') := by
  (try k_extra "gf")
  obtain ⟨td, tkT, R, t1, t2, t3⟩ := hT.open
  (try k_extra "gu")
  (try k_extra "gf")
  obtain ⟨m1, m2, m3, m4, m5⟩ := hT.node hi
  (try k_extra "gu")
  unfold SpecW
  k_fill
  intro mean mg mb dp un gd cn cs a ccd cl outer A₀ base h₀ L m s Q E B F X N T hk hd hu hret
  refine wpAny_call ?_
  k_dflt (refine' code_defC ?k1 ?k2 ?k3 ?k4 ?k5 ?kA ?kF ?kK ?k6 ?k7 ?k8 ?k9 ?kB ?kD ?_ ?c2 ?c3 ?c4; (case kA => exact rfl); (case kF => exact rfl); (case kK => assumption); (case k1 => k_asm); (case k2 => k_asm); (case k3 => k_asm); (case k4 => k_asm); (case k5 => k_asm); (case k6 => k_is); (case k7 => k_is); (case k8 => ktr_room); (case k9 => first | exact BindsTo.of_eq rfl | exact binds_K (by k_in) rfl (by k_is) rfl rfl rfl); (case kB => exact rfl); (case kD => decide +kernel); (case c2 => exact rfl); (case c3 => exact rfl); (case c4 => exact rfl); k_whole; intro g' L' h' tk' cells' FG' F' N' Y' B' X' T' l1; (try k_lt l1); k_cells Y'; (try simp only [List.cons_append, List.nil_append] at N'); refine fold_q ?_; intro qk; refine fold_e ?_; intro ek; (try dsimp only))
  k_steps
  rotate_left
  · rename (_ = false) => hx; rw [hr] at hx; exact absurd hx (by decide +kernel)
  unfold Held
  refine comp_led (isTextV rs) (fun v y => ∃ (i : Nat) (t t' : Tok) (r : NdR), v = .int (i : Int) t ∧ rs[i]? = some r ∧ y = .str r.value t') (by assumption) rfl rfl (by decide) rfl (by decide) rfl ?_
  k_steps
  unfold Held
  rename News _ _ _ _ => N9
  rename NodesAt _ _ _ => hno
  refine ⟨_, _, _, _, rfl, List.mem_cons_self, by rw [hno.len, Fo.nodes_length]; omega, by assumption, N9, ?_, ?_, ?_⟩
  · intro C v s₂ m₂ oC E' hv hC hx F2 N2
    (try k_extra "gf")
    obtain ⟨j, u, q, rfl, hj⟩ := hno.mem hv
    (try k_extra "gu")
    rw [isTextV_at hj]
    k_steps
  · intro C v s₂ m₂ oC E' hv hp hC hx F2 N2
    (try k_extra "gf")
    obtain ⟨j, u, q, rfl, hj⟩ := hno.mem hv
    (try k_extra "gu")
    k_steps
  · intro D ys n h' tk F2 N2 hoff hP
    have hS := plain_texts hno hP
    rw [show f.nodes.flatMap Nd.plain = f.plainP from rfl] at hS
    k_steps
    all_goals exact hret _ _ _ _ (by k_asm) (News.less (by k_asm) (fun p hp => by k_mem)) ⟨rfl, _, rfl⟩
local macro_rules | `(tactic| k_steps) => `(tactic| repeat' (first | (k_unfold; (try dsimp only)) | (k_end; wrow_close) | walk1 | (dsimp only; walk1) | (leave1; walk_say "STEP leave1"; try dsimp only) | fail "no step"))
theorem reg_WS_5 : True := by
  k_with "call ref" => (((with_reducible show wpAny _ _ (call (Value.ref 297) _) _ _ _); k_here; k_dflt ((first | with_reducible refine' use_val (kind_spec _ _ _ _ _ _ _ _ ?zqhT ?zqhi ?zqhk ?zqhn) ?zqB ?zqF ?zqX ?zqN ?zqT ?zqk ?zqs ?zqd ?zqu ?_ | refine' use_val (kind_spec _ _ _ _ _ _ _ _ ?zqhT ?zqhi ?zqhk ?zqhn) ?zqB ?zqF ?zqX ?zqN ?zqT ?zqk ?zqs ?zqd ?zqu ?_); (case zqB => k_asm); (case zqF => k_asm); (case zqX => k_asm); (case zqN => k_asm); (case zqT => k_asm); (case zqhk => first | exact rfl | assumption | omega); (case zqhT => first | assumption | exact TreeIn.mono (by assumption) (by intro pm9 hpm9; repeat (first | exact hpm9 | refine List.mem_cons_of_mem _ ?_))); (case zqhi => assumption); (case zqhn => assumption); (case zqs => first | exact fun _ h => h | (intro pm9 hpm9; (repeat (first | exact hpm9 | refine List.mem_cons_of_mem _ ?_)); done) | first | exact List.forall_mem_nil _ | lcg_sub); (case zqk => first | exact rfl | assumption); (case zqd => ktr_room); (case zqu => ktr_units); k_whole); intro hm9 tkm9 Fm9 Nm9; (try k_sweep); (try dsimp only)))
  trivial
theorem reg_WS_6 : True := by
  k_with "call ref" => (((with_reducible show wpAny _ _ (call (Value.ref 325) _) _ _ _); k_here; k_dflt ((first | with_reducible refine' use_val (value_spec _ _ _ _ _ _ _ _ ?zqhT ?zqhi ?zqhk ?zqhn) ?zqB ?zqF ?zqX ?zqN ?zqT ?zqk ?zqs ?zqd ?zqu ?_ | refine' use_val (value_spec _ _ _ _ _ _ _ _ ?zqhT ?zqhi ?zqhk ?zqhn) ?zqB ?zqF ?zqX ?zqN ?zqT ?zqk ?zqs ?zqd ?zqu ?_); (case zqB => k_asm); (case zqF => k_asm); (case zqX => k_asm); (case zqN => k_asm); (case zqT => k_asm); (case zqhk => first | exact rfl | assumption | omega); (case zqhT => first | assumption | exact TreeIn.mono (by assumption) (by intro pm9 hpm9; repeat (first | exact hpm9 | refine List.mem_cons_of_mem _ ?_))); (case zqhi => assumption); (case zqhn => assumption); (case zqs => first | exact fun _ h => h | (intro pm9 hpm9; (repeat (first | exact hpm9 | refine List.mem_cons_of_mem _ ?_)); done) | first | exact List.forall_mem_nil _ | lcg_sub); (case zqk => first | exact rfl | assumption); (case zqd => ktr_room); (case zqu => ktr_units); k_whole); intro hm9 tkm9 Fm9 Nm9; (try k_sweep); (try dsimp only)))
  trivial

def nmL : List Str := [Str.ofString "a", Str.ofString "b.1", Str.ofString "é", Str.ofString "r", Str.ofString "k", Str.ofString "m"]
def cmL : List Str := [Str.ofString "", Str.ofString "<c>", Str.ofString " - "]
def piL : List Str := [Str.ofString "", Str.ofString "d <&", Str.ofString "x='1'"]
def cmF (v : Str) : Str := Str.ofString "<!--" ++ v ++ Str.ofString "-->"
def piF (v : Str) : Str := Str.ofString "<?" ++ Str.ofString "go" ++ (if v = Str.ofString "" then Str.ofString "" else Str.ofString " " ++ v) ++ Str.ofString "?>"
theorem prefix_of_spec (w : World) (x : Str) (t : Tok) (hx : x ∈ nmL) : Spec w 96 [.str x t] 10 20 [] (fun r n' => n' = [] ∧ ∃ t', r = .str (Str.ofString "") t') := by
  simp only [nmL, List.mem_cons, List.not_mem_nil, or_false] at hx
  unfold Spec
  k_fill
  intro mean mg mb dp un gd cn cs a ccd cl outer A₀ base h₀ L m s Q E B F X N T hk hd hu hret
  refine wpAny_call ?_
  k_dflt ktr_enter
  rcases hx with rfl | rfl | rfl | rfl | rfl | rfl
  all_goals k_steps
  all_goals exact hret _ _ _ _ (by k_asm) (by k_asm) (done_end (by assumption) (by assumption) (by assumption)) ⟨rfl, _, rfl⟩
theorem written_comment_spec (w : World) (x : Str) (t : Tok) (hx : x ∈ cmL) : Spec w 103 [.str x t] 10 20 [] (fun r n' => n' = [] ∧ ∃ t', r = .str (cmF x) t') := by
  simp only [cmL, List.mem_cons, List.not_mem_nil, or_false] at hx
  unfold Spec
  k_fill
  intro mean mg mb dp un gd cn cs a ccd cl outer A₀ base h₀ L m s Q E B F X N T hk hd hu hret
  refine wpAny_call ?_
  k_dflt ktr_enter
  rcases hx with rfl | rfl | rfl
  all_goals k_steps
  all_goals refine hret _ _ _ _ (by k_asm) (by k_asm) (done_end (by assumption) (by assumption) (by assumption)) ⟨rfl, str_ex ?_⟩
  all_goals decide +kernel
theorem written_instruction_spec (w : World) (g x : Str) (t u : Tok) (hg : g = Str.ofString "go") (hx : x ∈ piL) : Spec w 110 [.str g u, .str x t] 10 20 [] (fun r n' => n' = [] ∧ ∃ t', r = .str (piF x) t') := by
  subst hg
  simp only [piL, List.mem_cons, List.not_mem_nil, or_false] at hx
  unfold Spec
  k_fill
  intro mean mg mb dp un gd cn cs a ccd cl outer A₀ base h₀ L m s Q E B F X N T hk hd hu hret
  refine wpAny_call ?_
  k_dflt ktr_enter
  rcases hx with rfl | rfl | rfl
  all_goals k_steps
  all_goals refine hret _ _ _ _ (by k_asm) (by k_asm) (done_end (by assumption) (by assumption) (by assumption)) ⟨rfl, str_ex ?_⟩
  all_goals decide +kernel
def txL : List Str := [Str.ofString "a<b", Str.ofString "x", Str.ofString "<&>", Str.ofString "]]>", Str.ofString "\r", Str.ofString "\"", Str.ofString " "]
def atL : List Str := [Str.ofString "", Str.ofString "1", Str.ofString "<&>", Str.ofString "\"'", Str.ofString "\t\n\r", Str.ofString "]]>"]
def Nd.Ok : Nd → Prop
  | .el name ats => name ∈ nmL ∧ ats.length ≤ 2 ∧ ∀ p ∈ ats, p.1 ∈ nmL ∧ p.2 ∈ atL
  | .tx v => v ∈ txL
  | .cm v => v ∈ cmL
  | .pi v => v ∈ piL
def Nd.leaf : Nd → Str
  | .el _ _ => Str.ofString ""
  | .tx v => etF v
  | .cm v => cmF v
  | .pi v => piF v
theorem txL_len : ∀ v ∈ txL, v.length ≤ 1000 := by decide +kernel
theorem atL_len : ∀ v ∈ atL, v.length ≤ 1000 := by decide +kernel
theorem atL_sgn : ∀ v ∈ atL, ∀ c ∈ sgn v, c ∈ vSigns := by decide +kernel
theorem reg_WD_1 : True := by
  k_with "call ref" => (((with_reducible show wpAny _ _ (call (Value.ref 96) _) _ _ _); k_here; k_dflt ((first | with_reducible refine' use_str (prefix_of_spec _ _ _ ?zqhx) ?zqB ?zqF ?zqX ?zqN ?zqT ?zqk ?zqs ?zqd ?zqu ?_ | refine' use_str (prefix_of_spec _ _ _ ?zqhx) ?zqB ?zqF ?zqX ?zqN ?zqT ?zqk ?zqs ?zqd ?zqu ?_); (case zqB => k_asm); (case zqF => k_asm); (case zqX => k_asm); (case zqN => k_asm); (case zqT => k_asm); (case zqhx => assumption); (case zqs => first | exact fun _ h => h | (intro pm9 hpm9; (repeat (first | exact hpm9 | refine List.mem_cons_of_mem _ ?_)); done) | first | exact List.forall_mem_nil _ | lcg_sub); (case zqk => first | exact rfl | assumption); (case zqd => ktr_room); (case zqu => ktr_units); k_whole); intro tm9 hm9 tkm9 Fm9 Nm9; (try k_sweep); (try dsimp only)))
  trivial
theorem reg_WD_2 : True := by
  k_with "call ref" => (((with_reducible show wpAny _ _ (call (Value.ref 103) _) _ _ _); k_here; k_dflt ((first | with_reducible refine' use_str (written_comment_spec _ _ _ ?zqhx) ?zqB ?zqF ?zqX ?zqN ?zqT ?zqk ?zqs ?zqd ?zqu ?_ | refine' use_str (written_comment_spec _ _ _ ?zqhx) ?zqB ?zqF ?zqX ?zqN ?zqT ?zqk ?zqs ?zqd ?zqu ?_); (case zqB => k_asm); (case zqF => k_asm); (case zqX => k_asm); (case zqN => k_asm); (case zqT => k_asm); (case zqhx => assumption); (case zqs => first | exact fun _ h => h | (intro pm9 hpm9; (repeat (first | exact hpm9 | refine List.mem_cons_of_mem _ ?_)); done) | first | exact List.forall_mem_nil _ | lcg_sub); (case zqk => first | exact rfl | assumption); (case zqd => ktr_room); (case zqu => ktr_units); k_whole); intro tm9 hm9 tkm9 Fm9 Nm9; (try k_sweep); (try dsimp only)))
  trivial
theorem reg_WD_3 : True := by
  k_with "call ref" => (((with_reducible show wpAny _ _ (call (Value.ref 110) _) _ _ _); k_here; k_dflt ((first | with_reducible refine' use_str (written_instruction_spec _ _ _ _ _ ?zqhg ?zqhx) ?zqB ?zqF ?zqX ?zqN ?zqT ?zqk ?zqs ?zqd ?zqu ?_ | refine' use_str (written_instruction_spec _ _ _ _ _ ?zqhg ?zqhx) ?zqB ?zqF ?zqX ?zqN ?zqT ?zqk ?zqs ?zqd ?zqu ?_); (case zqB => k_asm); (case zqF => k_asm); (case zqX => k_asm); (case zqN => k_asm); (case zqT => k_asm); (case zqhg => assumption); (case zqhx => assumption); (case zqs => first | exact fun _ h => h | (intro pm9 hpm9; (repeat (first | exact hpm9 | refine List.mem_cons_of_mem _ ?_)); done) | first | exact List.forall_mem_nil _ | lcg_sub); (case zqk => first | exact rfl | assumption); (case zqd => ktr_room); (case zqu => ktr_units); k_whole); intro tm9 hm9 tkm9 Fm9 Nm9; (try k_sweep); (try dsimp only)))
  trivial
theorem plain_node_spec (w : World) (news : List (Addr × Obj)) (tr : Addr) (rs : List NdR) (i : Nat) (r : NdR) (k : Int) (t : Tok) (n : Nd) (hT : TreeIn w.params news tr rs) (hi : rs[i]? = some r) (hk : k = (i : Int)) (hn : rs.length ≤ 1000)
    (hnd : NodeIs rs r n) (hok : n.Ok) (hel : n.isEl = false) :
    Spec w 117 [.ref tr, .int k t] 60 100 news (fun v n' => n' = news ∧ ∃ t', v = .str n.leaf t') := by
  (try k_extra "gf")
  obtain ⟨td, tkT, R, t1, t2, t3⟩ := hT.open
  (try k_extra "gu")
  (try k_extra "gf")
  obtain ⟨m1, m2, m3, m4, m5⟩ := hT.node hi
  (try k_extra "gu")
  cases n with
  | el a b => cases hel
  | tx v =>
    (try k_extra "gf")
    obtain ⟨h1, h2⟩ := hnd
    (try k_extra "gu")
    have c1 : (r.kind == Str.ofString "text") = true := by rw [h1]; decide +kernel
    have hl : r.value.length ≤ 1000 := by rw [h2]; exact txL_len v hok
    unfold Spec
    k_fill
    intro mean mg mb dp un gd cn cs a ccd cl outer A₀ base h₀ L m s Q E B F X N T hk hd hu hret
    refine wpAny_call ?_
    k_dflt ktr_enter
    k_steps
    all_goals refine hret _ _ _ _ (by k_asm) (by k_asm) (done_end (by assumption) (by assumption) (by assumption)) ⟨rfl, str_ex ?_⟩
    all_goals rw [h2]; rfl
  | cm v =>
    (try k_extra "gf")
    obtain ⟨h1, h2⟩ := hnd
    (try k_extra "gu")
    have c1 : (r.kind == Str.ofString "text") = false := by rw [h1]; decide +kernel
    have c2 : (r.kind == Str.ofString "comment") = true := by rw [h1]; decide +kernel
    have hl : r.value ∈ cmL := by rw [h2]; exact hok
    unfold Spec
    k_fill
    intro mean mg mb dp un gd cn cs a ccd cl outer A₀ base h₀ L m s Q E B F X N T hk hd hu hret
    refine wpAny_call ?_
    k_dflt ktr_enter
    k_steps
    all_goals refine hret _ _ _ _ (by k_asm) (by k_asm) (done_end (by assumption) (by assumption) (by assumption)) ⟨rfl, str_ex ?_⟩
    all_goals rw [h2]; rfl
  | pi v =>
    (try k_extra "gf")
    obtain ⟨h1, h3, h2⟩ := hnd
    (try k_extra "gu")
    have c1 : (r.kind == Str.ofString "text") = false := by rw [h1]; decide +kernel
    have c2 : (r.kind == Str.ofString "comment") = false := by rw [h1]; decide +kernel
    have c3 : (r.kind == Str.ofString "instruction") = true := by rw [h1]; decide +kernel
    have hl : r.value ∈ piL := by rw [h2]; exact hok
    unfold Spec
    k_fill
    intro mean mg mb dp un gd cn cs a ccd cl outer A₀ base h₀ L m s Q E B F X N T hk hd hu hret
    refine wpAny_call ?_
    k_dflt ktr_enter
    k_steps
    all_goals refine hret _ _ _ _ (by k_asm) (by k_asm) (done_end (by assumption) (by assumption) (by assumption)) ⟨rfl, str_ex ?_⟩
    all_goals rw [h2]; rfl

section
variable {prog : Program} {w : World} {A : Around} {E : Value → Shared → Prop} {s : Shared} {h₀ : Heap} {m : Str → Option Value}
inductive LedA (prog : Program) (w : World) (A : Around) (h₀ : Heap) (m : Str → Option Value) (ifs : List Expr) (elt : Expr) (x yn : Str) (scope : Scope) (cl : List (Str × Addr)) (env : Env) (p : Value → Bool) (G : Value → Value → Prop) (Q : Flow → Shared → Prop) (xv : Value) (s₁ : Shared) : Prop
  | mk (l : Addr) (c : Nat) (news : List (Addr × Obj)) (xs : List Value) (h1 : xv = .ref l) (h2 : (l, listOf (List.toArray xs) c) ∈ news) (h3 : xs.length ≤ 1000000) (h4 : Fr h₀ env.locals s₁.heap m) (h5 : News h₀ env.locals s₁.heap news) (h6 : (∀ C v s₂ m₂ oC E', v ∈ xs → LCg.NsObj oC m₂ → m₂ x = some v → Fr h₀ env.locals s₂.heap m → News h₀ env.locals s₂.heap ((C, oC) :: news) → wpAny (model prog w) A (forIn ifs true fun c r => if r = true then do let ok ← isTrue c (compEnvC scope cl C env) (eval c (compEnvC scope cl C env)); pure (ForInStep.yield ok) else pure (ForInStep.yield r)) (fun ok s₄ => ok = p v ∧ Keeps s₂ s₄) E' s₂)) (h7 : (∀ C v s₂ m₂ oC E', v ∈ xs → p v = true → LCg.NsObj oC m₂ → m₂ x = some v → Fr h₀ env.locals s₂.heap m → News h₀ env.locals s₂.heap ((C, oC) :: news) → wpAny (model prog w) A (eval elt (compEnvC scope cl C env)) (fun y s₃ => G v y ∧ Keeps s₂ s₃) E' s₂)) (h8 : (∀ D ys n h' tk, Fr h₀ env.locals h' (fun z => if z = yn then some (.ref D) else m z) → News h₀ env.locals h' ((D, listOf (List.toArray ys) n) :: news) → (∀ p ∈ news, p.1 ≠ D) → Paired G (xs.filter p) ys → Q .next { s₁ with heap := h', toks := tk }))
/-- the same, its list put under a name -/
theorem comp_ledA {env : Env} {elt iter : Expr} {ifs : List Expr} {x : Str} {px : Pos} {scope : Scope} {cl : List (Str × Addr)} {pos spos py : Pos} {yn : Str} {Q : Flow → Shared → Prop} (p : Value → Bool) (G : Value → Value → Prop)
    (hsw : swapsWith (.ListComp elt [⟨.Name x px, iter, ifs, 0⟩] scope pos) (some (.Name yn py)) spos.line env = pure true) (hy : env.kindOf yn = some .local) (hpp : (env.scope.kind == .class || (env.scope.kind == .module && env.locals != env.globals)) = false)
    (_F₀ : Fr h₀ env.locals s.heap m) (hh : A.handled = none) (hclos : closureFor scope env = pure cl) (hcell : ∀ y ∈ scope.names, y.2 ≠ .cell) (hkind : scope.kind = .function)
    (hnames : ∀ y ∈ scope.names, y.2 = .local → scope.names.lookup y.1 = some .local) (hx : scope.names.lookup x = some .local)
    (h : wpAny (model prog w) A (eval iter env) (fun xv s₁ => Held (LedA prog w A h₀ m ifs elt x yn scope cl env p G Q xv s₁)) E s)
    (hs : ∀ x, foldedSetIterable iter env x = pure x := by intro _; rfl) :
    wpAny (model prog w) A (exec (.Assign [.Name yn py] (.ListComp elt [⟨.Name x px, iter, ifs, 0⟩] scope pos) spos) env) Q E s := by
  refine wpAny_Assign_ListComp_free p G hsw hclos hcell hkind hnames hx hy hpp (wpAny_mono h (fun xv s₁ h₁ => ?_) fun _ _ e => e) hs
  (try k_extra "gf")
  obtain ⟨l, c, news, xs, rfl, hm, hlen, F, N, htest, helt, hQ⟩ := h₁
  (try k_extra "gu")
  have hl : s₁.heap.IsList l (List.toArray xs) := ⟨_, (N _ hm).1, rfl, c, rfl⟩
  have hne : l ≠ s₁.heap.objs.size := Nat.ne_of_lt (Heap.lt_size (N _ hm).1)
  refine wpAny_pyIter_list hl ?_
  let o : Obj := { cls := .type "list_iterator", data := .fields #[.ref l, rawInt 0] }
  have keep : ∀ b o', s₁.heap.get? b = some o' → (s₁.heap.push o).get? b = some o' := fun b o' e => Heap.get?_push_of_some _ e
  have old : ∀ b o', s₁.heap.get? b = some o' → b ∉ [s₁.heap.objs.size] := fun b o' e hm => by rw [List.mem_singleton.mp hm] at e; exact Nat.lt_irrefl _ (Heap.lt_size e)
  have W := Walks.list (prog := prog) (w := w) hh s₁.heap.objs.size l hne (List.toArray xs)
  have inxs : ∀ i v, (List.toArray xs)[i]? = some v → v ∈ xs := fun i v e => by rw [List.getElem?_toArray] at e; exact List.mem_of_getElem? e
  have upN : ∀ C (s₃ : Shared) m₃, s₁.heap.objs.size + 1 ≤ C → s₃.heap.Ns C m₃ → (∀ b o', b ∉ [s₁.heap.objs.size] → (s₁.heap.push o).get? b = some o' → s₃.heap.get? b = some o') →
      ∃ oC, LCg.NsObj oC m₃ ∧ Fr h₀ env.locals s₃.heap m ∧ News h₀ env.locals s₃.heap ((C, oC) :: news) := fun C s₃ m₃ hC hn hk => by
    have up : ∀ b o', s₁.heap.get? b = some o' → s₃.heap.get? b = some o' := fun b o' e => hk b o' (old b o' e) (keep b o' e)
    (try k_extra "gf")
    obtain ⟨oC, e, hoC⟩ := LCg.ns_obj hn
    (try k_extra "gu")
    refine ⟨oC, hoC, F.keeps up, fun q hq => ?_⟩
    rcases List.mem_cons.mp hq with rfl | hq
    · refine ⟨e, Nat.ne_of_gt (Nat.lt_trans F.ns.lt hC), ?_⟩
      cases z : h₀.get? C with
      | none => rfl
      | some o' => exact absurd (Nat.lt_trans (Heap.lt_size (F.keep _ _ z)) hC) (Nat.lt_irrefl _)
    · exact ⟨up _ _ (N q hq).1, (N q hq).2⟩
  have hsz : (s₁.heap.push o).objs.size = s₁.heap.objs.size + 1 := Heap.size_push ..
  refine ⟨s₁.heap.objs.size, _, _, _, _, _, m, rfl, W, by rw [List.size_toArray, sizeLine_eq]; omega, ⟨⟨_, Heap.get?_push_size _ rfl, rfl, rfl⟩, hl.at fun o e => Heap.get?_push_of_some _ e⟩, ?_, ?_, F.ns.at fun o e => Heap.get?_push_of_some _ e, ⟨?_, ?_⟩, ?_⟩
  · intro b hb
    show b < (s₁.heap.push o).objs.size
    rw [hsz]
    rcases List.mem_cons.mp hb with rfl | hb
    · exact Nat.lt_succ_self _
    · rw [List.mem_singleton.mp hb]; exact Nat.lt_succ_of_lt (Heap.lt_size (N _ hm).1)
  · intro hb
    exact absurd F.ns.lt (by rw [List.mem_singleton.mp hb]; exact Nat.lt_irrefl _)
  · intro C i v s₃ m₃ E' hC hv hn hmx hk _
    obtain ⟨oC, a, b, c⟩ := upN C s₃ m₃ (by rw [← hsz]; exact hC) hn hk
    exact htest C v s₃ m₃ oC E' (inxs i v hv) a hmx b c
  · intro C i v s₃ m₃ E' hC hv hp hn hmx hk _
    obtain ⟨oC, a, b, c⟩ := upN C s₃ m₃ (by rw [← hsz]; exact hC) hn hk
    exact helt C v s₃ m₃ oC E' (inxs i v hv) hp a hmx b c
  · intro D h' tk ys vs hnew hlD hplD hlv hP hF hns hk
    have up : ∀ b o', b ≠ env.locals → s₁.heap.get? b = some o' → h'.get? b = some o' := fun b o' hb e => hk b o' hb (old b o' e) (keep b o' e)
    (try k_extra "gf")
    obtain ⟨n, hD⟩ := hplD
    (try k_extra "gu")
    have hD1 : ∀ b o', s₁.heap.get? b = some o' → b ≠ D := fun b o' e q => by
      have z := keep b o' e
      rw [q] at z; rw [show (s₁.heap.push o).get? D = none from hnew] at z; cases z
    have hvs : vs = xs := by
      apply List.ext_getElem?
      intro j
      cases e : vs[j]? with
      | none =>
        have := List.getElem?_eq_none_iff.mp e
        rw [hlv, List.size_toArray] at this
        exact (List.getElem?_eq_none_iff.mpr this).symm
      | some v => have := hP j v e; rw [List.getElem?_toArray] at this; exact this.symm
    rw [hvs] at hF
    have hold : ∀ b o', h₀.get? b = some o' → b ≠ env.locals := fun b o' e q => by
      have := Nat.lt_of_lt_of_le (Heap.lt_size e) F.above
      rw [q] at this; exact Nat.lt_irrefl _ this
    refine hQ D ys.toList n h' tk ⟨hns, fun b o' e => up b o' (hold b o' e) (F.keep b o' e), F.above⟩ (fun q hq => ?_) (fun q hq => hD1 _ _ (N q hq).1) hF
    rcases List.mem_cons.mp hq with rfl | hq
    · refine ⟨by rw [show (listOf (List.toArray ys.toList) n) = listOf ys n by rw [Array.toArray_toList]]; exact hD, ?_, ?_⟩
      · (try k_extra "gf")
        obtain ⟨oL, _, _, hL, _⟩ := F.ns
        (try k_extra "gu")
        exact (hD1 _ _ hL).symm
      · cases z : h₀.get? D with
        | none => rfl
        | some o' => exact absurd rfl (hD1 _ _ (F.keep _ _ z))
    · exact ⟨up _ _ (N q hq).2.1 (N q hq).1, (N q hq).2⟩
end
section
variable {prog : Program} {w : World} {A : Around} {E : Value → Shared → Prop} {s : Shared} {env : Env} {h₀ : Heap} {x : Str} {body : List Stmt} {Q : Flow → Shared → Prop}
inductive Rest3 (x1 x2 x3 : Str) (v2 v3 : Value) (J : Value → List (Addr × Obj) → Prop) (m : Str → Option Value) (nx : List (Addr × Obj)) : Prop
  | mk (v1 : Value) (h1 : m x1 = some v1) (h2 : m x2 = some v2) (h3 : m x3 = some v3) (h4 : J v1 nx)
theorem map3 {x1 x2 x3 : Str} {v1 v2 v3 : Value} {m : Str → Option Value} (q1 : m x1 = some v1) (q2 : m x2 = some v2) (q3 : m x3 = some v3) : (fun y => if y = x1 then some v1 else if y = x2 then some v2 else if y = x3 then some v3 else m y) = m := by
  funext y
  by_cases h1 : y = x1
  · simp [h1, q1]
  · by_cases h2 : y = x2
    · subst h2; simp only [if_neg h1, if_true]; exact q2.symm
    · by_cases h3 : y = x3
      · subst h3; simp only [if_neg h1, if_neg h2, if_true]; exact q3.symm
      · simp only [if_neg h1, if_neg h2, if_neg h3]
theorem ListRest_3 {I : Addr} {lp : Addr × Obj} (x1 x2 x3 : Str) (v2 v3 : Value) (J : List Value → Value → List (Addr × Obj) → Prop)
    (turn : ∀ v r (u : Str → Option Value) v1 nx (it : Obj) h tk, J (v :: r) v1 nx → it.cls = .type "list_iterator" → Fr h₀ env.locals h (fun y => if y = x then some v else if y = x1 then some v1 else if y = x2 then some v2 else if y = x3 then some v3 else u y) → News h₀ env.locals h ((I, it) :: nx) →
      wpAny (model prog w) A (execs body env) (UnrPost h₀ env.locals { s with heap := h, toks := tk } I it (fun m' n' => lp ∈ n' ∧ Held (Rest3 x1 x2 x3 v2 v3 (J r) m' n')) Q) E { s with heap := h, toks := tk })
    (done : ∀ (u : Str → Option Value) v1 nx h tk, J [] v1 nx → Fr h₀ env.locals h (fun y => if y = x1 then some v1 else if y = x2 then some v2 else if y = x3 then some v3 else u y) → News h₀ env.locals h nx → Q .next { s with heap := h, toks := tk }) :
    ∀ (vs : List Value) (m : Str → Option Value) (v1 : Value) (nx : List (Addr × Obj)), m x1 = some v1 → m x2 = some v2 → m x3 = some v3 → J vs v1 nx → ListRest prog w A E h₀ env x body Q s I lp vs m nx := by
  intro vs
  induction vs with
  | nil =>
    intro m v1 nx q1 q2 q3 hJ h tk F N
    exact done m v1 nx h tk hJ (by rw [map3 q1 q2 q3]; exact F) N
  | cons v r ih =>
    intro m v1 nx q1 q2 q3 hJ it h tk hc F N
    refine wpAny_mono (turn v r m v1 nx it h tk hJ hc (by have e := map3 q1 q2 q3; rw [show (fun y => if y = x then some v else if y = x1 then some v1 else if y = x2 then some v2 else if y = x3 then some v3 else m y) = fun y => if y = x then some v else m y from funext fun y => congrArg (fun z => if y = x then some v else z) (congrFun e y)]; exact F) N) (fun f s₂ p => ?_) fun _ _ e => e
    have up : UnrEnd h₀ env.locals { s with heap := h, toks := tk } I it (fun m' n' => lp ∈ n' ∧ Held (Rest3 x1 x2 x3 v2 v3 (J r) m' n')) s₂ → UnrEnd h₀ env.locals { s with heap := h, toks := tk } I it (fun m' n' => lp ∈ n' ∧ ListRest prog w A E h₀ env x body Q s I lp r m' n') s₂ := by
      intro zr0
      (try k_extra "gf")
      obtain ⟨h', tk', m', n', e, F', N', off, hl, v1', q1', q2', q3', hJ'⟩ := zr0
      (try k_extra "gu")
      exact ⟨h', tk', m', n', e, F', N', off, hl, ih m' v1' n' q1' q2' q3' hJ'⟩
    cases f with
    | ret v => exact p
    | brk => exact p
    | next => exact up p
    | cont => exact up p
end
abbrev xmlD : List (PyData × PyData) := [(.str (Str.ofString "xml"), .str (Str.ofString "http://www.w3.org/XML/1998/namespace"))]
/-- the names in force: «xml» alone -/
def ScO (w : World) (d : Addr) (o : Obj) : Prop := (d == sysModules) = false ∧ ∃ kvs, o.IsDictOf (strKind PySem.Challenge.rw_on0191_01.row.toRowW.prog w) kvs ∧ PyProof.V.FlatPairs PyData.str kvs xmlD
theorem reg_WE_1 : True := by
  k_with "exec Assign cons ListComp" => ((k_here; refine Held.out ?_))
  trivial
theorem UnrEnd.drop {h₀ : Heap} {L I : Addr} {it : Obj} {rest : (Str → Option Value) → List (Addr × Obj) → Prop} {s₁ : Shared} {h' : Heap} {tk : Nat} {m' : Str → Option Value} {x : Addr × Obj} {news : List (Addr × Obj)} (F : Fr h₀ L h' m') (N : News h₀ L h' (x :: (I, it) :: news))
    (off : ∀ p ∈ news, p.1 < I) (r : rest m' news) : UnrEnd h₀ L s₁ I it rest { s₁ with heap := h', toks := tk } := UnrEnd.same F (fun p hp => N p (List.mem_cons_of_mem _ hp)) off r
theorem reg_WE_2 : True := by
  k_with "UnrEnd" => ((k_dflt (first | refine UnrEnd.same (by assumption) (by assumption) (by assumption) ⟨by k_mem, ?_⟩ | refine UnrEnd.drop (by assumption) (by assumption) (by assumption) ⟨by k_mem, ?_⟩)))
  trivial
theorem UnrEndW.same {h₀ : Heap} {L I : Addr} {it : Obj} {rest : (Str → Option Value) → List (Addr × Obj) → Prop} {s₁ : Shared} {h' : Heap} {tk : Nat} {m' : Str → Option Value} {news : List (Addr × Obj)} (F : Fr h₀ L h' m') (N : News h₀ L h' ((I, it) :: news))
    (off : ∀ p ∈ news, p.1 < I) (r : rest m' news) : UnrEndW h₀ L s₁ [(I, it)] rest { s₁ with heap := h', toks := tk } := ⟨h', tk, m', news, rfl, F, N, fun p hp q hq => by rw [List.mem_singleton.mp hq]; exact Nat.ne_of_lt (off p hp), r⟩
theorem reg_WE_3 : True := by
  k_with "exec For Tuple Name cons nil" => ((k_here; k_dflt (refine' For_turns ?zqF ?_; (case zqF => k_asm); k_whole)))
  trivial
theorem reg_WE_4 : True := by
  k_with "pyIter ref" => ((k_here; (with_reducible show wpAny _ _ (pyIter (Value.ref _)) (fun it s₂ => TurnsAt _ _ _ _ _ _ _ _ _ it s₂) _ _); k_dflt ((refine' iter_listTurns ?zqhh ?zqF ?zqN ?zqhm ?zqhc ?zqhd ?_; (case zqhh => exact rfl); (case zqF => k_asm); (case zqN => k_asm); (case zqhm => k_mem); (case zqhc => exact rfl); (case zqhd => exact rfl)); intro im9 lm9)))
  trivial
theorem reg_WE_5 : True := by
  k_with "UnrEndW" => ((k_dflt (refine UnrEndW.same (by assumption) (by assumption) (by assumption) ⟨⟨by k_mem, trivial⟩, ?_⟩)))
  trivial
theorem AttsAre.len {rs : List NdR} {vs : List Value} {l : List (Str × Str)} (h : AttsAre rs vs l) : vs.length = l.length := by
  induction l generalizing vs with
  | nil => rw [show vs = [] from h]; rfl
  | cons p l ih =>
    (try k_extra "gf")
    obtain ⟨i, t, r, vs', rfl, _, _, _, _, hr⟩ := h
    (try k_extra "gu")
    simp [ih hr]
local macro_rules | `(tactic| k_steps) => `(tactic| repeat' (first | (k_unfold; (try dsimp only)) | (k_end; wrow_close) | ((first | (with_reducible show wpAny _ _ (exec _ _) _ _ _) | (with_reducible show wpAny _ _ (execs _ _) _ _ _)); (fail_if_success (fail_if_success k_fold)); refine fold_q ?_; intro qk9) | walk1 | (dsimp only; walk1) | (leave1; walk_say "STEP leave1"; try dsimp only) | fail "no step"))
theorem declared_spec (w : World) (news : List (Addr × Obj)) (tr : Addr) (rs : List NdR) (i : Nat) (r : NdR) (k : Int) (t : Tok) (name : Str) (ats : List (Str × Str)) (sc : Addr) (so : Obj) (hT : TreeIn w.params news tr rs) (hi : rs[i]? = some r) (hk : k = (i : Int)) (hn : rs.length ≤ 1000)
    (hnd : NodeIs rs r (.el name ats)) (hok : (Nd.el name ats).Ok) (hsc : (sc, so) ∈ news) (hso : ScO w sc so) :
    SpecW w 122 [.ref tr, .int k t, .ref sc] 60 100 news (fun v n' => ∃ l c, v = .ref l ∧ n' = (l, listOf (List.toArray []) c) :: news ∧ ∀ p ∈ news, p.1 ≠ l) := by
  (try k_extra "gf")
  obtain ⟨td, tkT, R, t1, t2, t3⟩ := hT.open
  (try k_extra "gu")
  (try k_extra "gf")
  obtain ⟨m1, m2, m3, m4, m5⟩ := hT.node hi
  (try k_extra "gu")
  (try k_extra "gf")
  obtain ⟨h1, h2, h3, h4⟩ := hnd
  (try k_extra "gu")
  (try k_extra "gf")
  obtain ⟨lo0, kvs0, hd0, hf0⟩ := hso
  (try k_extra "gu")
  have hnm : r.name ∈ nmL := by rw [h2]; exact hok.1
  have hal := h4.len
  have hz : r.atv.length ≤ 1000 := by have := hok.2.1; omega
  have hu0 : (Str.ofString "" != r.uri) = false := by rw [h3]; decide +kernel
  unfold SpecW
  k_fill
  intro mean mg mb dp un gd cn cs a ccd cl outer A₀ base h₀ L m s Q E B F X N T hk hd hu hret
  refine wpAny_call ?_
  k_dflt (refine' code_defC ?k1 ?k2 ?k3 ?k4 ?k5 ?kA ?kF ?kK ?k6 ?k7 ?k8 ?k9 ?kB ?kD ?_ ?c2 ?c3 ?c4; (case kA => exact rfl); (case kF => exact rfl); (case kK => assumption); (case k1 => k_asm); (case k2 => k_asm); (case k3 => k_asm); (case k4 => k_asm); (case k5 => k_asm); (case k6 => k_is); (case k7 => k_is); (case k8 => ktr_room); (case k9 => first | exact BindsTo.of_eq rfl | exact binds_K (by k_in) rfl (by k_is) rfl rfl rfl); (case kB => exact rfl); (case kD => decide +kernel); (case c2 => exact rfl); (case c3 => exact rfl); (case c4 => exact rfl); k_whole; intro g' L' h' tk' cells' FG' F' N' Y' B' X' T' l1; (try k_lt l1); k_cells Y'; (try simp only [List.cons_append, List.nil_append] at N'); refine fold_q ?_; intro qk; refine fold_e ?_; intro ek; (try dsimp only))
  k_steps
  unfold Held
  refine comp_ledA (fun _ => true) (fun v y => False) rfl rfl rfl (by assumption) rfl rfl (by decide) rfl (by decide) rfl ?_
  k_steps
  unfold Held
  rename News _ _ _ _ => N9
  refine ⟨_, _, _, [], rfl, List.mem_cons_self, by decide, by assumption, N9, (fun _ _ _ _ _ _ h => nomatch h), (fun _ _ _ _ _ _ h => nomatch h), ?_⟩
  intro D ys n h' tk F2 N2 hoff hP
  cases hP
  k_steps
  refine' ListRest_3 (Str.ofString "found") (Str.ofString "known") (Str.ofString "wanted") _ _ (fun vs v1 nx => v1 = _ ∧ nx = _ ∧ ∃ l, AttsAre rs vs l ∧ ∀ p ∈ l, p.1 ∈ nmL) ?_ ?_ r.atv _ _ _ rfl rfl rfl ⟨rfl, rfl, ats, h4, fun p hp => (hok.2.2 p hp).1⟩
  · intro v rr u v1 nx it h tk zr8 hc F3 N3
    (try k_extra "gf")
    obtain ⟨rfl, rfl, l, hl, hln⟩ := zr8
    (try k_extra "gu")
    cases l with
    | nil => cases hl
    | cons p l =>
      (try k_extra "gf")
      obtain ⟨j, tj, q, vs', e, hj, hqn, hqu, hqv, hr'⟩ := hl
      (try k_extra "gu")
      cases e
      have hnm' : q.name ∈ nmL := by rw [hqn]; exact hln p List.mem_cons_self
      have hu1 : (q.uri != Str.ofString "") = false := by rw [hqu]; decide +kernel
      k_steps
      all_goals exact ⟨_, rfl, rfl, rfl, rfl, rfl, l, hr', fun p hp => hln p (List.mem_cons_of_mem _ hp)⟩
  · intro u v1 nx h tk zr5 F3 N3
    (try k_extra "gf")
    obtain ⟨rfl, rfl, _⟩ := zr5
    (try k_extra "gu")
    k_steps
    have sub : ∀ all : List (Addr × Obj), (D, listOf (List.toArray []) n) ∈ all → (∀ p ∈ news, p ∈ all) → ∀ p ∈ (D, listOf (List.toArray []) n) :: news, p ∈ all := fun all h1 h2 p hp => by
      rcases List.mem_cons.mp hp with rfl | hp
      · exact h1
      · exact h2 p hp
    all_goals exact hret _ _ _ _ (by k_asm) (News.less (by k_asm) (sub _ (by k_mem) fun p hp => by k_mem)) ⟨D, n, rfl, rfl, fun p hp => hoff p (by k_mem)⟩
local macro_rules | `(tactic| k_steps) => `(tactic| repeat' (first | (k_unfold; (try dsimp only)) | (k_end; wrow_close) | walk1 | (dsimp only; walk1) | (leave1; walk_say "STEP leave1"; try dsimp only) | fail "no step"))

local macro_rules | `(tactic| k_steps) => `(tactic| repeat' (first | (k_unfold; (try dsimp only)) | (k_end; wrow_close) | ((first | (with_reducible show wpAny _ _ (exec _ _) _ _ _) | (with_reducible show wpAny _ _ (execs _ _) _ _ _)); (fail_if_success (fail_if_success k_fold)); refine fold_q ?_; intro qk9) | walk1 | (dsimp only; walk1) | (leave1; walk_say "STEP leave1"; try dsimp only) | fail "no step"))
def attF (acc : Str) : List (Str × Str) → Str
  | [] => acc
  | (n, x) :: l => attF (acc ++ Str.ofString " " ++ n ++ Str.ofString "=\"" ++ evF x ++ Str.ofString "\"") l
def stF (name : Str) (ats : List (Str × Str)) (b : Bool) : Str := attF (Str.ofString "<" ++ name) ats ++ (if b = true then Str.ofString "/>" else Str.ofString ">")
theorem nmL_len : ∀ v ∈ nmL, v.length ≤ 3 := by decide +kernel
theorem atL_len3 : ∀ v ∈ atL, v.length ≤ 3 := by decide +kernel
theorem len_app (a b : Str) : (a ++ b).length = a.length + b.length := by rw [len_cps, len_cps, len_cps, app_cps, List.length_append]
theorem start_tag_spec (w : World) (news : List (Addr × Obj)) (tr : Addr) (rs : List NdR) (i : Nat) (r : NdR) (k : Int) (t : Tok) (name : Str) (ats : List (Str × Str)) (pl : Addr) (pc : Nat) (b : Bool) (hT : TreeIn w.params news tr rs) (hi : rs[i]? = some r) (hk : k = (i : Int)) (hn : rs.length ≤ 1000)
    (hnd : NodeIs rs r (.el name ats)) (hok : (Nd.el name ats).Ok) (hpl : (pl, listOf (List.toArray []) pc) ∈ news) :
    Spec w 129 [.ref tr, .int k t, .ref pl, .bool b] 60 100 news (fun v n' => n' = news ∧ ∃ t', v = .str (stF name ats b) t') := by
  (try k_extra "gf")
  obtain ⟨td, tkT, R, t1, t2, t3⟩ := hT.open
  (try k_extra "gu")
  (try k_extra "gf")
  obtain ⟨m1, m2, m3, m4, m5⟩ := hT.node hi
  (try k_extra "gu")
  (try k_extra "gf")
  obtain ⟨h1, h2, h3, h4⟩ := hnd
  (try k_extra "gu")
  have hal := h4.len
  have hz : r.atv.length ≤ 1000 := by have := hok.2.1; omega
  have hnl : r.name.length ≤ 3 := by rw [h2]; exact nmL_len _ hok.1
  unfold Spec
  k_fill
  intro mean mg mb dp un gd cn cs a ccd cl outer A₀ base h₀ L m s Q E B F X N T hk hd hu hret
  refine wpAny_call ?_
  k_dflt ktr_enter
  k_steps
  refine' ListRest_3 (Str.ofString "found") (Str.ofString "tree") (Str.ofString "is_empty") _ _ (fun vs v1 nx => nx = _ ∧ ∃ acc tk l, v1 = .str acc tk ∧ AttsAre rs vs l ∧ (∀ p ∈ l, p.1 ∈ nmL ∧ p.2 ∈ atL) ∧ attF acc l = attF (Str.ofString "<" ++ name) ats ∧ acc.length + 50 * l.length ≤ 1000) ?_ ?_ r.atv _ _ _ rfl rfl rfl ⟨rfl, _, _, ats, rfl, h4, hok.2.2, by rw [h2], ?_⟩
  · intro v rr u v1 nx it h tk zr8 hc F3 N3
    (try k_extra "gf")
    obtain ⟨rfl, acc, tka, l, rfl, hl, hln, hat, hle⟩ := zr8
    (try k_extra "gu")
    cases l with
    | nil => cases hl
    | cons p l =>
      (try k_extra "gf")
      obtain ⟨an, ax⟩ := p
      (try k_extra "gu")
      (try k_extra "gf")
      obtain ⟨j, tj, q, vs', e, hj, hqn, hqu, hqv, hr'⟩ := hl
      (try k_extra "gu")
      cases e
      have hp := hln (an, ax) List.mem_cons_self
      have hl1 : q.name.length ≤ 3 := by rw [hqn]; exact nmL_len _ hp.1
      have hl2 : q.value.length ≤ 3 := by rw [hqv]; exact atL_len3 _ hp.2
      have hl3 : q.value.length ≤ 1000 := by omega
      have hv1 : ∀ c ∈ sgn q.value, c ∈ vSigns := by rw [hqv]; exact atL_sgn _ hp.2
      have hl4 : (evF q.value).length ≤ 18 := Nat.le_trans (evF_len _) (by omega)
      have hl5 : acc.length ≤ 1000 := by omega
      k_steps
      all_goals refine ⟨_, rfl, rfl, rfl, rfl, _, _, l, rfl, hr', fun p hp => hln p (List.mem_cons_of_mem _ hp), ?_, ?_⟩
      · rw [hqn, hqv]; exact hat
      · simp only [len_app, List.length_cons] at hle ⊢
        rw [show (Str.ofString " ").length = 1 by decide +kernel, show (Str.ofString "=\"").length = 2 by decide +kernel, show (Str.ofString "\"").length = 1 by decide +kernel]
        omega
  · intro u v1 nx h tk zr5 F3 N3
    (try k_extra "gf")
    obtain ⟨rfl, acc, tka, l, rfl, hl, hln, hat, hle⟩ := zr5
    (try k_extra "gu")
    have hl5 : acc.length ≤ 1000 := by omega
    have hl0 : l = [] := by
      cases l with
      | nil => rfl
      | cons p l => obtain ⟨_, _, _, _, e, _⟩ := hl; cases e
    subst hl0
    rw [show attF acc [] = acc from rfl] at hat
    k_steps
    all_goals refine hret _ _ _ _ (by k_asm) (News.less (by k_asm) fun p hp => by k_mem) (done_end (by assumption) (by assumption) (News.less (by assumption) fun p hp => by k_mem)) ⟨rfl, str_ex ?_⟩
    all_goals simp_all [stF]
  · have := hok.2.1
    rw [len_app, show (Str.ofString "<").length = 1 by decide +kernel]
    omega
theorem inner_scope_spec (w : World) (news : List (Addr × Obj)) (sc : Addr) (so : Obj) (pl : Addr) (pc : Nat) (hsc : (sc, so) ∈ news) (hso : ScO w sc so) (hpl : (pl, listOf (List.toArray []) pc) ∈ news) :
    Spec w 136 [.ref sc, .ref pl] 20 40 news (fun v n' => ∃ l o, v = .ref l ∧ n' = (l, o) :: news ∧ ScO w l o ∧ ∀ p ∈ news, p.1 < l) := by
  (try k_extra "gf")
  obtain ⟨lo0, kvs0, hd0, hf0⟩ := hso
  (try k_extra "gu")
  unfold Spec
  k_fill
  intro mean mg mb dp un gd cn cs a ccd cl outer A₀ base h₀ L m s Q E B F X N T hk hd hu hret
  refine wpAny_call ?_
  k_dflt ktr_enter
  k_steps
  all_goals exact hret _ _ _ _ (by k_asm) (by k_asm) (done_end (by assumption) (by assumption) (by assumption)) ⟨_, _, rfl, rfl, ⟨by assumption, _, by assumption, by assumption⟩, by assumption⟩
local macro_rules | `(tactic| k_steps) => `(tactic| repeat' (first | (k_unfold; (try dsimp only)) | (k_end; wrow_close) | walk1 | (dsimp only; walk1) | (leave1; walk_say "STEP leave1"; try dsimp only) | fail "no step"))

section
variable {prog : Program} {w : World} {A : Around} {E : Value → Shared → Prop} {s : Shared} {h₀ : Heap} {L : Addr} {m : Str → Option Value} {env : Env}
inductive ElEnd (h₀ : Heap) (L : Addr) (m : Str → Option Value) (I C D : Addr) (oI oC : Obj) (ys : List Value) (K : List (Addr × Obj) → Prop) (s₁ s₂ : Shared) : Prop
  | mk (h' : Heap) (tk' : Nat) (nx' : List (Addr × Obj)) (h1 : s₂ = { s₁ with heap := h', toks := tk' }) (h2 : Fr h₀ L h' m) (h3 : News h₀ L h' ((I, oI) :: (C, oC) :: (D, LCg.lst ys) :: nx')) (h4 : LCg.Off3 I C D nx') (h5 : K nx')
/-- a comprehension over a list of the ledger whose elements lay new objects: what is kept from element to element -/
structure CompK (prog : Program) (w : World) (A : Around) (h₀ : Heap) (L : Addr) (m : Str → Option Value) (env : Env) (elt : Expr) (x : Str) (scope : Scope) (cl : List (Str × Addr)) (lp : Addr × Obj) (K : List Value → List Value → List (Addr × Obj) → Prop) (s₁ : Shared) : Prop where
  src : ∀ r ys nx, K r ys nx → lp ∈ nx
  turn : ∀ v r ys nx I oI C oC D m₂ g h tk (E' : Value → Shared → Prop), K (v :: r) ys nx → LCg.NsObj oC m₂ → m₂ x = some v → Fr h₀ L h m → News h₀ L h ((I, oI) :: (C, oC) :: (D, LCg.lst ys) :: nx) → LCg.Off3 I C D nx → ((@Ne Nat I C) ∧ (@Ne Nat I D) ∧ (@Ne Nat C D)) →
    wpAny (model prog w) A (eval elt (compEnvC scope cl C env)) (fun y s₂ => Held (ElEnd h₀ L m I C D oI oC ys (K r (ys ++ [y])) s₁ s₂)) E' { { s₁ with heap := g } with heap := h, toks := tk }
theorem CompK.rest {elt : Expr} {x : Str} {scope : Scope} {cl : List (Str × Addr)} {ax : Addr} {xs : List Value} {c : Nat} {K : List Value → List Value → List (Addr × Obj) → Prop} {s₁ : Shared} {g : Heap} {Fin : List Value → List (Addr × Obj) → Prop}
    (k : CompK prog w A h₀ L m env elt x scope cl (ax, listOf (List.toArray xs) c) K s₁) (fin : ∀ ys nx, K [] ys nx → Fin ys nx) :
    ∀ (r : List Value) (i : Nat) (ys : List Value) (nx : List (Addr × Obj)), xs.drop i = r → K r ys nx → LCg.CompRest prog w A h₀ L m env elt x scope cl { s₁ with heap := g } (LCg.SrcAt h₀ ax (List.toArray xs)) (fun i v => (List.toArray xs)[i]? = some v) Fin r.length i ys nx := by
  intro r
  induction r with
  | nil => intro i ys nx _ hK; exact fin ys nx hK
  | cons v r ih =>
    intro i ys nx hd hK
    refine LCg.CompRest.succ fun v' I oI C oC D m₂ h tk E' hv hC hx F N off ne => ?_
    have hvi : xs[i]? = some v := by
      have := congrArg (fun l => l[0]?) hd
      simpa using this
    have e : v' = v := by
      rw [List.getElem?_toArray, hvi] at hv
      exact (Option.some.inj hv).symm
    subst e
    refine wpAny_mono (k.turn v' r ys nx I oI C oC D m₂ g h tk E' hK hC hx F N off ne) (fun y s₂ p => ?_) fun _ _ e => e
    (try k_extra "gf")
    obtain ⟨h', tk', nx', rfl, F', N', off', hK'⟩ := p
    (try k_extra "gu")
    refine ⟨h', tk', nx', rfl, F', N', off', .inr ⟨_, k.src _ _ _ hK', rfl, _, rfl⟩, ih (i + 1) (ys ++ [y]) nx' ?_ hK'⟩
    rw [← List.tail_drop, hd]; rfl
theorem CompK.srcs {elt : Expr} {x : Str} {scope : Scope} {cl : List (Str × Addr)} {ax : Addr} {xs : List Value} {c : Nat} {K : List Value → List Value → List (Addr × Obj) → Prop} {s₁ : Shared} {Fin : Shared → List Value → List (Addr × Obj) → Prop} {news : List (Addr × Obj)}
    (k : CompK prog w A h₀ L m env elt x scope cl (ax, listOf (List.toArray xs) c) K s₁) (hh : A.handled = none) (F : Fr h₀ L s₁.heap m) (N : News h₀ L s₁.heap news) (hz : xs.length ≤ 1000000) (hK : K xs [] news)
    (fin : ∀ g ys nx, K [] ys nx → Fin { s₁ with heap := g } ys nx) : LCg.CompSrc prog w A h₀ L m env elt x scope cl Fin (.ref ax) s₁ :=
  LCg.CompSrc.ledger (its := List.toArray xs) (k := c) hh F N (k.src _ _ _ hK) (by rw [List.size_toArray, sizeLine_eq]; omega) fun g => by
    have := k.rest (g := g) (fin g) xs 0 [] news rfl hK
    exact this
inductive NewE (prog : Program) (w : World) (A : Around) (h₀ : Heap) (L : Addr) (m : Str → Option Value) (env : Env) (elt : Expr) (x : Str) (scope : Scope) (cl : List (Str × Addr)) (Q : Value → Shared → Prop) (xv : Value) (s₁ : Shared) : Prop
  | mk (ax : Addr) (xs : List Value) (c : Nat) (news : List (Addr × Obj)) (K : List Value → List Value → List (Addr × Obj) → Prop) (h1 : xv = .ref ax) (h2 : xs.length ≤ 1000000) (h3 : Fr h₀ L s₁.heap m) (h4 : News h₀ L s₁.heap news) (h5 : K xs [] news) (h6 : CompK prog w A h₀ L m env elt x scope cl (ax, listOf (List.toArray xs) c) K s₁) (h7 : (∀ ys nx D h tk, K [] ys nx → Fr h₀ L h m → News h₀ L h ((D, LCg.lst ys) :: nx) → LCg.Off1 D nx → Q (.ref D) { s₁ with heap := h, toks := tk }))
theorem comp_newE {elt iter : Expr} {x : Str} {px : Pos} {scope : Scope} {cl : List (Str × Addr)} {pos : Pos} {Q : Value → Shared → Prop} (F₀ : Fr h₀ L s.heap m) (hh : A.handled = none)
    (hclos : closureFor scope env = pure cl) (hcell : ∀ y ∈ scope.names, y.2 ≠ .cell) (hkind : scope.kind = .function)
    (hnames : ∀ y ∈ scope.names, y.2 = .local → scope.names.lookup y.1 = some .local) (hx : scope.names.lookup x = some .local)
    (h : wpAny (model prog w) A (eval iter env) (fun xv s₁ => Held (NewE prog w A h₀ L m env elt x scope cl Q xv s₁)) E s)
    (hs : ∀ x, foldedSetIterable iter env x = pure x := by intro _; rfl) :
    wpAny (model prog w) A (eval (.ListComp elt [⟨.Name x px, iter, [], 0⟩] scope pos) env) Q E s :=
  LCg.ListComp_U F₀ hclos hcell hkind hnames hx (wpAny_mono h (fun xv s₁ p => by
    (try k_extra "gf")
    obtain ⟨ax, xs, c, news, K, rfl, hz, F, N, hK, k, fin⟩ := p
    (try k_extra "gu")
    exact k.srcs hh F N hz hK fun g ys nx q D h tk F' N' o => fin ys nx D h tk q F' N' o) fun _ _ e => e) hs
inductive NewA (prog : Program) (w : World) (A : Around) (h₀ : Heap) (m : Str → Option Value) (env : Env) (elt : Expr) (x y : Str) (scope : Scope) (cl : List (Str × Addr)) (Q : Flow → Shared → Prop) (xv : Value) (s₁ : Shared) : Prop
  | mk (ax : Addr) (xs : List Value) (c : Nat) (news : List (Addr × Obj)) (K : List Value → List Value → List (Addr × Obj) → Prop) (h1 : xv = .ref ax) (h2 : xs.length ≤ 1000000) (h3 : Fr h₀ env.locals s₁.heap m) (h4 : News h₀ env.locals s₁.heap news) (h5 : K xs [] news) (h6 : CompK prog w A h₀ env.locals m env elt x scope cl (ax, listOf (List.toArray xs) c) K s₁) (h7 : (∀ ys nx D h tk, K [] ys nx → Fr h₀ env.locals h (fun z => if z = y then some (.ref D) else m z) → News h₀ env.locals h ((D, LCg.lst ys) :: nx) → LCg.Off1 D nx → Q .next { s₁ with heap := h, toks := tk }))
theorem comp_newA {elt iter : Expr} {x y : Str} {px py : Pos} {scope : Scope} {cl : List (Str × Addr)} {pos spos : Pos} {Q : Flow → Shared → Prop} (F₀ : Fr h₀ env.locals s.heap m) (hh : A.handled = none)
    (hsw : swapsWith (.ListComp elt [⟨.Name x px, iter, [], 0⟩] scope pos) (some (.Name y py)) spos.line env = pure true)
    (hclos : closureFor scope env = pure cl) (hcell : ∀ z ∈ scope.names, z.2 ≠ .cell) (hkind : scope.kind = .function)
    (hnames : ∀ z ∈ scope.names, z.2 = .local → scope.names.lookup z.1 = some .local) (hx : scope.names.lookup x = some .local)
    (hy : env.kindOf y = some .local) (hp : (env.scope.kind == .class || (env.scope.kind == .module && env.locals != env.globals)) = false)
    (h : wpAny (model prog w) A (eval iter env) (fun xv s₁ => Held (NewA prog w A h₀ m env elt x y scope cl Q xv s₁)) E s)
    (hs : ∀ x, foldedSetIterable iter env x = pure x := by intro _; rfl) :
    wpAny (model prog w) A (exec (.Assign [.Name y py] (.ListComp elt [⟨.Name x px, iter, [], 0⟩] scope pos) spos) env) Q E s :=
  LCg.Assign_ListComp_U F₀ rfl hsw hclos hcell hkind hnames hx hy hp (wpAny_mono h (fun xv s₁ p => by
    (try k_extra "gf")
    obtain ⟨ax, xs, c, news, K, rfl, hz, F, N, hK, k, fin⟩ := p
    (try k_extra "gu")
    exact k.srcs hh F N hz hK fun g ys nx q D h tk F' N' o => fin ys nx D h tk q F' N' o) fun _ _ e => e) hs
end
abbrev tupO (vs : List Value) : Obj := { cls := .type "tuple", data := .seq vs.toArray }
def Fo.ses : Fo → List (Nd × Fo)
  | .nil => []
  | .cons n k r => (n, k) :: r.ses
inductive EntV (rs : List NdR) (v : Value) (e : Nd × Fo) : Prop
  | mk (i : Nat) (t : Tok) (r : NdR) (h1 : v = .int (i : Int) t) (h2 : rs[i]? = some r) (h3 : NodeIs rs r e.1) (h4 : RepT rs r.chv e.2)
theorem RepT.ents {rs : List NdR} {vs : List Value} {f : Fo} (h : RepT rs vs f) : Paired (EntV rs) vs f.ses := by
  induction f generalizing vs with
  | nil => rw [show vs = [] from h]; exact .nil
  | cons n k r _ ih =>
    (try k_extra "gf")
    obtain ⟨i, t, row, vs', rfl, hi, hn, hk, hr⟩ := h
    (try k_extra "gu")
    exact .cons ⟨i, t, row, rfl, hi, hn, hk⟩ (ih hr)
theorem Paired.rev {α β : Type} {F : α → β → Prop} {l₁ : List α} {l₂ : List β} (h : Paired F l₁ l₂) : Paired F l₁.reverse l₂.reverse := by
  induction h with
  | nil => exact .nil
  | cons h _ ih => rw [List.reverse_cons, List.reverse_cons]; exact ih.snoc h
theorem Paired.app {α β : Type} {F : α → β → Prop} {l₁ k₁ : List α} {l₂ k₂ : List β} (h : Paired F l₁ l₂) (h' : Paired F k₁ k₂) : Paired F (l₁ ++ k₁) (l₂ ++ k₂) := by
  induction h with
  | nil => exact h'
  | cons h _ ih => exact .cons h ih
/-- what lies on the writer's stack -/
inductive SE where
  | op (n : Nd) (k : Fo)
  | cl (nm : Str)
def clF (nm : Str) : Str := Str.ofString "</" ++ nm ++ Str.ofString ">"
def opOut (n : Nd) (k : Fo) (inner : List Str) : List Str :=
  match n with
  | .el name ats => (match k with | .nil => [stF name ats true] | _ => stF name ats false :: (inner ++ [clF name]))
  | n => [n.leaf]
def Fo.pcs : Fo → List Str
  | .nil => []
  | .cons n k r => opOut n k k.pcs ++ r.pcs
def SE.out : SE → List Str
  | .op n k => opOut n k k.pcs
  | .cl nm => [clF nm]
def SE.wt : SE → Nat
  | .op _ k => 2 * k.size + 2
  | .cl _ => 1
def opens (f : Fo) : List SE := f.ses.map fun e => SE.op e.1 e.2
theorem opens_out (f : Fo) : (opens f).flatMap SE.out = f.pcs := by
  induction f with
  | nil => rfl
  | cons n k r _ ih => show opOut n k k.pcs ++ (opens r).flatMap SE.out = _; rw [ih]; rfl
theorem opens_wt (f : Fo) : ((opens f).map SE.wt).sum = 2 * f.size := by
  induction f with
  | nil => rfl
  | cons n k r _ ih =>
    show (2 * k.size + 2) + ((opens r).map SE.wt).sum = 2 * (1 + k.size + r.size)
    rw [ih]; omega
inductive SOp (w : World) (rs : List NdR) (G : List (Addr × Obj)) (n : Nd) (k : Fo) (v : Value) : Prop
  | mk (T : Addr) (i : Nat) (t : Tok) (r : NdR) (sc : Addr) (so : Obj) (h1 : v = .ref T) (h2 : (T, tupO [.int (i : Int) t, .ref sc]) ∈ G) (h3 : (sc, so) ∈ G) (h4 : ScO w sc so) (h5 : rs[i]? = some r) (h6 : NodeIs rs r n) (h7 : RepT rs r.chv k)
inductive SCl (rs : List NdR) (G : List (Addr × Obj)) (nm : Str) (v : Value) : Prop
  | mk (T : Addr) (i : Nat) (t : Tok) (r : NdR) (h1 : v = .ref T) (h2 : (T, tupO [.int (i : Int) t, .none]) ∈ G) (h3 : rs[i]? = some r) (h4 : r.name = nm)
def SEnt (w : World) (rs : List NdR) (G : List (Addr × Obj)) (v : Value) : SE → Prop
  | .op n k => SOp w rs G n k v
  | .cl nm => SCl rs G nm v
theorem SEnt.mono {w : World} {rs : List NdR} {G G' : List (Addr × Obj)} (s : ∀ p ∈ G, p ∈ G') {v : Value} {e : SE} (h : SEnt w rs G v e) : SEnt w rs G' v e := by
  cases e with
  | op n k => obtain ⟨T, i, t, r, sc, so, a, b, c, d, d1, d2, d3⟩ := h; exact ⟨T, i, t, r, sc, so, a, s _ b, s _ c, d, d1, d2, d3⟩
  | cl nm => obtain ⟨T, i, t, r, a, b, c, d⟩ := h; exact ⟨T, i, t, r, a, s _ b, c, d⟩

def Fo.Ok : Fo → Prop
  | .nil => True
  | .cons n k r => n.Ok ∧ (n.isEl = false → k = .nil) ∧ k.Ok ∧ r.Ok
def SE.Ok : SE → Prop
  | .op n k => n.Ok ∧ k.Ok
  | .cl nm => nm ∈ nmL
def dclP (b : Bool) : List Str := if b = true then [Str.ofString "<?xml version=\"1.0\" encoding=\"UTF-8\"?>\n"] else []
theorem reg_WW_1 : True := by
  k_with "call ref" => (((with_reducible show wpAny _ _ (call (Value.ref 117) _) _ _ _); k_here; k_dflt ((first | with_reducible refine' use_str (plain_node_spec _ _ _ _ _ _ _ _ _ ?zqhT ?zqhi ?zqhk ?zqhn ?zqhnd ?zqhok ?zqhel) ?zqB ?zqF ?zqX ?zqN ?zqT ?zqk ?zqs ?zqd ?zqu ?_ | refine' use_str (plain_node_spec _ _ _ _ _ _ _ _ _ ?zqhT ?zqhi ?zqhk ?zqhn ?zqhnd ?zqhok ?zqhel) ?zqB ?zqF ?zqX ?zqN ?zqT ?zqk ?zqs ?zqd ?zqu ?_); (case zqB => k_asm); (case zqF => k_asm); (case zqX => k_asm); (case zqN => k_asm); (case zqT => k_asm); (case zqhk => first | exact rfl | assumption | omega); (case zqhT => first | assumption | exact TreeIn.mono (by assumption) (by intro pm9 hpm9; repeat (first | exact hpm9 | refine List.mem_cons_of_mem _ ?_))); (case zqhi => assumption); (case zqhn => assumption); (case zqhnd => assumption); (case zqhok => assumption); (case zqhel => assumption); (case zqs => first | exact fun _ h => h | (intro pm9 hpm9; (repeat (first | exact hpm9 | refine List.mem_cons_of_mem _ ?_)); done) | first | exact List.forall_mem_nil _ | lcg_sub); (case zqk => first | exact rfl | assumption); (case zqd => ktr_room); (case zqu => ktr_units); k_whole); intro tm9 hm9 tkm9 Fm9 Nm9; (try k_sweep); (try dsimp only)))
  trivial
theorem reg_WW_2 : True := by
  k_with "call ref" => (((with_reducible show wpAny _ _ (call (Value.ref 122) _) _ _ _); k_here; k_dflt ((first | with_reducible refine' use_w (declared_spec _ _ _ _ _ _ _ _ _ _ _ _ ?zqhT ?zqhi ?zqhk ?zqhn ?zqhnd ?zqhok ?zqhsc ?zqhso) ?zqB ?zqF ?zqX ?zqN ?zqT ?zqk ?zqd ?zqu ?_ | refine' use_w (declared_spec _ _ _ _ _ _ _ _ _ _ _ _ ?zqhT ?zqhi ?zqhk ?zqhn ?zqhnd ?zqhok ?zqhsc ?zqhso) ?zqB ?zqF ?zqX ?zqN ?zqT ?zqk ?zqd ?zqu ?_); (case zqB => k_asm); (case zqF => k_asm); (case zqX => k_asm); (case zqN => k_asm); (case zqT => k_asm); (case zqhk => first | exact rfl | assumption | omega); (case zqhT => first | assumption | exact TreeIn.mono (by assumption) (by intro pm9 hpm9; repeat (first | exact hpm9 | refine List.mem_cons_of_mem _ ?_))); (case zqhi => assumption); (case zqhn => assumption); (case zqhnd => assumption); (case zqhok => assumption); (case zqhsc => k_mem); (case zqhso => assumption); (case zqk => first | exact rfl | assumption); (case zqd => ktr_room); (case zqu => ktr_units); k_whole); intro rm9 nm9 hm9 tkm9 Fm9 Nm9 pm9; (try k_extra "gf"); obtain ⟨lm9, cm9, em9, fm9, l1⟩ := pm9; subst em9; subst fm9; (have om9 := OffAll.of (fun q hq => (l1 q hq).symm)); (try simp only [OffAll, and_true] at om9); (try k_extra "gu"); (try k_sweep); (try dsimp only)))
  trivial
theorem reg_WW_3 : True := by
  k_with "call ref" => (((with_reducible show wpAny _ _ (call (Value.ref 129) _) _ _ _); k_here; k_dflt ((first | with_reducible refine' use_all (start_tag_spec _ _ _ _ _ _ _ _ _ _ _ _ _ ?zqhT ?zqhi ?zqhk ?zqhn ?zqhnd ?zqhok ?zqhpl) ?zqB ?zqF ?zqX ?zqN ?zqT ?zqk ?zqd ?zqu ?_ | refine' use_all (start_tag_spec _ _ _ _ _ _ _ _ _ _ _ _ _ ?zqhT ?zqhi ?zqhk ?zqhn ?zqhnd ?zqhok ?zqhpl) ?zqB ?zqF ?zqX ?zqN ?zqT ?zqk ?zqd ?zqu ?_); (case zqB => k_asm); (case zqF => k_asm); (case zqX => k_asm); (case zqN => k_asm); (case zqT => k_asm); (case zqhk => first | exact rfl | assumption | omega); (case zqhT => first | assumption | exact TreeIn.mono (by assumption) (by intro pm9 hpm9; repeat (first | exact hpm9 | refine List.mem_cons_of_mem _ ?_))); (case zqhi => assumption); (case zqhn => assumption); (case zqhnd => assumption); (case zqhok => assumption); (case zqhpl => k_mem); (case zqk => first | exact rfl | assumption); (case zqd => ktr_room); (case zqu => ktr_units); k_whole); intro rm9 nm9 hm9 tkm9 Fm9 Nm9 Gm9 pm9; (try k_extra "gf"); obtain ⟨fm9, tm9, em9⟩ := pm9; subst em9; subst fm9; (try k_extra "gu"); (try k_sweep); (try dsimp only)))
  trivial
theorem reg_WW_4 : True := by
  k_with "call ref" => (((with_reducible show wpAny _ _ (call (Value.ref 136) _) _ _ _); k_here; k_dflt ((first | with_reducible refine' use_all (inner_scope_spec _ _ _ _ _ _ ?zqhsc ?zqhso ?zqhpl) ?zqB ?zqF ?zqX ?zqN ?zqT ?zqk ?zqd ?zqu ?_ | refine' use_all (inner_scope_spec _ _ _ _ _ _ ?zqhsc ?zqhso ?zqhpl) ?zqB ?zqF ?zqX ?zqN ?zqT ?zqk ?zqd ?zqu ?_); (case zqB => k_asm); (case zqF => k_asm); (case zqX => k_asm); (case zqN => k_asm); (case zqT => k_asm); (case zqhsc => k_mem); (case zqhso => assumption); (case zqhpl => k_mem); (case zqk => first | exact rfl | assumption); (case zqd => ktr_room); (case zqu => ktr_units); k_whole); intro rm9 nm9 hm9 tkm9 Fm9 Nm9 Gm9 pm9; (try k_extra "gf"); obtain ⟨lm9, om9, em9, fm9, hsom9, l1⟩ := pm9; subst em9; subst fm9; (try k_lt l1); (try k_extra "gu"); (try k_sweep); (try dsimp only)))
  trivial
inductive StkK (w : World) (rs : List NdR) (base B0 : List (Addr × Obj)) (tgt : List SE) (rr ys : List Value) (nx : List (Addr × Obj)) : Prop
  | mk (h0 : ∀ p ∈ base, p ∈ nx) (ents : List (Addr × Obj)) (done : List SE) (todo : List (Nd × Fo)) (h1 : (∀ e ∈ ents, e ∈ nx)) (h2 : (∀ e ∈ ents, ∀ p ∈ base, p.1 ≠ e.1)) (h3 : Paired (EntV rs) rr todo) (h4 : Paired (SEnt w rs (ents ++ B0)) ys done) (h5 : done ++ todo.map (fun e => SE.op e.1 e.2) = tgt)
theorem allLt_mem {d : Nat} : ∀ {l : List (Addr × Obj)}, AllLt d l → ∀ p ∈ l, @LT.lt Nat _ p.1 d := by
  intro l
  induction l with
  | nil => intro _ p hp; cases hp
  | cons q r ih =>
    intro h p hp
    rcases List.mem_cons.mp hp with rfl | hp
    · exact h.1
    · exact ih h.2 p hp
theorem off1_mem {D : Addr} : ∀ {l : List (Addr × Obj)}, LCg.Off1 D l → ∀ p ∈ l, p.1 ≠ D := by
  intro l
  induction l with
  | nil => intro _ p hp; cases hp
  | cons q r ih =>
    intro h p hp
    rcases List.mem_cons.mp hp with rfl | hp
    · exact h.1
    · exact ih h.2 p hp
/-- the writer's loop: the stack, what is written, the cell, the rest -/
inductive StkJ (w : World) (rs : List NdR) (news : List (Addr × Obj)) (ca : Addr) (total : List Str) (n : Nat) (vl vd : Value) (nx : List (Addr × Obj)) : Prop
  | mk (ll ld : Addr) (cl cd : Nat) (oc : Obj) (mv : Option Value) (vs : List Value) (st : List SE) (pcs : List Str) (ps : List Value) (G : List (Addr × Obj)) (h1 : vl = .ref ll) (h2 : vd = .ref ld) (h3 : nx = (ll, listOf (List.toArray vs.reverse) cl) :: (ld, listOf (List.toArray ps) cd) :: (ca, oc) :: G) (h4 : (@Ne Nat ll ld)) (h5 : (@Ne Nat ll ca)) (h6 : (@Ne Nat ld ca)) (h7 : (∀ p ∈ G, p.1 ≠ ll)) (h8 : (∀ p ∈ G, p.1 ≠ ld)) (h9 : (∀ p ∈ G, p.1 ≠ ca)) (h10 : oc.data = .cell mv) (h11 : (∀ p ∈ news, p ∈ G)) (h12 : Paired (SEnt w rs G) vs st) (h13 : (∀ e ∈ st, e.Ok)) (h14 : StrsAre ps pcs) (h15 : pcs ++ st.flatMap SE.out = total) (h16 : n = (st.map SE.wt).sum) (h17 : n + ps.length ≤ 1000)
theorem stk_step2 {w : World} {rs : List NdR} {base B0 : List (Addr × Obj)} {tgt : List SE} {h₀ h' : Heap} {L : Addr} {m : Str → Option Value} {s₁ : Shared} {tk' : Nat} {T sc I C D : Addr} {so oI oC : Obj} {rr ys : List Value} {nx ents : List (Addr × Obj)} {done : List SE} {n : Nd} {k : Fo} {todo : List (Nd × Fo)} {j : Nat} {tj : Tok} {q : NdR}
    (hb : ∀ p ∈ base, p ∈ nx) (hen : ∀ e ∈ ents, e ∈ nx) (hef : ∀ e ∈ ents, ∀ p ∈ base, p.1 ≠ e.1) (hp1 : Paired (EntV rs) rr todo) (hp2 : Paired (SEnt w rs (ents ++ B0)) ys done) (he : done ++ ((n, k) :: todo).map (fun e => SE.op e.1 e.2) = tgt)
    (F : Fr h₀ L h' m) (N : News h₀ L h' ((T, tupO [.int (j : Int) tj, .ref sc]) :: (sc, so) :: (I, oI) :: (C, oC) :: (D, LCg.lst ys) :: nx)) (off : LCg.Off3 I C D nx)
    (q1 : (@LT.lt Nat _ sc T) ∧ (@LT.lt Nat _ I T) ∧ (@LT.lt Nat _ C T) ∧ (@LT.lt Nat _ D T) ∧ AllLt T nx) (q2 : (@LT.lt Nat _ I sc) ∧ (@LT.lt Nat _ C sc) ∧ (@LT.lt Nat _ D sc) ∧ AllLt sc nx) (hso : ScO w sc so) (hj : rs[j]? = some q) (hnq : NodeIs rs q n) (hk' : RepT rs q.chv k) :
    ElEnd h₀ L m I C D oI oC ys (StkK w rs base B0 tgt rr (ys ++ [.ref T])) s₁ { s₁ with heap := h', toks := tk' } := by
  refine ⟨h', tk', (T, tupO [.int (j : Int) tj, .ref sc]) :: (sc, so) :: nx, rfl, F, News.less N ?_, ⟨⟨Nat.ne_of_gt q1.2.1, Nat.ne_of_gt q1.2.2.1, Nat.ne_of_gt q1.2.2.2.1⟩, ⟨Nat.ne_of_gt q2.1, Nat.ne_of_gt q2.2.1, Nat.ne_of_gt q2.2.2.1⟩, off⟩, fun p hp => List.mem_cons_of_mem _ (List.mem_cons_of_mem _ (hb p hp)), (T, tupO [.int (j : Int) tj, .ref sc]) :: (sc, so) :: ents, done ++ [SE.op n k], todo, ?_, ?_, hp1, Paired.snoc (Paired.mono (fun _ _ => SEnt.mono ?_) hp2) ⟨T, j, tj, q, sc, so, rfl, List.mem_cons_self, List.mem_cons_of_mem _ List.mem_cons_self, hso, hj, hnq, hk'⟩, ?_⟩
  · intro p hp
    simp only [List.mem_cons] at hp ⊢
    rcases hp with h | h | h | h | h | h
    · exact .inr (.inr (.inl h))
    · exact .inr (.inr (.inr (.inl h)))
    · exact .inr (.inr (.inr (.inr (.inl h))))
    · exact .inl h
    · exact .inr (.inl h)
    · exact .inr (.inr (.inr (.inr (.inr h))))
  · intro e he'
    simp only [List.mem_cons] at he' ⊢
    rcases he' with h | h | h
    · exact .inl h
    · exact .inr (.inl h)
    · exact .inr (.inr (hen e h))
  · intro e he' p hp
    simp only [List.mem_cons] at he'
    rcases he' with rfl | rfl | h
    · exact Nat.ne_of_lt (allLt_mem q1.2.2.2.2 p (hb p hp))
    · exact Nat.ne_of_lt (allLt_mem q2.2.2.2 p (hb p hp))
    · exact hef e h p hp
  · intro p hp
    exact List.mem_cons_of_mem _ (List.mem_cons_of_mem _ hp)
  · rw [← he]; simp
theorem stk_step1 {w : World} {rs : List NdR} {base B0 : List (Addr × Obj)} {tgt : List SE} {h₀ h' : Heap} {L : Addr} {m : Str → Option Value} {s₁ : Shared} {tk' : Nat} {T sc I C D : Addr} {so oI oC : Obj} {rr ys : List Value} {nx ents : List (Addr × Obj)} {done : List SE} {n : Nd} {k : Fo} {todo : List (Nd × Fo)} {j : Nat} {tj : Tok} {q : NdR}
    (hb : ∀ p ∈ base, p ∈ nx) (hen : ∀ e ∈ ents, e ∈ nx) (hef : ∀ e ∈ ents, ∀ p ∈ base, p.1 ≠ e.1) (hp1 : Paired (EntV rs) rr todo) (hp2 : Paired (SEnt w rs (ents ++ B0)) ys done) (he : done ++ ((n, k) :: todo).map (fun e => SE.op e.1 e.2) = tgt)
    (F : Fr h₀ L h' m) (N : News h₀ L h' ((T, tupO [.int (j : Int) tj, .ref sc]) :: (I, oI) :: (C, oC) :: (D, LCg.lst ys) :: nx)) (off : LCg.Off3 I C D nx)
    (q1 : (@LT.lt Nat _ I T) ∧ (@LT.lt Nat _ C T) ∧ (@LT.lt Nat _ D T) ∧ AllLt T nx) (hsc : (sc, so) ∈ B0) (hso : ScO w sc so) (hj : rs[j]? = some q) (hnq : NodeIs rs q n) (hk' : RepT rs q.chv k) :
    ElEnd h₀ L m I C D oI oC ys (StkK w rs base B0 tgt rr (ys ++ [.ref T])) s₁ { s₁ with heap := h', toks := tk' } := by
  refine ⟨h', tk', (T, tupO [.int (j : Int) tj, .ref sc]) :: nx, rfl, F, News.less N ?_, ⟨⟨Nat.ne_of_gt q1.1, Nat.ne_of_gt q1.2.1, Nat.ne_of_gt q1.2.2.1⟩, off⟩, fun p hp => List.mem_cons_of_mem _ (hb p hp), (T, tupO [.int (j : Int) tj, .ref sc]) :: ents, done ++ [SE.op n k], todo, ?_, ?_, hp1, Paired.snoc (Paired.mono (fun _ _ => SEnt.mono ?_) hp2) ⟨T, j, tj, q, sc, so, rfl, List.mem_cons_self, List.mem_cons_of_mem _ (List.mem_append_right _ hsc), hso, hj, hnq, hk'⟩, ?_⟩
  · intro p hp
    simp only [List.mem_cons] at hp ⊢
    rcases hp with h | h | h | h | h
    · exact .inr (.inl h)
    · exact .inr (.inr (.inl h))
    · exact .inr (.inr (.inr (.inl h)))
    · exact .inl h
    · exact .inr (.inr (.inr (.inr h)))
  · intro e he'
    simp only [List.mem_cons] at he' ⊢
    rcases he' with h | h
    · exact .inl h
    · exact .inr (hen e h)
  · intro e he' p hp
    simp only [List.mem_cons] at he'
    rcases he' with rfl | h
    · exact Nat.ne_of_lt (allLt_mem q1.2.2.2 p (hb p hp))
    · exact hef e h p hp
  · intro p hp
    exact List.mem_cons_of_mem _ hp
  · rw [← he]; simp
theorem stk_start {w : World} {rs : List NdR} {news : List (Addr × Obj)} {f : Fo} {total : List Str} {h₀ h : Heap} {L : Addr} {D a1 a2 ld ca : Addr} {o1 o2 oc : Obj} {mv : Option Value} {ys ps : List Value} {pcs : List Str} {nx : List (Addr × Obj)} {ents : List (Addr × Obj)} {done : List SE} {cd : Nat}
    (hb : ∀ p ∈ (a1, o1) :: (a2, o2) :: (ld, listOf (List.toArray ps) cd) :: (ca, oc) :: news, p ∈ nx) (N2 : News h₀ L h ((D, LCg.lst ys) :: nx)) (off : LCg.Off1 D nx) (hen : ∀ e ∈ ents, e ∈ nx) (hef : ∀ e ∈ ents, ∀ p ∈ (a1, o1) :: (a2, o2) :: (ld, listOf (List.toArray ps) cd) :: (ca, oc) :: news, p.1 ≠ e.1)
    (hp2 : Paired (SEnt w rs (ents ++ [])) ys done) (he : done ++ ([] : List (Nd × Fo)).map (fun e => SE.op e.1 e.2) = (opens f).reverse) (hoc : oc.data = .cell mv) (hlc : (@LT.lt Nat _ ca ld) ∧ AllLt ld news) (hcn : ∀ p ∈ news, p.1 < ca)
    (hok : ∀ e ∈ opens f, e.Ok) (hps : StrsAre ps pcs) (htot : pcs ++ f.pcs = total) (hsz : 2 * f.size + ps.length ≤ 1000) :
    ∃ nx', News h₀ L h nx' ∧ StkJ w rs news ca total (2 * f.size) (.ref D) (.ref ld) nx' := by
  have hD := off1_mem off
  (try k_extra "gf")
  obtain ⟨hld, hln⟩ := hlc
  (try k_extra "gu")
  rw [List.append_nil] at hp2
  rw [List.map_nil, List.append_nil] at he
  have hrev := Mine.Paired.rev hp2
  rw [he, List.reverse_reverse] at hrev
  refine ⟨(D, listOf (List.toArray ys.reverse.reverse) ys.length) :: (ld, listOf (List.toArray ps) cd) :: (ca, oc) :: (ents ++ news), fun p hp => N2 p ?_, D, ld, ys.length, cd, oc, mv, ys.reverse, opens f, pcs, ps, ents ++ news, rfl, rfl, rfl, ?_, ?_, Nat.ne_of_gt hld, ?_, ?_, ?_, hoc, fun p hp => List.mem_append_right _ hp, Paired.mono (fun _ _ => SEnt.mono fun p hp => List.mem_append_left _ hp) hrev, hok, hps, by rw [opens_out]; exact htot, (opens_wt f).symm, hsz⟩
  · rw [List.reverse_reverse] at hp
    simp only [List.mem_cons, List.mem_append] at hp ⊢
    rcases hp with h | h | h | h | h
    · exact .inl h
    · exact .inr (hb _ (by simp [h]))
    · exact .inr (hb _ (by simp [h]))
    · exact .inr (hen _ h)
    · exact .inr (hb _ (by simp [h]))
  · exact (hD _ (hb (ld, listOf (List.toArray ps) cd) (by simp))).symm
  · exact (hD _ (hb (ca, oc) (by simp))).symm
  · intro p hp
    rcases List.mem_append.mp hp with h | h
    · exact hD _ (hen _ h)
    · exact hD _ (hb _ (by simp [h]))
  · intro p hp
    rcases List.mem_append.mp hp with h | h
    · exact (hef p h (ld, listOf (List.toArray ps) cd) (by simp)).symm
    · exact Nat.ne_of_lt (allLt_mem hln p h)
  · intro p hp
    rcases List.mem_append.mp hp with h | h
    · exact (hef p h (ca, oc) (by simp)).symm
    · exact Nat.ne_of_lt (hcn p h)
theorem opens_ok {f : Fo} (h : f.Ok) : ∀ e ∈ opens f, e.Ok := by
  induction f with
  | nil => intro e he; cases he
  | cons n k r _ ih =>
    intro e he
    rcases List.mem_cons.mp he with rfl | he
    · exact ⟨h.1, h.2.2.1⟩
    · exact ih h.2.2.2 e he
theorem strsAre_snoc {vs : List Value} {xs : List Str} {x : Str} {t : Tok} (h : StrsAre vs xs) : StrsAre (vs ++ [.str x t]) (xs ++ [x]) := by
  induction h with
  | nil => exact .cons _ _ .nil
  | cons y u _ ih => exact .cons _ _ ih
theorem wt_len (st : List SE) : st.length ≤ (st.map SE.wt).sum := by
  induction st with
  | nil => exact Nat.le_refl _
  | cons e st ih =>
    rw [List.length_cons, List.map_cons, List.sum_cons]
    have : 1 ≤ e.wt := by cases e <;> simp [SE.wt]
    omega
theorem leaf_kind {rs : List NdR} {q : NdR} {n : Nd} (h : NodeIs rs q n) (hl : n.isEl = false) : (q.kind != Str.ofString "element") = true := by
  cases n with
  | el a b => cases hl
  | tx v => rw [h.1]; decide +kernel
  | cm v => rw [h.1]; decide +kernel
  | pi v => rw [h.1]; decide +kernel
theorem leaf_out {n : Nd} {k : Fo} (hl : n.isEl = false) : (SE.op n k).out = [n.leaf] := by
  cases n with
  | el a b => cases hl
  | tx v => rfl
  | cm v => rfl
  | pi v => rfl
section
variable {prog : Program} {w : World} {A : Around} {E : Value → Shared → Prop} {s : Shared} {h₀ : Heap} {L : Addr} {m : Str → Option Value} {news news' : List (Addr × Obj)} {Q : Value → Shared → Prop}
theorem eqE_yes {a b : Addr} {xs : List Value} {n k : Nat} (N : News h₀ L s.heap news) (ha : (a, listOf (List.toArray xs) n) ∈ news) (hb : (b, listOf (List.toArray []) k) ∈ news) (hx : xs = []) (hu : A.units < cLine) (h : Q (.bool true) s) :
    wpAny (model prog w) A (compareOp .Eq (.ref a) (.ref b)) Q E s := by
  subst hx
  exact PySem.SeqAt.eq_listAt (e := fun _ => true) (lst_N N ha) (lst_N N hb) rfl hu (fun j h1 => absurd h1 (Nat.not_lt_zero _)) h
theorem eqE_no {a b : Addr} {xs : List Value} {n k : Nat} (N : News h₀ L s.heap news) (ha : (a, listOf (List.toArray xs) n) ∈ news) (hb : (b, listOf (List.toArray []) k) ∈ news) (hx : xs ≠ []) (hu : A.units < cLine) (h : Q (.bool false) s) :
    wpAny (model prog w) A (compareOp .Eq (.ref a) (.ref b)) Q E s :=
  PySem.SeqAt.eq_list_lengthsAt (lst_N N ha) (lst_N N hb) (by simpa using hx) hu h
theorem neE_no {a b : Addr} {xs : List Value} {n k : Nat} (N : News h₀ L s.heap news) (ha : (a, listOf (List.toArray xs) n) ∈ news) (hb : (b, listOf (List.toArray []) k) ∈ news) (hx : xs = []) (hu : A.units < cLine) (h : Q (.bool false) s) :
    wpAny (model prog w) A (compareOp .NotEq (.ref a) (.ref b)) Q E s := by
  subst hx; exact ne_no N ha hb hu h
theorem neE_yes {a b : Addr} {xs : List Value} {n k : Nat} (N : News h₀ L s.heap news) (ha : (a, listOf (List.toArray xs) n) ∈ news) (hb : (b, listOf (List.toArray []) k) ∈ news) (hx : xs ≠ []) (hu : A.units < cLine) (h : Q (.bool true) s) :
    wpAny (model prog w) A (compareOp .NotEq (.ref a) (.ref b)) Q E s :=
  PySem.SeqAt.RcNeAt.lists_lengths (A := A) (lst_N N ha) (lst_N N hb) (by simpa using hx) hu prog w E Q h
end
theorem reg_WW_5 : True := by
  k_with "compareOp NotEq ref ref" => ((k_here; (with_reducible show wpAny _ _ (compareOp CmpOp.NotEq (Value.ref _) (Value.ref _)) _ _ _); k_dflt (first | (refine' ne_no ?zqN ?zqa ?zqb ?zqu ?_; (case zqN => k_asm); (case zqa => with_reducible k_mem); (case zqb => with_reducible k_mem); (case zqu => units_room)) | (refine' ne_yes ?zqN ?zqa ?zqb ?zqu ?_; (case zqN => k_asm); (case zqa => with_reducible k_mem); (case zqb => with_reducible k_mem); (case zqu => units_room)) | (refine' neE_no ?zqN ?zqa ?zqb ?zqx ?zqu ?_; (case zqN => k_asm); (case zqa => with_reducible k_mem); (case zqb => with_reducible k_mem); (case zqx => with_reducible assumption); (case zqu => units_room)) | (refine' neE_yes ?zqN ?zqa ?zqb ?zqx ?zqu ?_; (case zqN => k_asm); (case zqa => with_reducible k_mem); (case zqb => with_reducible k_mem); (case zqx => with_reducible assumption); (case zqu => units_room)) | (refine' ne_no ?zqN ?zqa ?zqb ?zqu ?_; (case zqN => k_asm); (case zqa => k_mem); (case zqb => k_mem); (case zqu => units_room)) | (refine' ne_yes ?zqN ?zqa ?zqb ?zqu ?_; (case zqN => k_asm); (case zqa => k_mem); (case zqb => k_mem); (case zqu => units_room)) | (refine' neE_no ?zqN ?zqa ?zqb ?zqx ?zqu ?_; (case zqN => k_asm); (case zqa => k_mem); (case zqb => k_mem); (case zqx => assumption); (case zqu => units_room)) | (refine' neE_yes ?zqN ?zqa ?zqb ?zqx ?zqu ?_; (case zqN => k_asm); (case zqa => k_mem); (case zqb => k_mem); (case zqx => assumption); (case zqu => units_room)))))
  trivial
theorem reg_WW_6 : True := by
  k_with "compareOp Eq ref ref" => ((k_here; (with_reducible show wpAny _ _ (compareOp CmpOp.Eq (Value.ref _) (Value.ref _)) _ _ _); k_dflt (first | (refine' eqE_yes ?zqN ?zqa ?zqb ?zqx ?zqu ?_; (case zqN => k_asm); (case zqa => k_mem); (case zqb => k_mem); (case zqx => first | assumption | exact rfl); (case zqu => units_room)) | (refine' eqE_no ?zqN ?zqa ?zqb ?zqx ?zqu ?_; (case zqN => k_asm); (case zqa => k_mem); (case zqb => k_mem); (case zqx => first | assumption | exact List.cons_ne_nil _ _); (case zqu => units_room)))))
  trivial
theorem stk_put {w : World} {rs : List NdR} {news G all : List (Addr × Obj)} {ca ll ld : Addr} {cl cd : Nat} {oc : Obj} {mv : Option Value} {total pcs : List Str} {st : List SE} {vs ps : List Value} {x : Str} {tx : Tok} {h₀ h' : Heap} {L : Addr} {m : Str → Option Value} {s₁ : Shared} {tk : Nat} {vt : Value} {n : Nat}
    (F : Fr h₀ L h' m) (N : News h₀ L h' all) (hm2 : (ld, listOf ((List.toArray ps).push (.str x tx)) cd) ∈ all) (hm1 : (ll, listOf (List.toArray vs.reverse) cl) ∈ all) (hm3 : (ca, oc) ∈ all) (hG : ∀ p ∈ G, p ∈ all)
    (e1 : m (Str.ofString "left") = some (.ref ll)) (e2 : m (Str.ofString "found") = some (.ref ld)) (e3 : m (Str.ofString "tree") = some vt)
    (n1 : @Ne Nat ll ld) (n2 : @Ne Nat ll ca) (n3 : @Ne Nat ld ca) (g1 : ∀ p ∈ G, p.1 ≠ ll) (g2 : ∀ p ∈ G, p.1 ≠ ld) (g3 : ∀ p ∈ G, p.1 ≠ ca) (hoc : oc.data = .cell mv) (hnG : ∀ p ∈ news, p ∈ G) (hst : Paired (SEnt w rs G) vs st) (hok : ∀ e ∈ st, e.Ok) (hps : StrsAre ps pcs)
    (htot : pcs ++ x :: st.flatMap SE.out = total) (hsz : (st.map SE.wt).sum + ps.length + 1 ≤ 1000) (hn : (st.map SE.wt).sum < n) :
    WhileStep h₀ L s₁ (W3 (Str.ofString "left") (Str.ofString "found") (Str.ofString "tree") vt (StkJ w rs news ca total)) n .next { s₁ with heap := h', toks := tk } :=
  W3.step (vl := .ref ll) (vd := .ref ld) F N (fun p hp => by
    rw [← List.push_toArray] at hp
    rcases List.mem_cons.mp hp with rfl | hp
    · exact hm1
    rcases List.mem_cons.mp hp with rfl | hp
    · exact hm2
    rcases List.mem_cons.mp hp with rfl | hp
    · exact hm3
    · exact hG p hp) hn e1 e2 e3 ⟨ll, ld, cl, cd, oc, mv, vs, st, pcs ++ [x], ps ++ [.str x tx], G, rfl, rfl, rfl, n1, n2, n3, g1, g2, g3, hoc, hnG, hst, hok, strsAre_snoc hps, by rw [← htot]; simp, rfl, by simp only [List.length_append, List.length_cons, List.length_nil]; omega⟩
abbrev StkK1 {w : World} {li : Addr} {o9 : Obj} (_h : ScO w li o9) (rs : List NdR) (base : List (Addr × Obj)) (tgt : List SE) := StkK w rs base [(li, o9)] tgt
theorem push_mem {ll : Addr} {xs : List Value} {x : Value} {n : Nat} {nx : List (Addr × Obj)} (h : (ll, listOf ((List.toArray xs).push x) n) ∈ nx) : (ll, listOf (List.toArray (xs ++ [x])) n) ∈ nx := by rw [← List.push_toArray]; exact h
theorem stk_grow {w : World} {rs : List NdR} {news G nx base ents : List (Addr × Obj)} {ca ld D D' T li : Addr} {cd : Nat} {oc o9 : Obj} {mv : Option Value} {total pcs : List Str} {st done : List SE} {vs ps ys : List Value} {x nm : Str} {tx tj : Tok} {j : Nat} {q : NdR} {kd : Fo} {h₀ h' : Heap} {L : Addr} {m : Str → Option Value} {s₁ : Shared} {tk : Nat} {vt : Value} {n : Nat}
    (F : Fr h₀ L h' m) (N : News h₀ L h' ((D', listOf (List.toArray ((vs.reverse ++ [.ref T]) ++ ys)) 0) :: (D, LCg.lst ys) :: nx)) (hb : ∀ p ∈ base, p ∈ nx) (hlt : (@LT.lt Nat _ D D') ∧ AllLt D' nx) (hen : ∀ e ∈ ents, e ∈ nx) (hef : ∀ e ∈ ents, ∀ p ∈ base, p.1 ≠ e.1)
    (hp2 : Paired (SEnt w rs (ents ++ [(li, o9)])) ys done) (he : done ++ ([] : List (Nd × Fo)).map (fun e => SE.op e.1 e.2) = (opens kd).reverse)
    (hm2 : (ld, listOf ((List.toArray ps).push (.str x tx)) cd) ∈ base) (hm3 : (ca, oc) ∈ base) (hm4 : (T, tupO [.int (j : Int) tj, .none]) ∈ base) (hm5 : (li, o9) ∈ base) (hGb : ∀ p ∈ G, p ∈ base)
    (e1 : m (Str.ofString "left") = some (.ref D')) (e2 : m (Str.ofString "found") = some (.ref ld)) (e3 : m (Str.ofString "tree") = some vt)
    (n3 : @Ne Nat ld ca) (g2 : ∀ p ∈ G, p.1 ≠ ld) (g3 : ∀ p ∈ G, p.1 ≠ ca) (t1 : @Ne Nat T ld) (t2 : @Ne Nat T ca) (t3 : @Ne Nat li ld) (t4 : @Ne Nat li ca) (hoc : oc.data = .cell mv) (hnG : ∀ p ∈ news, p ∈ G) (hst : Paired (SEnt w rs G) vs st) (hok : ∀ e ∈ st, e.Ok) (hkok : kd.Ok) (hnm : nm ∈ nmL) (hj : rs[j]? = some q) (hqn : q.name = nm) (hps : StrsAre ps pcs)
    (htot : pcs ++ x :: (kd.pcs ++ clF nm :: st.flatMap SE.out) = total) (hsz : 2 * kd.size + 1 + (st.map SE.wt).sum + ps.length + 1 ≤ 1000) (hn : 2 * kd.size + 1 + (st.map SE.wt).sum < n) :
    WhileStep h₀ L s₁ (W3 (Str.ofString "left") (Str.ofString "found") (Str.ofString "tree") vt (StkJ w rs news ca total)) n .next { s₁ with heap := h', toks := tk } := by
  rw [List.map_nil, List.append_nil] at he
  have hrev := Mine.Paired.rev hp2
  rw [he, List.reverse_reverse] at hrev
  have hlt' := allLt_mem hlt.2
  have hnum : ((opens kd ++ SE.cl nm :: st).map SE.wt).sum = 2 * kd.size + 1 + (st.map SE.wt).sum := by
    rw [List.map_append, List.sum_append, opens_wt, List.map_cons, List.sum_cons]; simp only [SE.wt]; omega
  refine W3.step (vl := .ref D') (vd := .ref ld) (nx := (D', listOf (List.toArray (ys.reverse ++ .ref T :: vs).reverse) 0) :: (ld, listOf (List.toArray (ps ++ [.str x tx])) cd) :: (ca, oc) :: (ents ++ (T, tupO [.int (j : Int) tj, .none]) :: (li, o9) :: G)) (n' := 2 * kd.size + 1 + (st.map SE.wt).sum) F N (fun p hp => ?_) hn e1 e2 e3
    ⟨D', ld, 0, cd, oc, mv, ys.reverse ++ .ref T :: vs, opens kd ++ SE.cl nm :: st, pcs ++ [x], ps ++ [.str x tx], _, rfl, rfl, rfl, Nat.ne_of_gt (hlt' _ (hb _ hm2)), Nat.ne_of_gt (hlt' _ (hb _ hm3)), n3, ?_, ?_, ?_, hoc, fun p hp => List.mem_append_right _ (List.mem_cons_of_mem _ (List.mem_cons_of_mem _ (hnG p hp))), ?_, ?_, strsAre_snoc hps, ?_, hnum.symm, by simp only [List.length_append, List.length_cons, List.length_nil]; omega⟩
  · rw [← List.push_toArray] at hp
    simp only [List.mem_cons, List.mem_append] at hp ⊢
    rcases hp with h | h | h | h | h | h | h
    · exact .inl (by rw [h]; simp)
    · exact .inr (.inr (hb _ (h ▸ hm2)))
    · exact .inr (.inr (hb _ (h ▸ hm3)))
    · exact .inr (.inr (hen _ h))
    · exact .inr (.inr (hb _ (h ▸ hm4)))
    · exact .inr (.inr (hb _ (h ▸ hm5)))
    · exact .inr (.inr (hb _ (hGb _ h)))
  · intro p hp
    simp only [List.mem_cons, List.mem_append] at hp
    rcases hp with h | rfl | rfl | h
    · exact Nat.ne_of_lt (hlt' _ (hen _ h))
    · exact Nat.ne_of_lt (hlt' _ (hb _ hm4))
    · exact Nat.ne_of_lt (hlt' _ (hb _ hm5))
    · exact Nat.ne_of_lt (hlt' _ (hb _ (hGb _ h)))
  · intro p hp
    simp only [List.mem_cons, List.mem_append] at hp
    rcases hp with h | rfl | rfl | h
    · exact (hef _ h _ hm2).symm
    · exact t1
    · exact t3
    · exact g2 _ h
  · intro p hp
    simp only [List.mem_cons, List.mem_append] at hp
    rcases hp with h | rfl | rfl | h
    · exact (hef _ h _ hm3).symm
    · exact t2
    · exact t4
    · exact g3 _ h
  · refine Mine.Paired.app (Paired.mono (fun _ _ => SEnt.mono fun p hp => ?_) hrev) (.cons ⟨T, j, tj, q, rfl, by simp, hj, hqn⟩ (Paired.mono (fun _ _ => SEnt.mono fun p hp => ?_) hst))
    · simp only [List.mem_cons, List.mem_append, List.not_mem_nil, or_false] at hp ⊢
      rcases hp with h | h
      · exact .inl h
      · exact .inr (.inr (.inl h))
    · exact List.mem_append_right _ (List.mem_cons_of_mem _ (List.mem_cons_of_mem _ hp))
  · intro e he'
    rcases List.mem_append.mp he' with h | h
    · exact opens_ok hkok e h
    · rcases List.mem_cons.mp h with rfl | h
      · exact hnm
      · exact hok e h
  · rw [List.flatMap_append, opens_out, List.flatMap_cons, ← htot]; simp [SE.out]
inductive WMid (g : Heap) (L : Addr) (mB : Str → Option Value) (ca : Addr) (oc : Obj) (news : List (Addr × Obj)) (b : Bool) (s s' : Shared) : Prop
  | mk (ld : Addr) (ps0 : List Value) (h8 : Heap) (tk8 : Nat) (h1 : s' = { s with heap := h8, toks := tk8 }) (h2 : Fr g L h8 (fun y => if y = Str.ofString "found" then some (.ref ld) else mB y)) (h3 : News g L h8 ((ld, listOf (List.toArray ps0) 0) :: (ca, oc) :: news)) (h4 : StrsAre ps0 (dclP b)) (h5 : ps0.length ≤ 1) (h6 : (@LT.lt Nat _ ca ld) ∧ AllLt ld news)
theorem mid_cut {prog : Program} {w : World} {A : Around} {E : Value → Shared → Prop} {s : Shared} {t : Sem Flow} {Q : Flow → Shared → Prop} {g h : Heap} {L ca : Addr} {mB : Str → Option Value} {oc : Obj} {news : List (Addr × Obj)} (b : Bool) (_F : Fr g L h mB) (_N : News g L h ((ca, oc) :: news))
    (h1 : wpAny (model prog w) A t (fun fl s' => fl = Flow.next ∧ Held (WMid g L mB ca oc news b s s')) E s) (h2 : ∀ s', WMid g L mB ca oc news b s s' → Q .next s') : wpAny (model prog w) A t Q E s :=
  wpAny_mono h1 (fun _ s' p => by rw [p.1]; exact h2 s' p.2) fun _ _ e => e
local macro_rules | `(tactic| k_steps) => `(tactic| repeat' (first | (k_unfold; (try dsimp only)) | (k_end; wrow_close) | ((first | (with_reducible show wpAny _ _ (exec _ _) _ _ _) | (with_reducible show wpAny _ _ (execs _ _) _ _ _)); (fail_if_success (fail_if_success k_fold)); refine fold_q ?_; intro qk9) | walk1 | (dsimp only; walk1) | (leave1; walk_say "STEP leave1"; try dsimp only) | fail "no step"))
theorem write_spec (w : World) (news : List (Addr × Obj)) (tr : Addr) (rs : List NdR) (i : Nat) (r : NdR) (k : Int) (t : Tok) (f : Fo) (b : Bool) (hT : TreeIn w.params news tr rs) (hi : rs[i]? = some r) (hk : k = (i : Int)) (hn : rs.length ≤ 1000)
    (hr : r.kind = Str.ofString "root") (hf : RepT rs r.chv f) (hok : f.Ok) (hs : f.size ≤ 400) (hz : (catS (dclP b ++ f.pcs)).length ≤ 16777216) :
    SpecW w 142 [.ref tr, .int k t, .bool b] 100 200 news (fun v n' => n' = news ∧ ∃ t', v = .str (catS (dclP b ++ f.pcs)) t') := by
  (try k_extra "gf")
  obtain ⟨td, tkT, R, t1, t2, t3⟩ := hT.open
  (try k_extra "gu")
  (try k_extra "gf")
  obtain ⟨m1, m2, m3, m4, m5⟩ := hT.node hi
  (try k_extra "gu")
  have hz1 : r.chv.length ≤ 1000 := Nat.le_trans hf.len (by omega)
  have hz2 : r.chv.length ≤ 1000000 := by omega
  have c1 : (r.kind == Str.ofString "root") = true := by rw [hr]; decide +kernel
  unfold SpecW
  k_fill
  intro mean mg mb dp un gd cn cs a ccd cl outer A₀ base h₀ L m s Q E B F X N T hk hd hu hret
  refine wpAny_call ?_
  k_dflt (refine' code_defC ?k1 ?k2 ?k3 ?k4 ?k5 ?kA ?kF ?kK ?k6 ?k7 ?k8 ?k9 ?kB ?kD ?_ ?c2 ?c3 ?c4; (case kA => exact rfl); (case kF => exact rfl); (case kK => assumption); (case k1 => k_asm); (case k2 => k_asm); (case k3 => k_asm); (case k4 => k_asm); (case k5 => k_asm); (case k6 => k_is); (case k7 => k_is); (case k8 => ktr_room); (case k9 => first | exact BindsTo.of_eq rfl | exact binds_K (by k_in) rfl (by k_is) rfl rfl rfl); (case kB => exact rfl); (case kD => decide +kernel); (case c2 => exact rfl); (case c3 => exact rfl); (case c4 => exact rfl); k_whole; intro g' L' h' tk' cells' FG' F' N' Y' B' X' T' l1; (try k_lt l1); k_cells Y'; (try simp only [List.cons_append, List.nil_append] at N'); refine fold_q ?_; intro qk; refine fold_e ?_; intro ek; (try dsimp only))
  walk1
  refine mid_cut b F' N' ?_ ?_
  · cases b <;> k_steps
    all_goals first | exact trivial | exact ⟨_, _, _, _, rfl, by assumption, by assumption, by first | exact .cons _ _ .nil | exact .nil, by first | exact Nat.le_refl _ | exact Nat.zero_le _, by assumption⟩
  intro s' zr1
  (try k_extra "gf")
  obtain ⟨ld0, ps0, h8, tk8, rfl, F8, N8, hps0, hl0, hlo0⟩ := zr1
  (try k_extra "gu")
  dsimp only
  k_steps
  unfold Held
  refine comp_newA (by assumption) rfl rfl rfl (by decide) rfl (by decide) rfl rfl rfl ?_
  k_steps
  unfold Held
  rename News _ _ _ _ => N9
  refine ⟨_, _, 0, _, StkK w rs _ [] (opens f).reverse, rfl, ?_, by assumption, N9, ⟨fun p hp => hp, [], [], f.ses.reverse, (fun _ h => nomatch h), (fun _ h => nomatch h), Mine.Paired.rev hf.ents, .nil, by rw [opens, List.map_reverse]; rfl⟩, ⟨?_, ?_⟩, ?_⟩
  · rw [List.length_reverse]; exact hz2
  · intro rr ys nx zr3
    (try k_extra "gf")
    obtain ⟨hb, _⟩ := zr3
    (try k_extra "gu")
    exact hb _ List.mem_cons_self
  · intro v rr ys nx I oI C oC D m₂ g h tk E' zr14 hC hx F2 N2 off ne
    (try k_extra "gf")
    obtain ⟨hb, ents, done, todo, hen, hef, hp1, hp2, he⟩ := zr14
    (try k_extra "gu")
    cases hp1 with
    | @cons _ b9 _ l9 h1 hp1 =>
      (try k_extra "gf")
      obtain ⟨j, tj, q, rfl, hj, hnq, hk'⟩ := h1
      (try k_extra "gu")
      k_steps
      unfold Held
      exact stk_step2 hb hen hef hp1 hp2 he (by assumption) (by assumption) off (by assumption) (by assumption) ⟨by assumption, _, by assumption, by assumption⟩ hj hnq hk'
  · intro ys nx D h tk zr5 F2 N2 off
    (try k_extra "gf")
    obtain ⟨hb, ents, done, todo, hen, hef, hp1, hp2, he⟩ := zr5
    (try k_extra "gu")
    cases hp1
    k_steps
    unfold Held
    have st := stk_start (total := dclP b ++ f.pcs) (pcs := dclP b) hb (by assumption) off hen hef hp2 he (by assumption) (by assumption) (fun p hp => Nat.lt_succ_of_lt (by rename (∀ p ∈ news, p.1 < _) => z; exact z p hp)) (opens_ok hok) hps0 rfl (by omega)
    (try k_extra "gf")
    obtain ⟨nx', N3, J3⟩ := st
    (try k_extra "gu")
    refine While_3 (Str.ofString "left") (Str.ofString "found") (Str.ofString "tree") (StkJ w rs news _ _) (n₀ := _) F2 N3 rfl rfl rfl J3 ?_
    intro n u vl vd nx1 h₁ tk₁ F3 N3 zr9
    (try k_extra "gf")
    obtain ⟨ll, ld, cl, cd, oc, mv, vs, st, pcs, ps, G, rfl, rfl, rfl, n1, n2, n3, g1, g2, g3, hoc, hnG, hst, hstok, hps, htot, rfl, hsz⟩ := zr9
    (try k_extra "gu")
    have hTG := hT.mono hnG
    have t1' := hnG _ t1
    have t2' := hnG _ t2
    have t3' := hnG _ t3
    have hvl := hst.length
    have hwl := wt_len st
    cases hst with
    | nil =>
      rw [List.reverse_nil] at N3
      have hS : StrsAre ps (dclP b ++ f.pcs) := by rw [← htot]; simpa using hps
      k_steps
      all_goals exact hret _ _ _ _ (by k_asm) (News.less (by k_asm) (fun p hp => by have := hnG p hp; k_mem)) ⟨rfl, _, rfl⟩
    | @cons v e vs st h1 hst =>
      rw [List.reverse_cons] at N3
      have hok1 := hstok _ List.mem_cons_self
      have hvz0 : vs.length ≤ 1000 := by simp only [List.length_cons] at hvl hwl; omega
      have hvz : vs.length ≤ 1000000 := by omega
      have hpz : ps.length ≤ 1000000 := by omega
      have hvr : vs.reverse.length ≤ 1000000 := by rw [List.length_reverse]; exact hvz
      cases e with
      | cl nm =>
        (try k_extra "gf")
        obtain ⟨T, j, tj, q, rfl, hT', hj, rfl⟩ := h1
        (try k_extra "gu")
        have hql : q.name.length ≤ 3 := nmL_len _ hok1
        simp only [List.map_cons, List.sum_cons, SE.wt] at hsz
        k_steps
        all_goals exact stk_put (by assumption) (by assumption) (by k_mem) (by k_mem) (by k_mem) (fun p hp => by k_mem) rfl rfl rfl n1 n2 n3 g1 g2 g3 hoc hnG hst (fun e he => hstok e (List.mem_cons_of_mem _ he)) hps htot (by omega) (by simp only [List.map_cons, List.sum_cons, SE.wt]; omega)
      | op nd kd =>
        (try k_extra "gf")
        obtain ⟨T, j, tj, q, sc, so, rfl, hT', hsc, hso, hj, hqn, hqk⟩ := h1
        (try k_extra "gu")
        simp only [List.map_cons, List.sum_cons, SE.wt] at hsz
        by_cases hle : nd.isEl = false
        · have hkd := leaf_kind hqn hle
          have hok2 := hok1.1
          k_steps
          rw [List.flatMap_cons, leaf_out hle] at htot
          all_goals exact stk_put (by assumption) (by assumption) (by k_mem) (by k_mem) (by k_mem) (fun p hp => by k_mem) rfl rfl rfl n1 n2 n3 g1 g2 g3 hoc hnG hst (fun e he => hstok e (List.mem_cons_of_mem _ he)) hps htot (by omega) (by simp only [List.map_cons, List.sum_cons, SE.wt]; omega)
        · cases nd with
          | tx v => exact absurd rfl hle
          | cm v => exact absurd rfl hle
          | pi v => exact absurd rfl hle
          | el name ats =>
            have hkd : (q.kind != Str.ofString "element") = false := by rw [hqn.1]; decide +kernel
            have hok2 := hok1.1
            have hqz : q.chv.length ≤ 1000 := by have := hqk.len; omega
            have hqz2 : q.chv.length ≤ 1000000 := by omega
            cases kd with
            | nil =>
              have hq0 : q.chv = [] := hqk
              k_steps
              all_goals exact stk_put (by assumption) (by assumption) (by k_mem) (by k_mem) (by k_mem) (fun p hp => by k_mem) rfl rfl rfl n1 n2 n3 g1 g2 g3 hoc hnG hst (fun e he => hstok e (List.mem_cons_of_mem _ he)) hps htot (by omega) (by simp only [List.map_cons, List.sum_cons, SE.wt]; omega)
            | cons nn1 k1 r1 =>
              have hq0 : q.chv ≠ [] := by obtain ⟨_, _, _, _, e, _⟩ := hqk; rw [e]; exact List.cons_ne_nil _ _
              k_steps
              unfold Held
              rename ScO w _ _ => hso9
              refine comp_newE (by assumption) rfl rfl (by decide) rfl (by decide) rfl ?_
              k_steps
              unfold Held
              rename News _ _ _ _ => N9
              refine ⟨_, _, 0, _, StkK1 hso9 rs _ (opens (.cons nn1 k1 r1)).reverse, rfl, ?_, by assumption, N9, ⟨fun p hp => hp, [], [], (Fo.cons nn1 k1 r1).ses.reverse, (fun _ h => nomatch h), (fun _ h => nomatch h), Mine.Paired.rev hqk.ents, .nil, by rw [opens, List.map_reverse]; rfl⟩, ⟨?_, ?_⟩, ?_⟩
              · rw [List.length_reverse]; exact hqz2
              · intro rr ys nx zr3
                (try k_extra "gf")
                obtain ⟨hb, _⟩ := zr3
                (try k_extra "gu")
                exact hb _ List.mem_cons_self
              · intro v rr ys nx I oI C oC D m₂ g h tk E' zr14 hC hx F2 N2 off ne
                (try k_extra "gf")
                obtain ⟨hb, ents, done, todo, hen, hef, hp1, hp2, he⟩ := zr14
                (try k_extra "gu")
                cases hp1 with
                | @cons _ b9 _ l9 h1 hp1 =>
                  (try k_extra "gf")
                  obtain ⟨j', tj', q', rfl, hj', hnq', hk''⟩ := h1
                  (try k_extra "gu")
                  have hca := hb (L' + 1, _) (by k_mem)
                  k_steps
                  unfold Held
                  exact stk_step1 hb hen hef hp1 hp2 he (by assumption) (by assumption) off (by assumption) List.mem_cons_self hso9 hj' hnq' hk''
              · intro ys nx D h tk zr5 F2 N2 off
                (try k_extra "gf")
                obtain ⟨hb, ents, done, todo, hen, hef, hp1, hp2, he⟩ := zr5
                (try k_extra "gu")
                cases hp1
                have hll := push_mem (hb (ll, _) (by with_reducible repeat (first | exact List.mem_cons_self | refine List.mem_cons_of_mem _ ?_)))
                have hDm : (D, listOf (List.toArray ys) ys.length) ∈ (D, LCg.lst ys) :: nx := List.mem_cons_self
                have hyl : ys.length ≤ 1000 := by
                  have e1 := hp2.length
                  have e2 := congrArg List.length he
                  have e3 := hqk.ents.length
                  rw [List.map_nil, List.append_nil, List.length_reverse, opens, List.length_map] at e2
                  omega
                dsimp only
                refine cat_N F2 N2 (List.mem_cons_of_mem _ hll) hDm ?_ ?_
                · intro D' h' F' N' l1
                  k_lt l1
                  dsimp only
                  have htot' : pcs ++ stF name ats false :: ((Fo.cons nn1 k1 r1).pcs ++ clF name :: st.flatMap SE.out) = dclP b ++ f.pcs := by
                    rw [← htot, List.flatMap_cons]
                    show _ = pcs ++ ((stF name ats false :: ((Fo.cons nn1 k1 r1).pcs ++ [clF name])) ++ st.flatMap SE.out)
                    simp
                  k_steps
                  exact stk_grow (nm := name) (x := stF name ats false) (by assumption) (by assumption) hb (by assumption) hen hef hp2 he (by with_reducible repeat (first | exact List.mem_cons_self | refine List.mem_cons_of_mem _ ?_)) (by with_reducible repeat (first | exact List.mem_cons_self | refine List.mem_cons_of_mem _ ?_)) (by with_reducible repeat (first | exact List.mem_cons_self | refine List.mem_cons_of_mem _ ?_)) (by with_reducible repeat (first | exact List.mem_cons_self | refine List.mem_cons_of_mem _ ?_)) (fun p hp => by with_reducible repeat (first | exact hp | refine List.mem_cons_of_mem _ ?_)) rfl rfl rfl n3 g2 g3 (by omega) (by omega) (by omega) (by omega) (by assumption) hnG hst (fun e he => hstok e (List.mem_cons_of_mem _ he)) hok1.2 hok2.1 hj hqn.2.1 hps htot' (by omega) (by simp only [List.map_cons, List.sum_cons, SE.wt]; omega)
                · simp only [List.length_append, List.length_reverse, List.length_cons, List.length_nil]; omega
local macro_rules | `(tactic| k_steps) => `(tactic| repeat' (first | (k_unfold; (try dsimp only)) | (k_end; wrow_close) | walk1 | (dsimp only; walk1) | (leave1; walk_say "STEP leave1"; try dsimp only) | fail "no step"))

theorem catS_cons (a : Str) (l : List Str) : catS (a :: l) = a ++ catS l := by
  refine str_eq ?_
  rw [app_cps, catS_cps, catS_cps, List.flatMap_cons]
theorem attF_len : ∀ (l : List (Str × Str)) (acc : Str), (∀ p ∈ l, p.1 ∈ nmL ∧ p.2 ∈ atL) → (attF acc l).length ≤ acc.length + 30 * l.length := by
  intro l
  induction l with
  | nil => intro acc _; exact Nat.le_refl _
  | cons p l ih =>
    intro acc h
    (try k_extra "gf")
    obtain ⟨a, x⟩ := p
    (try k_extra "gu")
    have h1 := h (a, x) List.mem_cons_self
    have h2 := nmL_len _ h1.1
    have h3 := atL_len3 _ h1.2
    have h4 := evF_len x
    have h5 := ih (acc ++ Str.ofString " " ++ a ++ Str.ofString "=\"" ++ evF x ++ Str.ofString "\"") fun q hq => h q (List.mem_cons_of_mem _ hq)
    simp only [len_app, show (Str.ofString " ").length = 1 by decide +kernel, show (Str.ofString "=\"").length = 2 by decide +kernel, show (Str.ofString "\"").length = 1 by decide +kernel] at h5
    simp only [attF, List.length_cons] at h5 ⊢
    simp only at h2 h3
    omega
theorem stF_len {name : Str} {ats : List (Str × Str)} {b : Bool} (h : (Nd.el name ats).Ok) : (stF name ats b).length ≤ 70 := by
  have h1 := nmL_len _ h.1
  have h2 := attF_len ats (Str.ofString "<" ++ name) h.2.2
  have h3 := h.2.1
  rw [len_app, show (Str.ofString "<").length = 1 by decide +kernel] at h2
  unfold stF
  rw [len_app]
  have h4 : (if b = true then Str.ofString "/>" else Str.ofString ">").length ≤ 2 := by cases b <;> exact Nat.le_of_ble_eq_true (by decide +kernel)
  omega
theorem cmF_len : ∀ v ∈ cmL, (cmF v).length ≤ 40 := by decide +kernel
theorem piF_len : ∀ v ∈ piL, (piF v).length ≤ 40 := by decide +kernel
theorem txF_len : ∀ v ∈ txL, (etF v).length ≤ 40 := by decide +kernel
theorem clF_len {nm : Str} (h : nm ∈ nmL) : (clF nm).length ≤ 6 := by
  have h1 := nmL_len _ h
  unfold clF
  rw [len_app, len_app, show (Str.ofString "</").length = 2 by decide +kernel, show (Str.ofString ">").length = 1 by decide +kernel]
  omega
theorem opOut_len {n : Nd} {k : Fo} {inner : List Str} (h : n.Ok) : (catS (opOut n k inner)).length ≤ 100 + (catS inner).length := by
  cases n with
  | tx v => show (catS [etF v]).length ≤ _; rw [catS_one]; have := txF_len v h; omega
  | cm v => show (catS [cmF v]).length ≤ _; rw [catS_one]; have := cmF_len v h; omega
  | pi v => show (catS [piF v]).length ≤ _; rw [catS_one]; have := piF_len v h; omega
  | el name ats =>
    cases k with
    | nil => show (catS [stF name ats true]).length ≤ _; rw [catS_one]; have := stF_len (b := true) h; omega
    | cons a b c =>
      show (catS (stF name ats false :: (inner ++ [clF name]))).length ≤ _
      have h1 := stF_len (b := false) h
      have h2 := clF_len h.1
      rw [catS_cons, catS_append, catS_one, len_app, len_app]; omega
theorem pcs_len {f : Fo} (h : f.Ok) : (catS f.pcs).length ≤ 100 * f.size := by
  induction f with
  | nil => exact Nat.le_of_ble_eq_true (by decide +kernel)
  | cons n k r ihk ihr =>
    have h1 := ihk h.2.2.1
    have h2 := ihr h.2.2.2
    have h3 := opOut_len (k := k) (inner := k.pcs) h.1
    show (catS (opOut n k k.pcs ++ r.pcs)).length ≤ 100 * (1 + k.size + r.size)
    rw [catS_append, len_app]; omega
theorem txL_len6 : ∀ v ∈ txL, v.length ≤ 6 := by decide +kernel
theorem ndplain_len {n : Nd} (h : n.Ok) : (catS n.plain).length ≤ 6 := by
  cases n with
  | tx v => show (catS [v]).length ≤ 6; rw [catS_one]; exact txL_len6 v h
  | cm v => show (catS []).length ≤ 6; exact Nat.le_of_ble_eq_true (by decide +kernel)
  | pi v => show (catS []).length ≤ 6; exact Nat.le_of_ble_eq_true (by decide +kernel)
  | el _ _ => show (catS []).length ≤ 6; exact Nat.le_of_ble_eq_true (by decide +kernel)
theorem plainP_cons (n : Nd) (k r : Fo) : (Fo.cons n k r).plainP = n.plain ++ (k.plainP ++ r.plainP) := by
  simp [Fo.plainP, Fo.nodes]
theorem plain_len {f : Fo} (h : f.Ok) : (catS f.plainP).length ≤ 6 * f.size := by
  induction f with
  | nil => exact Nat.le_of_ble_eq_true (by decide +kernel)
  | cons n k r ihk ihr =>
    have h1 := ihk h.2.2.1
    have h2 := ihr h.2.2.2
    have h3 := ndplain_len h.1
    rw [plainP_cons, catS_append, catS_append, len_app, len_app]
    simp only [Fo.size]; omega

section
variable {prog : Program} {w : World} {A : Around} {E : Value → Shared → Prop} {s : Shared} {env : Env} {h₀ : Heap} {x : Str} {body : List Stmt} {Q : Flow → Shared → Prop}
theorem StrRest_3 {I : Addr} (x1 x2 x3 : Str) (v2 v3 : Value) (J : List Str → Value → List (Addr × Obj) → Prop)
    (turn : ∀ c r (u : Str → Option Value) (t : Tok) v1 nx (it : Obj) h tk, J (c :: r) v1 nx → Fr h₀ env.locals h (fun y => if y = x then some (.str c t) else if y = x1 then some v1 else if y = x2 then some v2 else if y = x3 then some v3 else u y) → News h₀ env.locals h ((I, it) :: nx) →
      wpAny (model prog w) A (execs body env) (UnrPost h₀ env.locals { s with heap := h, toks := tk } I it (fun m' n' => Held (Rest3 x1 x2 x3 v2 v3 (J r) m' n')) Q) E { s with heap := h, toks := tk })
    (done : ∀ (u : Str → Option Value) v1 nx h tk, J [] v1 nx → Fr h₀ env.locals h (fun y => if y = x1 then some v1 else if y = x2 then some v2 else if y = x3 then some v3 else u y) → News h₀ env.locals h nx → Q .next { s with heap := h, toks := tk }) :
    ∀ (l : List Str) (m : Str → Option Value) (v1 : Value) (nx : List (Addr × Obj)), m x1 = some v1 → m x2 = some v2 → m x3 = some v3 → J l v1 nx → StrRest prog w A E h₀ env x body Q s I l m nx := by
  intro l
  induction l with
  | nil =>
    intro m v1 nx q1 q2 q3 hJ h tk F N
    exact done m v1 nx h tk hJ (by rw [map3 q1 q2 q3]; exact F) N
  | cons c r ih =>
    intro m v1 nx q1 q2 q3 hJ u it h tk F N
    refine wpAny_mono (turn c r m u v1 nx it h tk hJ (by have e := map3 q1 q2 q3; rw [show (fun y => if y = x then some (.str c u) else if y = x1 then some v1 else if y = x2 then some v2 else if y = x3 then some v3 else m y) = fun y => if y = x then some (.str c u) else m y from funext fun y => congrArg (fun z => if y = x then some (.str c u) else z) (congrFun e y)]; exact F) N) (fun f s₂ p => ?_) fun _ _ e => e
    have up : UnrEnd h₀ env.locals { s with heap := h, toks := tk } I it (fun m' n' => Held (Rest3 x1 x2 x3 v2 v3 (J r) m' n')) s₂ → UnrEnd h₀ env.locals { s with heap := h, toks := tk } I it (StrRest prog w A E h₀ env x body Q s I r) s₂ := by
      intro zr0
      (try k_extra "gf")
      obtain ⟨h', tk', m', n', e, F', N', off, v1', q1', q2', q3', hJ'⟩ := zr0
      (try k_extra "gu")
      exact ⟨h', tk', m', n', e, F', N', off, ih m' v1' n' q1' q2' q3' hJ'⟩
    cases f with
    | ret v => exact p
    | brk => exact p
    | next => exact up p
    | cont => exact up p
end
theorem reg_LE_1 : True := by
  k_with "exec For Name Name cons nil" => ((k_here; (with_reducible show wpAny _ _ (exec (Stmt.For _ _ _ [] _) _) _ _ _); (rename Fr _ _ _ _ => lF'); (with_unfolding_all refine' For_invVF lF' ?zqk1 ?zqk2 ?_; (case zqk1 => exact rfl); (case zqk2 => exact rfl); k_whole)))
  trivial
theorem reg_LE_2 : True := by
  k_with "pyIter str" => ((k_here; refine Held.out ?_))
  trivial
def tSigns : List Str := [Str.ofString "a", Str.ofString "<", Str.ofString "b", Str.ofString "x", Str.ofString "&", Str.ofString ">", Str.ofString "]", Str.ofString "\r", Str.ofString "\"", Str.ofString " "]
theorem txL_sgn : ∀ v ∈ txL, ∀ c ∈ sgn v, c ∈ tSigns := by decide +kernel
/-- the law's escaping: what is done, and what is left -/
inductive EscJ (g : Str → Str) (sg : List Str) (due : Str) (nx0 : List (Addr × Obj)) (l : List Str) (v : Value) (nx : List (Addr × Obj)) : Prop
  | mk (h0 : nx = nx0) (acc : Str) (tk : Tok) (h1 : v = .str acc tk) (h2 : acc ++ catS (l.map g) = due) (h3 : (∀ c ∈ l, c ∈ sg)) (h4 : acc.length + 6 * l.length ≤ 1000)
theorem EscJ.step {g : Str → Str} {sg : List Str} {due c acc y : Str} {nx0 : List (Addr × Obj)} {l : List Str} {tk : Tok} (h : acc ++ catS ((c :: l).map g) = due) (hs : ∀ c' ∈ c :: l, c' ∈ sg) (hl : acc.length + 6 * (c :: l).length ≤ 1000) (hy : g c = y) (h6 : y.length ≤ 6) :
    EscJ g sg due nx0 l (.str (acc ++ y) tk) nx0 :=
  ⟨rfl, _, _, rfl, by subst hy; rw [← h, List.map_cons, str_assoc]; congr 1; refine str_eq ?_; rw [app_cps, catS_cps, catS_cps, List.flatMap_cons], fun c' hc => hs c' (List.mem_cons_of_mem _ hc), by rw [len_app]; simp only [List.length_cons] at hl; omega⟩
theorem lit6 : (Str.ofString "").length = 0 := by decide +kernel
theorem reg_LE_3 : True := by
  k_with "UnrEnd" => ((k_dflt (refine UnrEnd.same (by assumption) (by assumption) (by assumption) ?_)))
  trivial
theorem reg_LE_4 : True := by
  k_with "callWith" => (((with_reducible show wpAny _ _ (callWith _ (Value.builtin _) [_] (backTo _ (starEach (_ :: _) _)) []) _ _ _); k_here; refine' callWith_method1 ?_ ?zqhe ?zqhp; (case zqhe => exact rfl); (case zqhp => exact rfl)))
  trivial
abbrev vTab : List (PyData × PyData) := [(.str (Str.ofString "&"), .str (Str.ofString "&amp;")), (.str (Str.ofString "<"), .str (Str.ofString "&lt;")), (.str (Str.ofString "\r"), .str (Str.ofString "&#13;")), (.str (Str.ofString "\""), .str (Str.ofString "&quot;")), (.str (Str.ofString "\t"), .str (Str.ofString "&#9;")), (.str (Str.ofString "\n"), .str (Str.ofString "&#10;"))]
theorem reg_LE_5 : True := by
  k_with "call builtin:dict.update" => ((k_here; (with_reducible show wpAny _ _ (call (Value.builtin "dict.update") [Value.ref _, Value.ref _]) _ _ _); k_dflt (refine' kt_update_K (knd := PySem.strKind _ _) PyProof.V.same_str ?zqF ?zqN ?zqU ?zqd ?zqf ?zqt ?zqn ?_ ?zqz; (case zqF => k_asm); (case zqN => k_asm); (case zqU => k_updF); (case zqd => k_asm); (case zqf => k_asm); (case zqt => k_tabat); (case zqn => k_ne); (case zqz => exact kt_line2 (by dict_lenle) (by dict_lenle) (by dict_fit))); intro h' o' kvs' F' N' hd' hf'; (rw [show ktMergeD _ _ = vTab from by kernel_rfl!] at hf'); (try dsimp only at N')))
  trivial
theorem law_escaped_t (w : World) (x : Str) (t : Tok) (hx : x ∈ txL) : Spec w 416 [.str x t, .bool false] 20 40 [] (fun v n' => n' = [] ∧ ∃ t', v = .str (etF x) t') := by
  have hl6 := txL_len6 x hx
  unfold Spec
  k_fill
  intro mean mg mb dp un gd cn cs a ccd cl outer A₀ base h₀ L m s Q E B F X N T hk hd hu hret
  refine wpAny_call ?_
  k_dflt ktr_enter
  k_steps
  unfold Held
  refine iter_strUnr (l := sgn x) (by rfl) (by assumption) (by assumption) rfl ?_
  intro I' l1
  have l2 := l1
  k_lt l2
  refine' StrRest_3 (Str.ofString "found") (Str.ofString "table") (Str.ofString "is_value") _ _ (EscJ teF tSigns (etF x) _) ?_ ?_ (sgn x) _ _ _ rfl rfl rfl ⟨rfl, _, _, rfl, ?_, txL_sgn x hx, ?_⟩
  · intro c r u tc v1 nx it h1 tk1 zr9 F3 N3
    (try k_extra "gf")
    obtain ⟨rfl, acc, tka, rfl, hdue, hsg, hle⟩ := zr9
    (try k_extra "gu")
    have hc := hsg c List.mem_cons_self
    have hl5 : acc.length ≤ 1000 := by omega
    simp only [tSigns, List.mem_cons, List.not_mem_nil, or_false] at hc
    rcases hc with rfl | rfl | rfl | rfl | rfl | rfl | rfl | rfl | rfl | rfl
    all_goals k_steps
    all_goals refine ⟨_, rfl, rfl, rfl, EscJ.step hdue hsg hle (by decide +kernel) (Nat.le_of_ble_eq_true (by decide +kernel))⟩
  · intro u v1 nx h tk zr5 F3 N3
    (try k_extra "gf")
    obtain ⟨rfl, acc, tka, rfl, hdue, hsg, hle⟩ := zr5
    (try k_extra "gu")
    have hl5 : acc.length ≤ 1000 := by omega
    k_steps
    all_goals refine hret _ _ _ _ (by k_asm) (News.less (by k_asm) fun p hp => by k_mem) (done_end (by assumption) (by assumption) (News.less (by assumption) fun p hp => by k_mem)) ⟨rfl, str_ex ?_⟩
    all_goals (rw [← hdue]; exact str_eq (by rw [app_cps, catS_cps]; simp))
  · exact str_eq (by rw [app_cps, empty_cps]; rfl)
  · rw [lit6, sgn_length]; omega
theorem law_escaped_a (w : World) (x : Str) (t : Tok) (hx : x ∈ atL) : Spec w 416 [.str x t, .bool true] 20 40 [] (fun v n' => n' = [] ∧ ∃ t', v = .str (evF x) t') := by
  have hl6 := atL_len3 x hx
  unfold Spec
  k_fill
  intro mean mg mb dp un gd cn cs a ccd cl outer A₀ base h₀ L m s Q E B F X N T hk hd hu hret
  refine wpAny_call ?_
  k_dflt ktr_enter
  k_steps
  unfold Held
  refine iter_strUnr (l := sgn x) (by rfl) (by assumption) (by assumption) rfl ?_
  intro I' l1
  have l2 := l1
  k_lt l2
  refine' StrRest_3 (Str.ofString "found") (Str.ofString "table") (Str.ofString "is_value") _ _ (EscJ veF vSigns (evF x) _) ?_ ?_ (sgn x) _ _ _ rfl rfl rfl ⟨rfl, _, _, rfl, ?_, atL_sgn x hx, ?_⟩
  · intro c r u tc v1 nx it h1 tk1 zr9 F3 N3
    (try k_extra "gf")
    obtain ⟨rfl, acc, tka, rfl, hdue, hsg, hle⟩ := zr9
    (try k_extra "gu")
    have hc := hsg c List.mem_cons_self
    have hl5 : acc.length ≤ 1000 := by omega
    simp only [vSigns, List.mem_cons, List.not_mem_nil, or_false] at hc
    rcases hc with rfl | rfl | rfl | rfl | rfl | rfl | rfl | rfl | rfl | rfl
    all_goals k_steps
    all_goals refine ⟨_, rfl, rfl, rfl, EscJ.step hdue hsg hle (by decide +kernel) (Nat.le_of_ble_eq_true (by decide +kernel))⟩
  · intro u v1 nx h tk zr5 F3 N3
    (try k_extra "gf")
    obtain ⟨rfl, acc, tka, rfl, hdue, hsg, hle⟩ := zr5
    (try k_extra "gu")
    have hl5 : acc.length ≤ 1000 := by omega
    k_steps
    all_goals refine hret _ _ _ _ (by k_asm) (News.less (by k_asm) fun p hp => by k_mem) (done_end (by assumption) (by assumption) (News.less (by assumption) fun p hp => by k_mem)) ⟨rfl, str_ex ?_⟩
    all_goals (rw [← hdue]; exact str_eq (by rw [app_cps, catS_cps]; simp))
  · exact str_eq (by rw [app_cps, empty_cps]; rfl)
  · rw [lit6, sgn_length]; omega

/-- the law's row of a node: its kind, its name, its value -/
def RowIs : Nd → Str → Str → Str → Prop
  | .el nm _, k, n, v => k = Str.ofString "element" ∧ n = nm ∧ v = Str.ofString ""
  | .tx x, k, n, v => k = Str.ofString "text" ∧ n = Str.ofString "" ∧ v = x
  | .cm x, k, n, v => k = Str.ofString "comment" ∧ n = Str.ofString "" ∧ v = x
  | .pi x, k, n, v => k = Str.ofString "instruction" ∧ n = Str.ofString "go" ∧ v = x
inductive PairC (G : List (Addr × Obj)) (n x : Str) (rec : List Value → Prop) (vs : List Value) : Prop
  | mk (T : Addr) (t1 t2 : Tok) (vs' : List Value) (h1 : vs = .ref T :: vs') (h2 : (T, tupO [.str n t1, .str x t2]) ∈ G) (h3 : rec vs')
def PairsL (G : List (Addr × Obj)) : List Value → List (Str × Str) → Prop
  | vs, [] => vs = []
  | vs, (n, x) :: l => PairC G n x (fun v => PairsL G v l) vs
def Nd.ats : Nd → List (Str × Str)
  | .el _ a => a
  | _ => []
inductive RowL (G : List (Addr × Obj)) (v : Value) (n : Nd) (ia : Addr) : Prop
  | mk (l : Addr) (nv : Value) (k nm x : Str) (t1 t2 t3 : Tok) (pa : Addr) (ps : List Value) (pc : Nat) (h1 : v = .ref l) (h2 : (l, listOf (List.toArray [nv, .str k t1, .str nm t2, .str x t3, .ref pa, .ref ia]) 0) ∈ G) (h3 : RowIs n k nm x) (h4 : (pa, listOf (List.toArray ps) pc) ∈ G) (h5 : PairsL G ps n.ats)
inductive RepLC (G : List (Addr × Obj)) (n : Nd) (r1 r2 : List Value → Prop) (vs : List Value) : Prop
  | mk (v : Value) (vs' : List Value) (ia : Addr) (ks : List Value) (kc : Nat) (h1 : vs = v :: vs') (h2 : RowL G v n ia) (h3 : (ia, listOf (List.toArray ks) kc) ∈ G) (h4 : r1 ks) (h5 : r2 vs')
def RepL (G : List (Addr × Obj)) : List Value → Fo → Prop
  | vs, .nil => vs = []
  | vs, .cons n k r => RepLC G n (fun v => RepL G v k) (fun v => RepL G v r) vs
inductive EntL (G : List (Addr × Obj)) (v : Value) (e : Nd × Fo) : Prop
  | mk (ia : Addr) (ks : List Value) (kc : Nat) (h1 : RowL G v e.1 ia) (h2 : (ia, listOf (List.toArray ks) kc) ∈ G) (h3 : RepL G ks e.2)
theorem RepL.ents {G : List (Addr × Obj)} {vs : List Value} {f : Fo} (h : RepL G vs f) : Paired (EntL G) vs f.ses := by
  induction f generalizing vs with
  | nil => rw [show vs = [] from h]; exact .nil
  | cons n k r _ ih =>
    (try k_extra "gf")
    obtain ⟨v, vs', ia, ks, kc, rfl, h1, h2, h3, h4⟩ := h
    (try k_extra "gu")
    exact .cons ⟨ia, ks, kc, h1, h2, h3⟩ (ih h4)
theorem RepL.len {G : List (Addr × Obj)} {vs : List Value} {f : Fo} (h : RepL G vs f) : vs.length ≤ f.size := by
  induction f generalizing vs with
  | nil => rw [show vs = [] from h]; exact Nat.le_refl _
  | cons n k r _ ih =>
    (try k_extra "gf")
    obtain ⟨v, vs', ia, ks, kc, rfl, h1, h2, h3, h4⟩ := h
    (try k_extra "gu")
    have := ih h4
    simp only [List.length_cons, Fo.size]; omega
theorem ses_size {f : Fo} : ∀ e ∈ f.ses, e.2.size < f.size := by
  induction f with
  | nil => intro e he; cases he
  | cons n k r _ ih =>
    intro e he
    rcases List.mem_cons.mp he with rfl | he
    · simp only [Fo.size]; omega
    · have := ih e he; simp only [Fo.size]; omega
theorem ses_ok {f : Fo} (h : f.Ok) : ∀ e ∈ f.ses, e.1.Ok ∧ (e.1.isEl = false → e.2 = .nil) ∧ e.2.Ok := by
  induction f with
  | nil => intro e he; cases he
  | cons n k r _ ih =>
    intro e he
    rcases List.mem_cons.mp he with rfl | he
    · exact ⟨h.1, h.2.1, h.2.2.1⟩
    · exact ih h.2.2.2 e he
def plainE (e : Nd × Fo) : List Str := e.1.plain ++ e.2.plainP
theorem plain_ses (f : Fo) : f.plainP = f.ses.flatMap plainE := by
  induction f with
  | nil => rfl
  | cons n k r _ ih =>
    simp only [Fo.plainP, Fo.nodes, Fo.ses, List.flatMap_cons, List.flatMap_append] at ih ⊢
    rw [ih]; simp [plainE, Fo.plainP]
/-- a row of the law's rows turned into texts: what is done and what is left -/
inductive RowsK (G : List (Addr × Obj)) (tgt : List (Nd × Fo)) (T : Nd × Fo → List Str) (rr ys : List Value) (nx : List (Addr × Obj)) : Prop
  | mk (h0 : nx = G) (done todo : List (Nd × Fo)) (h1 : Paired (EntL G) rr todo) (h2 : StrsAre ys (done.map fun e => catS (T e))) (h3 : done ++ todo = tgt)
theorem RowsK.step {G : List (Addr × Obj)} {tgt done todo : List (Nd × Fo)} {T : Nd × Fo → List Str} {rr ys : List Value} {e : Nd × Fo} {t : Tok} (h1 : Paired (EntL G) rr todo) (h2 : StrsAre ys (done.map fun e => catS (T e))) (h3 : done ++ e :: todo = tgt) :
    RowsK G tgt T rr (ys ++ [.str (catS (T e)) t]) G :=
  ⟨rfl, done ++ [e], todo, h1, by rw [List.map_append]; exact strsAre_snoc h2, by rw [← h3]; simp⟩
theorem catS_map {α : Type} (g : α → List Str) (l : List α) : catS (l.map fun e => catS (g e)) = catS (l.flatMap g) := by
  refine str_eq ?_
  induction l with
  | nil => rfl
  | cons a l ih =>
    simp only [catS_cps, List.map_cons, List.flatMap_cons, List.flatMap_append] at ih ⊢
    rw [ih]
theorem reg_LB_1 : True := by
  k_with "call ref" => (((with_reducible show wpAny _ _ (call (Value.ref 426) _) _ _ _); k_here; refine Held.out ?_))
  trivial
theorem nth0 {a : Value} {l : List Value} : (List.toArray (a :: l))[0]? = some a := rfl
theorem nth1 {a b : Value} {l : List Value} : (List.toArray (a :: b :: l))[1]? = some b := rfl
theorem nth2 {a b c : Value} {l : List Value} : (List.toArray (a :: b :: c :: l))[2]? = some c := rfl
theorem nth3 {a b c d : Value} {l : List Value} : (List.toArray (a :: b :: c :: d :: l))[3]? = some d := rfl
theorem nth4 {a b c d e : Value} {l : List Value} : (List.toArray (a :: b :: c :: d :: e :: l))[4]? = some e := rfl
theorem nth5 {a b c d e f : Value} {l : List Value} : (List.toArray (a :: b :: c :: d :: e :: f :: l))[5]? = some f := rfl
theorem reg_LB_2 : True := by
  k_with "subscriptTail Name Constant ref int" => ((k_here; k_dflt (refine' item_N ?zqN ?zqm ?zqx ?zqk ?zqz ?_; (case zqk => first | exact (rfl : (0 : Int) = ((0 : Nat) : Int)) | exact (rfl : (1 : Int) = ((1 : Nat) : Int)) | exact (rfl : (2 : Int) = ((2 : Nat) : Int)) | exact (rfl : (3 : Int) = ((3 : Nat) : Int)) | exact (rfl : (4 : Int) = ((4 : Nat) : Int)) | exact (rfl : (5 : Int) = ((5 : Nat) : Int))); (case zqN => k_asm); (case zqm => k_mem); (case zqx => first | exact nth0 | exact nth1 | exact nth2 | exact nth3 | exact nth4 | exact nth5); (case zqz => exact Nat.le_of_ble_eq_true rfl); k_whole)))
  trivial
theorem law_plain_spec (w : World) (N : Nat) : ∀ (n : Nd) (k : Fo) (G : List (Addr × Obj)) (v : Value), k.size < N → EntL G v (n, k) → n.Ok → (n.isEl = false → k = .nil) → k.Ok → N ≤ 30 →
    Spec w 426 [v] (20 * N) (60 * N) G (fun r n' => n' = G ∧ ∃ t, r = .str (catS (plainE (n, k))) t) := by
  induction N with
  | zero => intro n k G v h; exact absurd h (Nat.not_lt_zero _)
  | succ N ih =>
  intro n k G v hk9 zr5 hok hleaf hkok hN
  (try k_extra "gf")
  obtain ⟨ia, ks, kc, ⟨l, nv, kd, nm, x, t1, t2, t3, pa, ps, pc, rfl, hl, hri, hpa, hps⟩, hia, hks⟩ := zr5
  (try k_extra "gu")
  have hkz : ks.length ≤ 1000 := by have : ks.length ≤ k.size := hks.len; omega
  cases hte : (kd == Str.ofString "text") with
  | true =>
    unfold Spec
    k_fill
    intro mean mg mb dp un gd cn cs a ccd cl outer A₀ base h₀ L m s Q E B F X N T hk hd hu hret
    refine wpAny_call ?_
    k_dflt ktr_enter
    k_steps
    cases n with
    | tx x0 =>
      (try k_extra "gf")
      obtain ⟨rfl, rfl, rfl⟩ := hri
      (try k_extra "gu")
      have hk0 : k = .nil := hleaf rfl
      subst hk0
      all_goals exact hret _ _ _ _ (by k_asm) (News.less (by k_asm) fun p hp => by k_mem) (done_end (by assumption) (by assumption) (News.less (by assumption) fun p hp => by k_mem)) ⟨rfl, str_ex (catS_one _).symm⟩
    | cm x0 => obtain ⟨rfl, _, _⟩ := hri; exact absurd hte (by decide +kernel)
    | pi x0 => obtain ⟨rfl, _, _⟩ := hri; exact absurd hte (by decide +kernel)
    | el x0 x1 => obtain ⟨rfl, _, _⟩ := hri; exact absurd hte (by decide +kernel)
  | false =>
    have hnp : n.plain = [] := by
      cases n with
      | tx x0 => obtain ⟨rfl, _, _⟩ := hri; exact absurd hte (by decide +kernel)
      | cm x0 => rfl
      | pi x0 => rfl
      | el x0 x1 => rfl
    have hpl := plain_len hkok
    unfold Spec
    k_fill
    intro mean mg mb dp un gd cn cs a ccd cl outer A₀ base h₀ L m s Q E B F X N T hk hd hu hret
    refine wpAny_call ?_
    k_dflt ktr_enter
    k_steps
    unfold Held
    refine comp_newE (by assumption) rfl rfl (by decide) rfl (by decide) rfl ?_
    k_steps
    unfold Held
    rename News _ _ _ _ => N9
    refine ⟨_, _, kc, _, RowsK G k.ses plainE, rfl, ?_, by assumption, N9, ⟨rfl, [], k.ses, hks.ents, .nil, rfl⟩, ⟨?_, ?_⟩, ?_⟩
    · omega
    · intro rr ys nx zr3
      (try k_extra "gf")
      obtain ⟨rfl, _⟩ := zr3
      (try k_extra "gu")
      exact hia
    · intro v rr ys nx I oI C oC D m₂ g h tk E' zr14 hC hx F2 N2 off ne
      (try k_extra "gf")
      obtain ⟨rfl, done, todo, hp1, hp2, he⟩ := zr14
      (try k_extra "gu")
      cases hp1 with
      | @cons _ e _ l9 h1 hp1 =>
        have hek : e.2.size < k.size := ses_size e (by rw [← he]; simp)
        have heo := ses_ok hkok e (by rw [← he]; simp)
        k_steps
        unfold Held
        refine' use_read (ih e.1 e.2 nx v (by omega) h1 heo.1 heo.2.1 heo.2.2 (by omega)) (by intro _ _ h; exact h.1) ?B ?F ?X ?N ?T ?k ?s ?d ?u ?_
        (case B => k_asm); (case F => k_asm); (case X => k_asm); (case N => k_asm); (case T => k_asm); (case k => first | exact rfl | assumption); (case s => exact fun p hp => by k_mem); (case d => ktr_room); (case u => ktr_units)
        intro r9 h9 tk9 F9 N9 K9 p9
        (try k_extra "gf")
        obtain ⟨_, t9, e9⟩ := p9
        (try k_extra "gu")
        subst e9
        k_steps
        unfold Held
        exact ⟨_, _, _, rfl, F9, N9, off, RowsK.step hp1 hp2 he⟩
    · intro ys nx D h tk zr5 F2 N2 off
      (try k_extra "gf")
      obtain ⟨rfl, done, todo, hp1, hp2, he⟩ := zr5
      (try k_extra "gu")
      cases hp1
      rw [List.append_nil] at he
      have hDm : (D, listOf (List.toArray ys) ys.length) ∈ (D, LCg.lst ys) :: nx := List.mem_cons_self
      have hcat : catS (done.map fun e => catS (plainE e)) = catS (plainE (n, k)) := by
        rw [catS_map, he, ← plain_ses]; simp [plainE, hnp]
      k_steps
      refine join_N (ys := done.map fun e => catS (plainE e)) N2 hDm hp2 (by rw [hcat]; simp only [plainE, hnp, List.nil_append]; omega) fun t9 k9 => ?_
      k_steps
      all_goals exact hret _ _ _ _ (by k_asm) (News.less (by k_asm) fun p hp => by k_mem) (done_end (by assumption) (by assumption) (News.less (by assumption) fun p hp => by k_mem)) ⟨rfl, str_ex hcat⟩

local macro_rules | `(tactic| k_steps) => `(tactic| repeat' (first | (k_unfold; (try dsimp only)) | (k_end; wrow_close) | ((first | (with_reducible show wpAny _ _ (exec _ _) _ _ _) | (with_reducible show wpAny _ _ (execs _ _) _ _ _)); (fail_if_success (fail_if_success k_fold)); refine fold_q ?_; intro qk9) | walk1 | (dsimp only; walk1) | (leave1; walk_say "STEP leave1"; try dsimp only) | fail "no step"))
theorem reg_LC_1 : True := by
  k_with "call ref" => (((with_reducible show wpAny _ _ (call (Value.ref 416) _) _ _ _); k_here; k_dflt ((first | with_reducible refine' use_str (law_escaped_t _ _ _ ?zqhx) ?zqB ?zqF ?zqX ?zqN ?zqT ?zqk ?zqs ?zqd ?zqu ?_ | refine' use_str (law_escaped_t _ _ _ ?zqhx) ?zqB ?zqF ?zqX ?zqN ?zqT ?zqk ?zqs ?zqd ?zqu ?_); (case zqB => k_asm); (case zqF => k_asm); (case zqX => k_asm); (case zqN => k_asm); (case zqT => k_asm); (case zqhx => assumption); (case zqs => first | exact fun _ h => h | (intro pm9 hpm9; (repeat (first | exact hpm9 | refine List.mem_cons_of_mem _ ?_)); done) | first | exact List.forall_mem_nil _ | lcg_sub); (case zqk => first | exact rfl | assumption); (case zqd => ktr_room); (case zqu => ktr_units); k_whole); intro tm9 hm9 tkm9 Fm9 Nm9; (try k_sweep); (try dsimp only)))
  trivial
theorem reg_LC_2 : True := by
  k_with "call ref" => (((with_reducible show wpAny _ _ (call (Value.ref 416) _) _ _ _); k_here; k_dflt ((first | with_reducible refine' use_str (law_escaped_a _ _ _ ?zqhx) ?zqB ?zqF ?zqX ?zqN ?zqT ?zqk ?zqs ?zqd ?zqu ?_ | refine' use_str (law_escaped_a _ _ _ ?zqhx) ?zqB ?zqF ?zqX ?zqN ?zqT ?zqk ?zqs ?zqd ?zqu ?_); (case zqB => k_asm); (case zqF => k_asm); (case zqX => k_asm); (case zqN => k_asm); (case zqT => k_asm); (case zqhx => assumption); (case zqs => first | exact fun _ h => h | (intro pm9 hpm9; (repeat (first | exact hpm9 | refine List.mem_cons_of_mem _ ?_)); done) | first | exact List.forall_mem_nil _ | lcg_sub); (case zqk => first | exact rfl | assumption); (case zqd => ktr_room); (case zqu => ktr_units); k_whole); intro tm9 hm9 tkm9 Fm9 Nm9; (try k_sweep); (try dsimp only)))
  trivial
theorem reg_LC_3 : True := by
  k_with "eval ListComp" => ((k_here; lcp_look; lcg_calm; k_dflt (refine LCp.ListComp_P (F₀ := by k_asm) (by with_unfolding_all rfl) (by decide) (by rfl) (by decide) (by rfl) (by rfl) (by decide) ?_); k_dflt lcp_toSrc))
  trivial
theorem reg_LC_4 : True := by
  k_with "call ref" => (((with_reducible show wpAny _ _ (call (Value.ref 421) _) _ _ _); k_here; refine Held.out ?_))
  trivial
theorem reg_LC_5 : True := by
  k_with "CompEnd" => ((k_here; k_dflt (refine ⟨_, _, _, rfl, by k_asm, by k_asm, by assumption, .inr ⟨_, by k_mem, rfl, _, rfl⟩, ?_⟩)))
  trivial
abbrev apF (a x : Str) : Str := Str.ofString " " ++ a ++ Str.ofString "=\"" ++ evF x ++ Str.ofString "\""
theorem apF_len {a x : Str} (h : a ∈ nmL ∧ x ∈ atL) : (apF a x).length ≤ 30 := by
  have h2 := nmL_len _ h.1
  have h3 := atL_len3 _ h.2
  have h4 := evF_len x
  simp only [apF, len_app, show (Str.ofString " ").length = 1 by decide +kernel, show (Str.ofString "=\"").length = 2 by decide +kernel, show (Str.ofString "\"").length = 1 by decide +kernel]
  omega
theorem attF_cat : ∀ (l : List (Str × Str)) (acc : Str), attF acc l = acc ++ catS (l.map fun p => apF p.1 p.2) := by
  intro l
  induction l with
  | nil => intro acc; exact str_eq (by rw [app_cps, catS_cps]; simp [attF])
  | cons p l ih =>
    intro acc
    (try k_extra "gf")
    obtain ⟨a, x⟩ := p
    (try k_extra "gu")
    show attF (acc ++ Str.ofString " " ++ a ++ Str.ofString "=\"" ++ evF x ++ Str.ofString "\"") l = _
    rw [ih]
    refine str_eq ?_
    simp only [app_cps, catS_cps, List.map_cons, List.flatMap_cons, List.append_assoc]
theorem wr_nil (x0 : Str) (ats : List (Str × Str)) : Str.ofString "<" ++ x0 ++ catS (ats.map fun p => apF p.1 p.2) ++ Str.ofString "/>" = catS (opOut (.el x0 ats) .nil []) := by
  show _ = catS [stF x0 ats true]
  rw [catS_one, stF, attF_cat]
  rfl
theorem wr_cons (x0 : Str) (ats : List (Str × Str)) (n1 : Nd) (k1 r1 : Fo) (inner : List Str) : Str.ofString "<" ++ x0 ++ catS (ats.map fun p => apF p.1 p.2) ++ Str.ofString ">" ++ catS inner ++ Str.ofString "</" ++ x0 ++ Str.ofString ">" = catS (opOut (.el x0 ats) (.cons n1 k1 r1) inner) := by
  show _ = catS (stF x0 ats false :: (inner ++ [clF x0]))
  rw [catS_cons, catS_append, catS_one, stF, attF_cat]
  refine str_eq ?_
  simp only [app_cps, clF, List.append_assoc]
  rfl
theorem reg_LC_6 : True := by
  k_with "call builtin:str.join" => ((k_dflt (refine' join_N ?zqN ?zqm ?zqS ?zqz ?_; (case zqN => k_asm); (case zqm => k_mem); (case zqS => first | exact .nil | exact .cons _ _ .nil | exact .cons _ _ (.cons _ _ .nil)); (case zqz => first | assumption | omega); k_whole; intro tm9 km9)))
  trivial
def writtenE (e : Nd × Fo) : List Str := opOut e.1 e.2 e.2.pcs
theorem written_ses (f : Fo) : f.pcs = f.ses.flatMap writtenE := by
  induction f with
  | nil => rfl
  | cons n k r _ ih => show opOut n k k.pcs ++ r.pcs = _; rw [ih]; rfl
theorem PairsL.mono {G G' : List (Addr × Obj)} (s : ∀ p ∈ G, p ∈ G') : ∀ {l : List (Str × Str)} {vs : List Value}, PairsL G vs l → PairsL G' vs l := by
  intro l
  induction l with
  | nil => intro vs h; exact h
  | cons p l ih =>
    intro vs h
    (try k_extra "gf")
    obtain ⟨T, t1, t2, vs', e, hT, hr⟩ := h
    (try k_extra "gu")
    exact ⟨T, t1, t2, vs', e, s _ hT, ih hr⟩
theorem RowL.mono {G G' : List (Addr × Obj)} (s : ∀ p ∈ G, p ∈ G') {v : Value} {n : Nd} {ia : Addr} (h : RowL G v n ia) : RowL G' v n ia := by
  (try k_extra "gf")
  obtain ⟨l, nv, k, nm, x, t1, t2, t3, pa, ps, pc, e, h1, h2, h3, h4⟩ := h
  (try k_extra "gu")
  exact ⟨l, nv, k, nm, x, t1, t2, t3, pa, ps, pc, e, s _ h1, h2, s _ h3, h4.mono s⟩
theorem RepL.mono {G G' : List (Addr × Obj)} (s : ∀ p ∈ G, p ∈ G') : ∀ {f : Fo} {vs : List Value}, RepL G vs f → RepL G' vs f := by
  intro f
  induction f with
  | nil => intro vs h; exact h
  | cons n k r ihk ihr =>
    intro vs h
    (try k_extra "gf")
    obtain ⟨v, vs', ia, ks, kc, e, h1, h2, h3, h4⟩ := h
    (try k_extra "gu")
    exact ⟨v, vs', ia, ks, kc, e, h1.mono s, s _ h2, ihk h3, ihr h4⟩
theorem EntL.mono {G G' : List (Addr × Obj)} (s : ∀ p ∈ G, p ∈ G') {v : Value} {e : Nd × Fo} (h : EntL G v e) : EntL G' v e := by
  (try k_extra "gf")
  obtain ⟨ia, ks, kc, h1, h2, h3⟩ := h
  (try k_extra "gu")
  exact ⟨ia, ks, kc, h1.mono s, s _ h2, h3.mono s⟩
theorem cmL_len3 : ∀ v ∈ cmL, v.length ≤ 3 := by decide +kernel
inductive AhMid (g : Heap) (L : Addr) (m : Str → Option Value) (X : Str) (news : List (Addr × Obj)) (s s' : Shared) : Prop
  | mk (t : Tok) (h8 : Heap) (tk8 : Nat) (h1 : s' = { s with heap := h8, toks := tk8 }) (h2 : Fr g L h8 (fun y => if y = Str.ofString "ahead" then some (.str X t) else m y)) (h3 : News g L h8 news)
theorem ah_cut {prog : Program} {w : World} {A : Around} {E : Value → Shared → Prop} {s : Shared} {t : Sem Flow} {Q : Flow → Shared → Prop} {g h : Heap} {L : Addr} {m : Str → Option Value} {news : List (Addr × Obj)} (X : Str) (_F : Fr g L h m) (_N : News g L h news)
    (h1 : wpAny (model prog w) A t (fun fl s' => fl = Flow.next ∧ Held (AhMid g L m X news s s')) E s) (h2 : ∀ s', AhMid g L m X news s s' → Q .next s') : wpAny (model prog w) A t Q E s :=
  wpAny_mono h1 (fun _ s' p => by rw [p.1]; exact h2 s' p.2) fun _ _ e => e
theorem reg_LC_7 : True := by
  k_with "exec Assign" => (((with_reducible show wpAny _ _ (exec (Stmt.Assign [PySem.Expr.Name (Str.ofString "ahead") _] _ _) _) _ _ _); k_here; (have hlfm9 := (‹(Nd.isEl _ = false) → _ = Fo.nil›)); (clear hlfm9); refine Held.out ?_))
  trivial
theorem law_written_spec (w : World) (N : Nat) : ∀ (n : Nd) (k : Fo) (G : List (Addr × Obj)) (v : Value), k.size < N → EntL G v (n, k) → n.Ok → (n.isEl = false → k = .nil) → k.Ok → N ≤ 30 →
    Spec w 421 [v] (20 * N + 30) (60 * N + 90) G (fun r n' => n' = G ∧ ∃ t, r = .str (catS (writtenE (n, k))) t) := by
  induction N with
  | zero => intro n k G v h; exact absurd h (Nat.not_lt_zero _)
  | succ N ih =>
  intro n k G v hk9 zr5 hok hleaf hkok hN
  (try k_extra "gf")
  obtain ⟨ia, ks, kc, ⟨l, nv, kd, nm, x, t1, t2, t3, pa, ps, pc, rfl, hl, hri, hpa, hps⟩, hia, hks⟩ := zr5
  (try k_extra "gu")
  have hkz : ks.length ≤ 1000 := by have : ks.length ≤ k.size := hks.len; omega
  cases n with
  | tx x0 =>
    (try k_extra "gf")
    obtain ⟨rfl, rfl, rfl⟩ := hri
    (try k_extra "gu")
    have hx : x ∈ txL := hok
    unfold Spec
    k_fill
    intro mean mg mb dp un gd cn cs a ccd cl outer A₀ base h₀ L m s Q E B F X N T hk hd hu hret
    refine wpAny_call ?_
    k_dflt ktr_enter
    k_steps
    all_goals exact hret _ _ _ _ (by k_asm) (News.less (by k_asm) fun p hp => by k_mem) (done_end (by assumption) (by assumption) (News.less (by assumption) fun p hp => by k_mem)) ⟨rfl, str_ex (catS_one _).symm⟩
  | cm x0 =>
    (try k_extra "gf")
    obtain ⟨rfl, rfl, rfl⟩ := hri
    (try k_extra "gu")
    have hxl : x.length ≤ 3 := cmL_len3 x hok
    unfold Spec
    k_fill
    intro mean mg mb dp un gd cn cs a ccd cl outer A₀ base h₀ L m s Q E B F X N T hk hd hu hret
    refine wpAny_call ?_
    k_dflt ktr_enter
    k_steps
    all_goals exact hret _ _ _ _ (by k_asm) (News.less (by k_asm) fun p hp => by k_mem) (done_end (by assumption) (by assumption) (News.less (by assumption) fun p hp => by k_mem)) ⟨rfl, str_ex (catS_one _).symm⟩
  | pi x0 =>
    (try k_extra "gf")
    obtain ⟨rfl, rfl, rfl⟩ := hri
    (try k_extra "gu")
    have hx : x ∈ piL := hok
    simp only [piL, List.mem_cons, List.not_mem_nil, or_false] at hx
    rcases hx with rfl | rfl | rfl
    all_goals
      unfold Spec
      k_fill
      intro mean mg mb dp un gd cn cs a ccd cl outer A₀ base h₀ L m s Q E B F X N T hk hd hu hret
      refine wpAny_call ?_
      k_dflt ktr_enter
      k_steps
      all_goals exact hret _ _ _ _ (by k_asm) (News.less (by k_asm) fun p hp => by k_mem) (done_end (by assumption) (by assumption) (News.less (by assumption) fun p hp => by k_mem)) ⟨rfl, str_ex (by show _ = catS [piF _]; rw [catS_one]; decide +kernel)⟩
  | el x0 ats =>
    (try k_extra "gf")
    obtain ⟨rfl, rfl, rfl⟩ := hri
    (try k_extra "gu")
    have hnl := nmL_len _ hok.1
    have hat := hok.2.2
    have h2 := hok.2.1
    have hz0 : (catS (ats.map fun p => apF p.1 p.2)).length ≤ 100 := by
      cases ats with
      | nil => exact Nat.le_of_ble_eq_true (by decide +kernel)
      | cons p ats =>
        have hq1 := apF_len (hat p (List.mem_cons_self))
        cases ats with
        | nil => rw [List.map_cons, List.map_nil, catS_one]; exact Nat.le_trans hq1 (by decide)
        | cons q ats =>
          have hq2 := apF_len (hat q (List.mem_cons_of_mem _ List.mem_cons_self))
          cases ats with
          | nil => rw [List.map_cons, List.map_cons, List.map_nil, catS_cons, catS_one, len_app]; exact Nat.le_trans (Nat.add_le_add hq1 hq2) (by decide)
          | cons a b => simp only [List.length_cons] at h2; omega
    unfold Spec
    k_fill
    intro mean mg mb dp un gd cn cs a ccd cl outer A₀ base h₀ L m s Q E B F X N T hk hd hu hret
    refine wpAny_call ?_
    k_dflt ktr_enter
    k_steps
    unfold Held
    rename Fr _ _ _ _ => F8
    rename News _ _ _ _ => N8
    refine ah_cut (Str.ofString "<" ++ nm ++ catS (ats.map fun p => apF p.1 p.2)) F8 N8 ?_ ?_
    · clear hret hok hleaf hks
      cases ats with
      | nil =>
        (have hps0 : ps = [] := hps); subst hps0
        have hz1 : (catS []).length ≤ 100 := hz0
        k_steps
        all_goals first | exact trivial | exact ⟨_, _, _, rfl, by assumption, News.less (by assumption) fun p hp => by k_mem⟩
      | cons p ats =>
        (try k_extra "gf")
        obtain ⟨w1, y1⟩ := p
        (try k_extra "gu")
        (try k_extra "gf")
        obtain ⟨T1, ta, tb, ps1, rfl, hT1, hps⟩ := hps
        (try k_extra "gu")
        have hp1 := hat (w1, y1) List.mem_cons_self
        have hw1 := nmL_len _ hp1.1
        have hy1 : y1 ∈ atL := hp1.2
        have hy1l := evF_len y1
        have hy1m := atL_len3 _ hy1
        have hv1 : (evF y1).length ≤ 18 := by omega
        have hq1 := apF_len hp1
        cases ats with
        | nil =>
          (have hps0 : ps1 = [] := hps); subst hps0
          have hz1 : (catS [Str.ofString " " ++ w1 ++ Str.ofString "=\"" ++ evF y1 ++ Str.ofString "\""]).length ≤ 100 := hz0
          k_steps
          all_goals first | exact trivial | exact ⟨_, _, _, rfl, by assumption, News.less (by assumption) fun p hp => by k_mem⟩
        | cons p ats =>
          (try k_extra "gf")
          obtain ⟨w2, y2⟩ := p
          (try k_extra "gu")
          (try k_extra "gf")
          obtain ⟨T2, tc, td, ps2, rfl, hT2, hps⟩ := hps
          (try k_extra "gu")
          have hp2 := hat (w2, y2) (List.mem_cons_of_mem _ List.mem_cons_self)
          have hw2 := nmL_len _ hp2.1
          have hy2 : y2 ∈ atL := hp2.2
          have hy2l := evF_len y2
          have hy2m := atL_len3 _ hy2
          have hv2 : (evF y2).length ≤ 18 := by omega
          have hq2 := apF_len hp2
          have e0 : ats = [] := by cases ats with
            | nil => rfl
            | cons a b => simp only [List.length_cons] at h2; omega
          subst e0
          (have hps0 : ps2 = [] := hps); subst hps0
          have hz1 : (catS [Str.ofString " " ++ w1 ++ Str.ofString "=\"" ++ evF y1 ++ Str.ofString "\"", Str.ofString " " ++ w2 ++ Str.ofString "=\"" ++ evF y2 ++ Str.ofString "\""]).length ≤ 100 := hz0
          k_steps
          all_goals first | exact trivial | exact ⟨_, _, _, rfl, by assumption, News.less (by assumption) fun p hp => by k_mem⟩
    · clear F8 N8
      intro s' hmid
      (try k_extra "gf")
      obtain ⟨t8, h8, tk8, rfl, F8, N8⟩ := hmid
      (try k_extra "gu")
      cases k with
      | nil =>
        have hks0 : ks = [] := hks
        k_steps
        all_goals exact hret _ _ _ _ (by k_asm) (News.less (by k_asm) fun p hp => by k_mem) (done_end (by assumption) (by assumption) (News.less (by assumption) fun p hp => by k_mem)) ⟨rfl, str_ex (wr_nil nm ats)⟩
      | cons n1 k1 r1 =>
        have hks0 : ks ≠ [] := by obtain ⟨_, _, _, _, _, e, _⟩ := hks; rw [e]; exact List.cons_ne_nil _ _
        k_steps
        unfold Held
        refine comp_newE (by assumption) rfl rfl (by decide) rfl (by decide) rfl ?_
        k_steps
        unfold Held
        rename News _ _ _ _ => N9
        refine ⟨_, _, kc, _, RowsK _ (Fo.cons n1 k1 r1).ses writtenE, rfl, ?_, by assumption, N9, ⟨rfl, [], (Fo.cons n1 k1 r1).ses, Paired.mono (fun _ _ => EntL.mono fun p hp => by k_mem) hks.ents, .nil, rfl⟩, ⟨?_, ?_⟩, ?_⟩
        · omega
        · intro rr ys nx zr3
          (try k_extra "gf")
          obtain ⟨rfl, _⟩ := zr3
          (try k_extra "gu")
          k_mem
        · intro v rr ys nx I oI C oC D m₂ g h tk E' zr14 hC hx F2 N2 off ne
          (try k_extra "gf")
          obtain ⟨rfl, done, todo, hp1, hp2, he⟩ := zr14
          (try k_extra "gu")
          cases hp1 with
          | @cons _ e _ l9 h1 hp1 =>
            have hek : e.2.size < (Fo.cons n1 k1 r1).size := ses_size e (by rw [← he]; simp)
            have heo := ses_ok hkok e (by rw [← he]; simp)
            k_steps
            unfold Held
            refine' use_read (ih e.1 e.2 _ v (by omega) h1 heo.1 heo.2.1 heo.2.2 (by omega)) (by intro _ _ h; exact h.1) ?B ?F ?X ?N ?T ?k ?s ?d ?u ?_
            (case B => k_asm); (case F => k_asm); (case X => k_asm); (case N => k_asm); (case T => k_asm); (case k => first | exact rfl | assumption); (case s => exact fun p hp => by k_mem); (case d => ktr_room); (case u => ktr_units)
            intro r9 h9 tk9 F9 N9 K9 p9
            (try k_extra "gf")
            obtain ⟨_, t9, e9⟩ := p9
            (try k_extra "gu")
            subst e9
            k_steps
            unfold Held
            exact ⟨_, _, _, rfl, F9, N9, off, RowsK.step hp1 hp2 he⟩
        · intro ys nx D h tk zr5 F2 N2 off
          (try k_extra "gf")
          obtain ⟨rfl, done, todo, hp1, hp2, he⟩ := zr5
          (try k_extra "gu")
          cases hp1
          rw [List.append_nil] at he
          have hcat : catS (done.map fun e => catS (writtenE e)) = catS (Fo.cons n1 k1 r1).pcs := by
            rw [catS_map, he, ← written_ses]
          have hzc : (catS (done.map fun e => catS (writtenE e))).length ≤ 4000 := by rw [hcat]; exact Nat.le_trans (pcs_len hkok) (by omega)
          k_steps
          refine join_N (ys := done.map fun e => catS (writtenE e)) N2 List.mem_cons_self hp2 (Nat.le_trans hzc (by decide)) fun t9 k9 => ?_
          k_steps
          all_goals exact hret _ _ _ _ (by k_asm) (News.less (by k_asm) fun p hp => by k_mem) (done_end (by assumption) (by assumption) (News.less (by assumption) fun p hp => by k_mem)) ⟨rfl, str_ex (by rw [hcat]; exact wr_cons nm ats n1 k1 r1 _)⟩
local macro_rules | `(tactic| k_steps) => `(tactic| repeat' (first | (k_unfold; (try dsimp only)) | (k_end; wrow_close) | walk1 | (dsimp only; walk1) | (leave1; walk_say "STEP leave1"; try dsimp only) | fail "no step"))

/-- the tree's cells ahead of the rest of a ledger -/
structure TG (w : World) (tr td : Addr) (tk : Tok) (R : Addr) (rs : List NdR) (G T : List (Addr × Obj)) : Prop where
  eq : T = treeL w.params tr td tk R rs ++ G
  dis : Dis tr td R rs
  off : ∀ p ∈ G, p.1 ∉ treeAdr tr td R rs
theorem TG.sub {w : World} {tr td : Addr} {tk : Tok} {R : Addr} {rs : List NdR} {G T : List (Addr × Obj)} (h : TG w tr td tk R rs G T) : ∀ p ∈ G, p ∈ T := fun p hp => by rw [h.eq]; exact List.mem_append_right _ hp
theorem TG.tree {w : World} {tr td : Addr} {tk : Tok} {R : Addr} {rs : List NdR} {G T : List (Addr × Obj)} (h : TG w tr td tk R rs G T) : ∀ p ∈ treeL w.params tr td tk R rs, p ∈ T := fun p hp => by rw [h.eq]; exact List.mem_append_left _ hp
inductive Pre : List (Addr × Obj) → List (Addr × Obj) → List (Addr × Obj) → Prop
  | nil (T : List (Addr × Obj)) : Pre [] T T
  | cons (e : Addr × Obj) {E T n : List (Addr × Obj)} (h : Pre E T n) : Pre (e :: E) T (e :: n)
theorem Pre.eq {E T n : List (Addr × Obj)} (h : Pre E T n) : n = E ++ T := by
  induction h with
  | nil => rfl
  | cons e _ ih => rw [ih]; rfl
def OffE : List (Addr × Obj) → List (Addr × Obj) → Prop
  | [], _ => True
  | e :: E, T => Off e.1 T ∧ OffE E T
theorem OffE.mem {E T : List (Addr × Obj)} (h : OffE E T) : ∀ e ∈ E, Off e.1 T := by
  induction E with
  | nil => intro e he; cases he
  | cons a E ih =>
    intro e he
    rcases List.mem_cons.mp he with rfl | he
    · exact h.1
    · exact ih h.2 e he
theorem OffE.of {E T : List (Addr × Obj)} (h : ∀ e ∈ E, Off e.1 T) : OffE E T := by
  induction E with
  | nil => exact trivial
  | cons a E ih => exact ⟨h a List.mem_cons_self, ih fun e he => h e (List.mem_cons_of_mem _ he)⟩
theorem Off.ofLt {a : Addr} {T : List (Addr × Obj)} (h : AllLt a T) : Off a T := fun p hp => Nat.ne_of_lt (allLt_mem h p hp)
theorem Off.less {a : Addr} {T T' : List (Addr × Obj)} (h : Off a T) (s : ∀ p ∈ T', p ∈ T) : Off a T' := fun p hp => h p (s p hp)
section
variable {w : World} {f : Addr} {vs : List Value} {dm um : Nat} {mean : ExcName → Option Value} {mg mb : Str → Option Value} {dp un : Nat} {gd : Option (List Code)} {cn : Str} {cs : Scope} {a : Addr} {ccd : Value} {cl : List (Str × Addr)} {outer : List Env} {A₀ : Around} {base h₀ : Heap} {L : Addr} {m : Str → Option Value} {s : Shared} {Q Ex : Value → Shared → Prop} {news : List (Addr × Obj)} {tr td R : Addr} {tk : Tok} {rs : List NdR}
/-- a call that turns the tree: what else is in the ledger stands, and is off the new tree -/
theorem use_tree {post : Value → List (Addr × Obj) → Prop} {p : Value → List NdR → Prop} {G T E : List (Addr × Obj)} (S : Spec w f vs dm um (treeL w.params tr td tk R rs) post) (hpost : ∀ v n', post v n' → ∃ rs', n' = treeL w.params tr td tk R rs' ∧ Dis tr td R rs' ∧ p v rs')
    (B : Below A₀ base outer h₀) (F : Fr h₀ L s.heap m) (X : (T0.heap_1 w.params).In h₀) (N : News h₀ L s.heap news) (Tp : Top V0 (looseW V0 [Str.ofString "write"]) mean mg mb h₀)
    (hk : cs.kind = .function) (hd : dp + dm < recursionLimit) (hu : un + um < cLine) (hP : Pre E T news) (hT : TG w tr td tk R rs G T) (hE : OffE E T)
    (ret : ∀ r rs' T' h' tk', Fr h₀ L h' m → News h₀ L h' (E ++ T') → TG w tr td tk R rs' G T' → OffE E T' → p r rs' → Q r { s with heap := h', toks := tk' }) :
    wpAny (model PySem.Challenge.rw_on0191_01.row.toRowW.prog w) (ktrTop dp un gd cn cs L a ccd cl outer) (call (.ref f) vs) Q Ex s := by
  have hn := hP.eq
  subst hn
  have heq := hT.eq
  subst heq
  have offA : ∀ q ∈ E ++ G, q.1 ∉ (treeL w.params tr td tk R rs).map (·.1) := fun q hq hm => by
    rcases List.mem_append.mp hq with hq | hq
    · (try k_extra "gf")
      obtain ⟨z, hz, e⟩ := List.mem_map.mp hm
      (try k_extra "gu")
      exact hE.mem q hq z (List.mem_append_left _ hz) e
    · rw [treeL_adr] at hm; exact hT.off q hq hm
  refine use_part (rest := E ++ G) S B F X N Tp hk (fun q hq => List.mem_append_right _ (List.mem_append_left _ hq)) (fun q hq => ?_) offA hd hu fun r n' h' tk' F' N' O q => ?_
  · rcases List.mem_append.mp hq with hq | hq
    · exact List.mem_append_left _ hq
    · exact List.mem_append_right _ (List.mem_append_right _ hq)
  · (try k_extra "gf")
    obtain ⟨rs', rfl, hD, hp⟩ := hpost _ _ q
    (try k_extra "gu")
    refine ret r rs' (treeL w.params tr td tk R rs' ++ G) h' tk' F' (Mine.News.less N' fun z hz => ?_) ⟨rfl, hD, fun z hz hm => ?_⟩ (OffE.of fun e he z hz => ?_) hp
    · rcases List.mem_append.mp hz with hz | hz
      · exact List.mem_append_right _ (List.mem_append_left _ hz)
      · rcases List.mem_append.mp hz with hz | hz
        · exact List.mem_append_left _ hz
        · exact List.mem_append_right _ (List.mem_append_right _ hz)
    · rw [← treeL_adr w.params _ _ tk] at hm
      (try k_extra "gf")
      obtain ⟨y, hy, e⟩ := List.mem_map.mp hm
      (try k_extra "gu")
      exact O z (List.mem_append_right _ hz) y hy e.symm
    · rcases List.mem_append.mp hz with hz | hz
      · exact (O e (List.mem_append_left _ he) z hz).symm
      · exact hE.mem e he z (List.mem_append_right _ hz)
end
inductive RepC (rs : List NdR) (GI GR : List (Addr × Obj)) (n : Nd) (r1 r2 : List Value → List Value → List (Nat × Addr) → Prop) (vs us : List Value) (K : List (Nat × Addr)) : Prop
  | mk (i : Nat) (t : Tok) (row : NdR) (vs' : List Value) (u : Value) (us' : List Value) (ia : Addr) (ks : List Value) (kc : Nat) (K1 K2 : List (Nat × Addr)) (h1 : vs = .int (i : Int) t :: vs') (h2 : us = u :: us') (h3 : rs[i]? = some row) (h4 : NodeIs rs row n) (h5 : RowL GR u n ia) (h6 : (ia, listOf (List.toArray ks) kc) ∈ GI) (h7 : r1 row.chv ks K1) (h8 : r2 vs' us' K2) (h9 : K = (i, ia) :: (K1 ++ K2))
/-- the tree and the law's rows as they bear one forest; its nodes' keys -/
def Rep (rs : List NdR) (GI GR : List (Addr × Obj)) : List Value → List Value → Fo → List (Nat × Addr) → Prop
  | vs, us, .nil, K => vs = [] ∧ us = [] ∧ K = []
  | vs, us, .cons n k r, K => RepC rs GI GR n (fun a b c => Rep rs GI GR a b k c) (fun a b c => Rep rs GI GR a b r c) vs us K
theorem Rep.toT {rs : List NdR} {GI GR : List (Addr × Obj)} {f : Fo} : ∀ {vs us : List Value} {K : List (Nat × Addr)}, Rep rs GI GR vs us f K → RepT rs vs f := by
  induction f with
  | nil => intro vs us K h; exact h.1
  | cons n k r ihk ihr =>
    intro vs us K h
    (try k_extra "gf")
    obtain ⟨i, t, row, vs', u, us', ia, ks, kc, K1, K2, rfl, rfl, h1, h2, h3, h4, h5, h6, rfl⟩ := h
    (try k_extra "gu")
    exact ⟨i, t, row, vs', rfl, h1, h2, ihk h5, ihr h6⟩
theorem Rep.toL {rs : List NdR} {GI GR G : List (Addr × Obj)} (sI : ∀ p ∈ GI, p ∈ G) (sR : ∀ p ∈ GR, p ∈ G) {f : Fo} : ∀ {vs us : List Value} {K : List (Nat × Addr)}, Rep rs GI GR vs us f K → RepL G us f := by
  induction f with
  | nil => intro vs us K h; exact h.2.1
  | cons n k r ihk ihr =>
    intro vs us K h
    (try k_extra "gf")
    obtain ⟨i, t, row, vs', u, us', ia, ks, kc, K1, K2, rfl, rfl, h1, h2, h3, h4, h5, h6, rfl⟩ := h
    (try k_extra "gu")
    exact ⟨u, us', ia, ks, kc, rfl, h3.mono sR, sI _ h4, ihk h5, ihr h6⟩
theorem Rep.app {rs : List NdR} {GI GR : List (Addr × Obj)} {f g : Fo} : ∀ {vs us vs2 us2 : List Value} {K K2 : List (Nat × Addr)}, Rep rs GI GR vs us f K → Rep rs GI GR vs2 us2 g K2 → Rep rs GI GR (vs ++ vs2) (us ++ us2) (f.app g) (K ++ K2) := by
  induction f with
  | nil =>
    intro vs us vs2 us2 K K2 h h2
    (try k_extra "gf")
    obtain ⟨rfl, rfl, rfl⟩ := h
    (try k_extra "gu")
    exact h2
  | cons n k r ihk ihr =>
    intro vs us vs2 us2 K K9 h h9
    (try k_extra "gf")
    obtain ⟨i, t, row, vs', u, us', ia, ks, kc, K1, K2, rfl, rfl, h1, h2, h3, h4, h5, h6, rfl⟩ := h
    (try k_extra "gu")
    exact ⟨i, t, row, vs' ++ vs2, u, us' ++ us2, ia, ks, kc, K1, K2 ++ K9, rfl, rfl, h1, h2, h3, h4, h5, ihr h6 h9, by simp⟩
theorem Rep.ulen {rs : List NdR} {GI GR : List (Addr × Obj)} {f : Fo} : ∀ {vs us : List Value} {K : List (Nat × Addr)}, Rep rs GI GR vs us f K → us.length ≤ f.size := by
  induction f with
  | nil => intro vs us K h; rw [h.2.1]; exact Nat.le_refl _
  | cons n k r ihk ihr =>
    intro vs us K h
    (try k_extra "gf")
    obtain ⟨i, t, row, vs', u, us', ia, ks, kc, K1, K2, rfl, rfl, h1, h2, h3, h4, h5, h6, rfl⟩ := h
    (try k_extra "gu")
    have := ihr h6
    simp only [List.length_cons, Fo.size]; omega
theorem Rep.urow {rs : List NdR} {GI GR : List (Addr × Obj)} {f : Fo} : ∀ {vs us : List Value} {K : List (Nat × Addr)}, Rep rs GI GR vs us f K → ∀ u ∈ us, ∃ n ia, RowL GR u n ia := by
  induction f with
  | nil => intro vs us K h u hu; rw [h.2.1] at hu; cases hu
  | cons n k r ihk ihr =>
    intro vs us K h u' hu
    (try k_extra "gf")
    obtain ⟨i, t, row, vs', u, us', ia, ks, kc, K1, K2, rfl, rfl, h1, h2, h3, h4, h5, h6, rfl⟩ := h
    (try k_extra "gu")
    rcases List.mem_cons.mp hu with rfl | hu
    · exact ⟨_, _, h3⟩
    · exact ihr h6 _ hu
inductive KeyP (rs : List NdR) (GI GR : List (Addr × Obj)) (f : Fo) (q : Nat × Addr) : Prop
  | mk (row : NdR) (ks : List Value) (kc : Nat) (n : Nd) (k : Fo) (K1 : List (Nat × Addr)) (h1 : rs[q.1]? = some row) (h2 : NodeIs rs row n) (h3 : (q.2, listOf (List.toArray ks) kc) ∈ GI) (h4 : Rep rs GI GR row.chv ks k K1) (h5 : k.size < f.size)
/-- what is known of a key -/
theorem Rep.key {rs : List NdR} {GI GR : List (Addr × Obj)} {f : Fo} : ∀ {vs us : List Value} {K : List (Nat × Addr)}, Rep rs GI GR vs us f K → ∀ q ∈ K, KeyP rs GI GR f q := by
  induction f with
  | nil => intro vs us K h q hq; rw [h.2.2] at hq; cases hq
  | cons n k r ihk ihr =>
    intro vs us K h q hq
    (try k_extra "gf")
    obtain ⟨i, t, row, vs', u, us', ia, ks, kc, K1, K2, rfl, rfl, h1, h2, h3, h4, h5, h6, rfl⟩ := h
    (try k_extra "gu")
    rcases List.mem_cons.mp hq with rfl | hq
    · exact ⟨row, ks, kc, n, k, K1, h1, h2, h4, h5, by simp only [Fo.size]; omega⟩
    · rcases List.mem_append.mp hq with hq | hq
      · (try k_extra "gf")
        obtain ⟨row', ks', kc', n', k', K', a1, a2, a3, a4, a5⟩ := ihk h5 q hq
        (try k_extra "gu")
        exact ⟨row', ks', kc', n', k', K', a1, a2, a3, a4, by simp only [Fo.size]; omega⟩
      · (try k_extra "gf")
        obtain ⟨row', ks', kc', n', k', K', a1, a2, a3, a4, a5⟩ := ihr h6 q hq
        (try k_extra "gu")
        exact ⟨row', ks', kc', n', k', K', a1, a2, a3, a4, by simp only [Fo.size]; omega⟩
theorem nodup_fst_eq {α β : Type} {K : List (α × β)} (h : (K.map (·.1)).Nodup) {a : α} {b c : β} (h1 : (a, b) ∈ K) (h2 : (a, c) ∈ K) : b = c := by
  induction K with
  | nil => cases h1
  | cons q K ih =>
    rw [List.map_cons, List.nodup_cons] at h
    rcases List.mem_cons.mp h1 with rfl | h1'
    · rcases List.mem_cons.mp h2 with e | h2'
      · exact (Prod.ext_iff.mp e).2.symm
      · exact absurd (List.mem_map_of_mem (f := (·.1)) h2') h.1
    · rcases List.mem_cons.mp h2 with rfl | h2'
      · exact absurd (List.mem_map_of_mem (f := (·.1)) h1') h.1
      · exact ih h.2 h1' h2'
/-- the rows have grown: one row has a child more, the others stand, new ones may follow -/
structure Ext (rs rs' : List NdR) (i : Nat) (v : Value) : Prop where
  other : ∀ (j : Nat) row, rs[j]? = some row → j ≠ i → rs'[j]? = some row
  self : ∀ row, rs[i]? = some row → rs'[i]? = some (kidTo v row)
theorem Ext.atts {rs rs' : List NdR} {i : Nat} {v : Value} (h : Ext rs rs' i v) : ∀ {l : List (Str × Str)} {vs : List Value}, AttsAre rs vs l → AttsAre rs' vs l := by
  intro l
  induction l with
  | nil => intro vs q; exact q
  | cons p l ih =>
    intro vs q
    (try k_extra "gf")
    obtain ⟨j, t, r, vs', rfl, hj, h1, h2, h3, h4⟩ := q
    (try k_extra "gu")
    by_cases e : j = i
    · subst e; exact ⟨j, t, _, vs', rfl, h.self r hj, h1, h2, h3, ih h4⟩
    · exact ⟨j, t, r, vs', rfl, h.other j r hj e, h1, h2, h3, ih h4⟩
theorem Ext.node {rs rs' : List NdR} {i : Nat} {v : Value} (h : Ext rs rs' i v) {row : NdR} {n : Nd} (q : NodeIs rs row n) : NodeIs rs' row n := by
  cases n with
  | el nm ats => exact ⟨q.1, q.2.1, q.2.2.1, h.atts q.2.2.2⟩
  | tx x => exact q
  | cm x => exact q
  | pi x => exact q
theorem NodeIs.kid {rs : List NdR} {row : NdR} {n : Nd} {v : Value} (q : NodeIs rs row n) : NodeIs rs (kidTo v row) n := by
  cases n with
  | el nm ats => exact q
  | tx x => exact q
  | cm x => exact q
  | pi x => exact q
/-- what lies elsewhere stands -/
theorem Rep.ext {rs rs' : List NdR} {GI GI' GR GR' : List (Addr × Obj)} {i : Nat} {ia : Addr} {v : Value} (hE : Ext rs rs' i v) (hI : ∀ p ∈ GI, p.1 ≠ ia → p ∈ GI') (hR : ∀ p ∈ GR, p ∈ GR') {f : Fo} :
    ∀ {vs us : List Value} {K : List (Nat × Addr)}, (∀ q ∈ K, q.1 ≠ i ∧ q.2 ≠ ia) → Rep rs GI GR vs us f K → Rep rs' GI' GR' vs us f K := by
  induction f with
  | nil => intro vs us K _ h; exact h
  | cons n k r ihk ihr =>
    intro vs us K hK h
    (try k_extra "gf")
    obtain ⟨j, t, row, vs', u, us', ja, ks, kc, K1, K2, rfl, rfl, h1, h2, h3, h4, h5, h6, rfl⟩ := h
    (try k_extra "gu")
    have hq := hK (j, ja) List.mem_cons_self
    exact ⟨j, t, row, vs', u, us', ja, ks, kc, K1, K2, rfl, rfl, hE.other j row h1 hq.1, hE.node h2, h3.mono hR, hI _ h4 hq.2, ihk (fun q hq => hK q (List.mem_cons_of_mem _ (List.mem_append_left _ hq))) h5,
      ihr (fun q hq => hK q (List.mem_cons_of_mem _ (List.mem_append_right _ hq))) h6, rfl⟩
/-- a node with a new child -/
theorem Rep.ins {rs rs' : List NdR} {GI GI' GR GR' : List (Addr × Obj)} {i j : Nat} {ia ic : Addr} {v u : Value} {t : Tok} {n : Nd} {rn rp : NdR} {c0 : Nat} (hE : Ext rs rs' i v) (hI : ∀ p ∈ GI, p.1 ≠ ia → p ∈ GI') (hR : ∀ p ∈ GR, p ∈ GR')
    (hS : ∀ ks kc, (ia, listOf (List.toArray ks) kc) ∈ GI → ∃ kc', (ia, listOf (List.toArray (ks ++ [u])) kc') ∈ GI') (hv : v = .int (j : Int) t) (hj : rs'[j]? = some rn) (hn : NodeIs rs' rn n) (hc : rn.chv = []) (hu : RowL GR' u n ic) (hic : (ic, listOf (List.toArray []) c0) ∈ GI')
    (hip : rs[i]? = some rp) (hkp : rp.kind = Str.ofString "element") (hnok : n.Ok) {f : Fo} :
    ∀ {vs us : List Value} {K : List (Nat × Addr)}, (i, ia) ∈ K → (K.map (·.1)).Nodup → (K.map (·.2)).Nodup → f.Ok → Rep rs GI GR vs us f K → ∃ f' K', Rep rs' GI' GR' vs us f' K' ∧ f'.size = f.size + 1 ∧ f'.Ok ∧ K'.Perm ((j, ic) :: K) := by
  have hnew : Rep rs' GI' GR' [v] [u] (.cons n .nil .nil) [(j, ic)] := ⟨j, t, rn, [], u, [], ic, [], c0, [], [], by rw [hv], rfl, hj, hn, hu, hic, ⟨hc, rfl, rfl⟩, ⟨rfl, rfl, rfl⟩, rfl⟩
  induction f with
  | nil => intro vs us K hm _ _ _ h; rw [h.2.2] at hm; cases hm
  | cons n0 k r ihk ihr =>
    intro vs us K hm hd1 hd2 hok h
    (try k_extra "gf")
    obtain ⟨a, ta, row, vs', u0, us', aa, ks, kc, K1, K2, rfl, rfl, h1, h2, h3, h4, h5, h6, rfl⟩ := h
    (try k_extra "gu")
    rw [List.map_cons, List.nodup_cons, List.map_append, List.nodup_append] at hd1 hd2
    (try k_extra "gf")
    obtain ⟨p1, p2, p3, p4⟩ := hd1
    (try k_extra "gu")
    (try k_extra "gf")
    obtain ⟨q1, q2, q3, q4⟩ := hd2
    (try k_extra "gu")
    rw [List.mem_append, not_or] at p1 q1
    have in1 : ∀ {K : List (Nat × Addr)} {b : Nat} {c : Addr}, (b, c) ∈ K → b ∈ K.map (·.1) := fun h => List.mem_map_of_mem (f := (·.1)) h
    have in2 : ∀ {K : List (Nat × Addr)} {b : Nat} {c : Addr}, (b, c) ∈ K → c ∈ K.map (·.2) := fun h => List.mem_map_of_mem (f := (·.2)) h
    rcases List.mem_cons.mp hm with e | hm
    · (try k_extra "gf")
      obtain ⟨e1, e2⟩ := Prod.ext_iff.mp e
      (try k_extra "gu")
      simp only at e1 e2
      subst e1; subst e2
      rw [hip] at h1
      cases h1
      have hel : n0.isEl = true := by
        cases n0 with
        | el _ _ => rfl
        | tx x => have := h2.1; rw [hkp] at this; exact absurd this (by decide +kernel)
        | cm x => have := h2.1; rw [hkp] at this; exact absurd this (by decide +kernel)
        | pi x => have := h2.1; rw [hkp] at this; exact absurd this (by decide +kernel)
      (try k_extra "gf")
      obtain ⟨kc', h4'⟩ := hS ks kc h4
      (try k_extra "gu")
      have r1 : Rep rs' GI' GR' rp.chv ks k K1 := h5.ext hE hI hR fun q hq => ⟨fun e => p1.1 (e ▸ in1 hq), fun e => q1.1 (e ▸ in2 hq)⟩
      have r2 : Rep rs' GI' GR' vs' us' r K2 := h6.ext hE hI hR fun q hq => ⟨fun e => p1.2 (e ▸ in1 hq), fun e => q1.2 (e ▸ in2 hq)⟩
      refine ⟨.cons n0 (k.app (.cons n .nil .nil)) r, (i, ia) :: ((K1 ++ [(j, ic)]) ++ K2), ⟨i, ta, kidTo v rp, vs', u0, us', ia, ks ++ [u], kc', K1 ++ [(j, ic)], K2, rfl, rfl, hE.self rp hip, (hE.node h2).kid, h3.mono hR, h4', r1.app hnew, r2, rfl⟩, ?_, ?_, ?_⟩
      · simp only [Fo.size, Fo.size_app]; omega
      · refine ⟨hok.1, fun h => absurd h (by rw [hel]; decide), ?_, hok.2.2.2⟩
        have : ∀ {g : Fo}, g.Ok → (g.app (.cons n .nil .nil)).Ok := by
          intro g
          induction g with
          | nil => intro _; exact ⟨hnok, fun _ => rfl, trivial, trivial⟩
          | cons a b c _ ih => intro h; exact ⟨h.1, h.2.1, h.2.2.1, ih h.2.2.2⟩
        exact this hok.2.2.1
      · rw [List.append_assoc]
        refine ((List.Perm.cons _ (List.perm_middle (l₁ := K1) (a := (j, ic)) (l₂ := K2)))).trans (List.Perm.swap ..)
    · rcases List.mem_append.mp hm with hm | hm
      · have ha : a ≠ i := fun e => p1.1 (e ▸ in1 hm)
        have haa : aa ≠ ia := fun e => q1.1 (e ▸ in2 hm)
        (try k_extra "gf")
        obtain ⟨k', K1', r1, s1, o1, e1⟩ := ihk hm p2 q2 hok.2.2.1 h5
        (try k_extra "gu")
        have r2 : Rep rs' GI' GR' vs' us' r K2 := h6.ext hE hI hR fun q hq => ⟨fun e => p4 _ (in1 hm) _ (in1 hq) e.symm, fun e => q4 _ (in2 hm) _ (in2 hq) e.symm⟩
        refine ⟨.cons n0 k' r, (a, aa) :: (K1' ++ K2), ⟨a, ta, row, vs', u0, us', aa, ks, kc, K1', K2, rfl, rfl, hE.other a row h1 ha, hE.node h2, h3.mono hR, hI _ h4 haa, r1, r2, rfl⟩, ?_, ⟨hok.1, fun h => ?_, o1, hok.2.2.2⟩, ?_⟩
        · simp only [Fo.size, s1]; omega
        · have hk0 := hok.2.1 h
          subst hk0
          rw [h5.2.2] at hm; cases hm
        · exact (List.Perm.cons _ (e1.append_right K2)).trans (List.Perm.swap ..)
      · have ha : a ≠ i := fun e => p1.2 (e ▸ in1 hm)
        have haa : aa ≠ ia := fun e => q1.2 (e ▸ in2 hm)
        (try k_extra "gf")
        obtain ⟨r', K2', r2, s2, o2, e2⟩ := ihr hm p3 q3 hok.2.2.2 h6
        (try k_extra "gu")
        have r1 : Rep rs' GI' GR' row.chv ks k K1 := h5.ext hE hI hR fun q hq => ⟨fun e => p4 _ (in1 hq) _ (in1 hm) e, fun e => q4 _ (in2 hq) _ (in2 hm) e⟩
        refine ⟨.cons n0 k r', (a, aa) :: (K1 ++ K2'), ⟨a, ta, row, vs', u0, us', aa, ks, kc, K1, K2', rfl, rfl, hE.other a row h1 ha, hE.node h2, h3.mono hR, hI _ h4 haa, r1, r2, rfl⟩, ?_, ⟨hok.1, hok.2.1, hok.2.2.1, o2⟩, ?_⟩
        · simp only [Fo.size, s2]; omega
        · refine (List.Perm.cons _ ((e2.append_left K1).trans List.perm_middle)).trans (List.Perm.swap ..)

/-- one of the law's lots: a node of the tree and where its rows are kept -/
inductive LotOk (rs : List NdR) (GR : List (Addr × Obj)) (K : List (Nat × Addr)) (v : Value) : Prop
  | mk (Tu : Addr) (i : Nat) (t : Tok) (ia : Addr) (rp : NdR) (h1 : v = .ref Tu) (h2 : (Tu, tupO [.int (i : Int) t, .ref ia]) ∈ GR) (h3 : (i, ia) ∈ K) (h4 : rs[i]? = some rp) (h5 : rp.kind = Str.ofString "element")
/-- the law's building between two turns -/
structure LJx (w : World) (S la rl tr td R I : Addr) (tk : Tok) (i : Nat) (o : Obj) (lv : List Value) (T : List (Addr × Obj)) (rs : List NdR) (GI GR : List (Addr × Obj)) (r : NdR) (f : Fo) (K : List (Nat × Addr)) (ks : List Value) (rc : Nat) : Prop where
  tg : TG w tr td tk R rs (GI ++ GR) T
  src : Src o
  sla : @Ne Nat S la
  sI : @Ne Nat S I
  laI : @Ne Nat la I
  offS : Off S T
  offla : Off la T
  offI : Off I T
  hIR : ∀ p ∈ GI, ∀ q ∈ GR, p.1 ≠ q.1
  r0 : rs[0]? = some r
  rk : r.kind = Str.ofString "root"
  rep : Rep rs GI GR r.chv ks f K
  hrl : (rl, listOf (List.toArray ks) rc) ∈ GR
  k0 : 0 ∉ K.map (·.1)
  kn1 : (K.map (·.1)).Nodup
  kn2 : (K.map (·.2)).Nodup
  ok : f.Ok
  sz : f.size ≤ i + 2
  rsz : rs.length ≤ 3 * i + 3
  iz : i ≤ 10
  lots : ∃ v0 lw, lv = v0 :: lw ∧ lw ≠ [] ∧ lw.length ≤ i + 1 ∧ ∀ v ∈ lw, LotOk rs GR K v
def GXof (ia : Addr) (GI GR : List (Addr × Obj)) : List (Addr × Obj) := (GI.filter fun p => !decide (p.1 = ia)) ++ GR
theorem mem_GX {ia : Addr} {GI GR : List (Addr × Obj)} {p : Addr × Obj} : p ∈ GXof ia GI GR ↔ (p ∈ GI ∧ p.1 ≠ ia) ∨ p ∈ GR := by
  simp [GXof, List.mem_append, List.mem_filter]
theorem adr_off {w : World} {tr td R a : Addr} {tk : Tok} {rs : List NdR} (h : ∀ p ∈ treeL w.params tr td tk R rs, p.1 ≠ a) : a ∉ treeAdr tr td R rs := fun hm => by
  rw [← treeL_adr w.params _ _ tk] at hm
  (try k_extra "gf")
  obtain ⟨y, hy, e⟩ := List.mem_map.mp hm
  (try k_extra "gu")
  exact h y hy e
theorem off_adr {w : World} {tr td R a : Addr} {tk : Tok} {rs : List NdR} (h : a ∉ treeAdr tr td R rs) : ∀ p ∈ treeL w.params tr td tk R rs, p.1 ≠ a := fun p hp e => by
  rw [← treeL_adr w.params _ _ tk] at h
  exact h (e ▸ List.mem_map_of_mem hp)
inductive OpenP (w : World) (S la tr td R I : Addr) (tk : Tok) (T : List (Addr × Obj)) (rs : List NdR) (GI GR : List (Addr × Obj)) (K : List (Nat × Addr)) (v : Value) : Prop
  | mk (Tu : Addr) (i : Nat) (t : Tok) (ia : Addr) (rp : NdR) (ks1 : List Value) (kc1 : Nat) (T1 : List (Addr × Obj)) (h1 : v = .ref Tu) (h2 : (Tu, tupO [.int (i : Int) t, .ref ia]) ∈ T1) (h3 : (i, ia) ∈ K) (h4 : (ia, listOf (List.toArray ks1) kc1) ∈ GI) (h5 : TG w tr td tk R rs (GXof ia GI GR) T1) (h6 : (∀ p ∈ T1, p ∈ T)) (h7 : (ia, listOf (List.toArray ks1) kc1) ∈ T) (h8 : Off S T1) (h9 : Off la T1) (h10 : Off I T1) (h11 : Off ia T1) (h12 : (@Ne Nat ia S)) (h13 : (@Ne Nat ia la)) (h14 : (@Ne Nat ia I)) (h15 : rs[i]? = some rp) (h16 : rp.kind = Str.ofString "element") (h17 : noParent rp.kind = false) (h18 : rp.chv.length ≤ 1000) (h19 : rs.length ≤ 40) (h20 : ks1.length ≤ 1000) (h21 : (∀ u ∈ ks1, ∃ (l : Addr) (nv : Value) (k nm x : Str) (t1 t2 t3 : Tok) (pa ia' : Addr), u = .ref l ∧ (l, listOf (List.toArray [nv, .str k t1, .str nm t2, .str x t3, .ref pa, .ref ia']) 0) ∈ T1))
/-- a lot taken in hand -/
theorem LJx.open {w : World} {S la rl tr td R I : Addr} {tk : Tok} {n : Nat} {o : Obj} {lv : List Value} {T : List (Addr × Obj)} {rs : List NdR} {GI GR : List (Addr × Obj)} {r : NdR} {f : Fo} {K : List (Nat × Addr)} {ks : List Value} {rc : Nat}
    (J : LJx w S la rl tr td R I tk n o lv T rs GI GR r f K ks rc) {v : Value} (hv : LotOk rs GR K v) :
    OpenP w S la tr td R I tk T rs GI GR K v := by
  (try k_extra "gf")
  obtain ⟨Tu, i, t, ia, rp, rfl, hTu, hK, hi, hk⟩ := hv
  (try k_extra "gu")
  (try k_extra "gf")
  obtain ⟨row, ks1, kc1, n1, k1, K1, a1, a2, a3, a4, a5⟩ := J.rep.key _ hK
  (try k_extra "gu")
  simp only at a1 a3
  rw [hi] at a1
  cases a1
  have hsz := J.sz
  have hrs := J.rsz
  have hiz := J.iz
  have hT := J.tg
  have hIT : ∀ p ∈ GI, p ∈ T := fun p hp => hT.sub p (List.mem_append_left _ hp)
  have hRT : ∀ p ∈ GR, p ∈ T := fun p hp => hT.sub p (List.mem_append_right _ hp)
  let T1 := treeL w.params tr td tk R rs ++ GXof ia GI GR
  have s1 : ∀ p ∈ T1, p ∈ T := fun p hp => by
    rcases List.mem_append.mp hp with hp | hp
    · exact hT.tree p hp
    · rcases mem_GX.mp hp with hp | hp
      · exact hIT p hp.1
      · exact hRT p hp
  have hG1 : ∀ p ∈ GR, p ∈ T1 := fun p hp => List.mem_append_right _ (mem_GX.mpr (.inr hp))
  have tg1 : TG w tr td tk R rs (GXof ia GI GR) T1 := ⟨rfl, hT.dis, fun p hp => by
    rcases mem_GX.mp hp with hp | hp
    · exact hT.off p (List.mem_append_left _ hp.1)
    · exact hT.off p (List.mem_append_right _ hp)⟩
  refine ⟨Tu, i, t, ia, rp, ks1, kc1, T1, rfl, hG1 _ hTu, hK, a3, tg1, s1, hIT _ a3, J.offS.less s1, J.offla.less s1, J.offI.less s1, ?_, J.offS _ (hIT _ a3), J.offla _ (hIT _ a3), J.offI _ (hIT _ a3), hi, hk, ?_, ?_, ?_, ?_, ?_⟩
  · intro p hp
    rcases List.mem_append.mp hp with hp | hp
    · exact off_adr (hT.off _ (List.mem_append_left _ a3)) p hp
    · rcases mem_GX.mp hp with hp | hp
      · exact hp.2
      · exact (J.hIR _ a3 p hp).symm
  · rw [hk]; decide +kernel
  · have := a4.toT.len; omega
  · omega
  · have := a4.ulen; omega
  · intro u hu
    (try k_extra "gf")
    obtain ⟨n2, i2, l, nv, k, nm, x, t1, t2, t3, pa, ps, pc, rfl, h1, _⟩ := a4.urow u hu
    (try k_extra "gu")
    exact ⟨l, nv, k, nm, x, t1, t2, t3, pa, i2, rfl, hG1 _ h1⟩
inductive CloseP (w : World) (S la rl tr td R I : Addr) (tk : Tok) (m : Nat) (o : Obj) (lv : List Value) (rs : List NdR) (r : NdR) (ks : List Value) (rc : Nat) (all : List (Addr × Obj)) : Prop
  | mk (T2 GI GR : List (Addr × Obj)) (f : Fo) (K : List (Nat × Addr)) (h1 : (∀ p ∈ T2, p ∈ all)) (h2 : LJx w S la rl tr td R I tk m o lv T2 rs GI GR r f K ks rc)
/-- a turn's end: one node more -/
theorem LJx.close {w : World} {S la rl tr td R I : Addr} {tk : Tok} {m : Nat} {o o' : Obj} {lv lv' : List Value} {T : List (Addr × Obj)} {rs rs' : List NdR} {GI GR : List (Addr × Obj)} {r : NdR} {f : Fo} {K : List (Nat × Addr)} {ks : List Value} {rc : Nat}
    (J : LJx w S la rl tr td R I tk m o lv T rs GI GR r f K ks rc) {i : Nat} {ia ic : Addr} {rp rn : NdR} {ks1 : List Value} {kc1 kc2 c0 : Nat} {T' NR : List (Addr × Obj)} {u : Value} {n : Nd} {t : Tok}
    (hK : (i, ia) ∈ K) (hip : rs[i]? = some rp) (hkp : rp.kind = Str.ofString "element") (hia : (ia, listOf (List.toArray ks1) kc1) ∈ GI) (huniq : ∀ ks kc, (ia, listOf (List.toArray ks) kc) ∈ GI → ks = ks1)
    (hE : Ext rs rs' i (.int (rs.length : Int) t)) (hj : rs'[rs.length]? = some rn) (hn : NodeIs rs' rn n) (hc : rn.chv = []) (hnok : n.Ok) (hlen : rs'.length ≤ rs.length + 3) (hm : m + 1 ≤ 10)
    (tg : TG w tr td tk R rs' (GXof ia GI GR) T') (hNR : ∀ p ∈ NR, Off p.1 T' ∧ (@Ne Nat p.1 ia) ∧ (@Ne Nat p.1 ic) ∧ (@Ne Nat p.1 S) ∧ (@Ne Nat p.1 la) ∧ (@Ne Nat p.1 I))
    (hic : Off ic T' ∧ (@Ne Nat ic ia) ∧ (@Ne Nat ic S) ∧ (@Ne Nat ic la) ∧ (@Ne Nat ic I)) (oS : Off S T') (ola : Off la T') (oI : Off I T') (oia : Off ia T') (iaS : @Ne Nat ia S) (iala : @Ne Nat ia la) (iaI : @Ne Nat ia I)
    (hu : RowL NR u n ic) (hso : Src o') (hlv : lv' = lv ∨ ∃ (Tl : Addr) (t' : Tok), lv' = lv ++ [.ref Tl] ∧ (Tl, tupO [.int (rs.length : Int) t', .ref ic]) ∈ NR ∧ n.isEl = true) :
    CloseP w S la rl tr td R I tk (m + 1) o' lv' rs' r ks rc ((ia, listOf (List.toArray (ks1 ++ [u])) kc2) :: (ic, listOf (List.toArray []) c0) :: (NR ++ T')) := by
  let GI' := (ia, listOf (List.toArray (ks1 ++ [u])) kc2) :: (ic, listOf (List.toArray []) c0) :: (GI.filter fun p => !decide (p.1 = ia))
  let GR' := NR ++ GR
  have hfil : ∀ p, p ∈ (GI.filter fun p => !decide (p.1 = ia)) ↔ p ∈ GI ∧ p.1 ≠ ia := fun p => by simp [List.mem_filter]
  have sX : ∀ p ∈ GXof ia GI GR, p ∈ T' := tg.sub
  have sR : ∀ p ∈ GR, p ∈ T' := fun p hp => sX p (mem_GX.mpr (.inr hp))
  have sF : ∀ p ∈ GI, p.1 ≠ ia → p ∈ T' := fun p hp h => sX p (mem_GX.mpr (.inl ⟨hp, h⟩))
  have hklt : ∀ q ∈ K, q.1 < rs.length := fun q hq => by
    (try k_extra "gf")
    obtain ⟨row, _, _, _, _, _, a1, _⟩ := J.rep.key q hq
    (try k_extra "gu")
    exact getElem?_lt a1
  have hi0 : 0 ≠ i := fun e => J.k0 (by rw [e]; exact List.mem_map_of_mem (f := (·.1)) hK)
  have hicK : ic ∉ K.map (·.2) := fun hmem => by
    (try k_extra "gf")
    obtain ⟨q, hq, e⟩ := List.mem_map.mp hmem
    (try k_extra "gu")
    (try k_extra "gf")
    obtain ⟨row, ks2, kc3, _, _, _, a1, _, a3, _⟩ := J.rep.key q hq
    (try k_extra "gu")
    by_cases h : q.2 = ia
    · exact hic.2.1 (e.symm.trans h)
    · exact hic.1 _ (sF _ a3 h) e
  obtain ⟨f', K', r1, s1, o1, p1⟩ := Rep.ins (rs' := rs') (GI' := GI') (GR' := GR') (n := n) (u := u) (ic := ic) (c0 := c0) (rn := rn) hE (fun p hp h => List.mem_cons_of_mem _ (List.mem_cons_of_mem _ ((hfil p).mpr ⟨hp, h⟩))) (fun p hp => List.mem_append_right _ hp)
    (fun ks kc h => by rw [huniq ks kc h]; exact ⟨kc2, List.mem_cons_self⟩) rfl hj hn hc (hu.mono fun p hp => List.mem_append_left _ hp) (List.mem_cons_of_mem _ List.mem_cons_self) hip hkp hnok hK J.kn1 J.kn2 J.ok J.rep
  have hcase : ∀ p ∈ GI' ++ GR', p = (ia, listOf (List.toArray (ks1 ++ [u])) kc2) ∨ p = (ic, listOf (List.toArray []) c0) ∨ p ∈ NR ∨ p ∈ GXof ia GI GR := fun p hp => by
    rcases List.mem_append.mp hp with hp | hp
    · rcases List.mem_cons.mp hp with hp | hp
      · exact .inl hp
      rcases List.mem_cons.mp hp with hp | hp
      · exact .inr (.inl hp)
      · exact .inr (.inr (.inr (mem_GX.mpr (.inl ((hfil p).mp hp)))))
    · rcases List.mem_append.mp hp with hp | hp
      · exact .inr (.inr (.inl hp))
      · exact .inr (.inr (.inr (mem_GX.mpr (.inr hp))))
  have offT2 : ∀ a : Addr, Off a T' → ia ≠ a → ic ≠ a → (∀ p ∈ NR, p.1 ≠ a) → Off a (treeL w.params tr td tk R rs' ++ (GI' ++ GR')) := fun a h1 h2 h3 h4 p hp => by
    rcases List.mem_append.mp hp with hp | hp
    · exact h1 p (tg.tree p hp)
    · rcases hcase p hp with rfl | rfl | hp | hp
      · exact h2
      · exact h3
      · exact h4 p hp
      · exact h1 p (sX p hp)
  refine ⟨treeL w.params tr td tk R rs' ++ (GI' ++ GR'), GI', GR', f', K', ?_, ⟨⟨rfl, tg.dis, ?_⟩, hso, J.sla, J.sI, J.laI, offT2 S oS iaS hic.2.2.1 (fun p hp => (hNR p hp).2.2.2.1), offT2 la ola iala hic.2.2.2.1 (fun p hp => (hNR p hp).2.2.2.2.1), offT2 I oI iaI hic.2.2.2.2 (fun p hp => (hNR p hp).2.2.2.2.2), ?_, hE.other 0 r J.r0 hi0, J.rk, r1, List.mem_append_right _ J.hrl, ?_, ?_, ?_, o1, ?_, ?_, hm, ?_⟩⟩
  · intro p hp
    rcases List.mem_append.mp hp with hp | hp
    · exact List.mem_cons_of_mem _ (List.mem_cons_of_mem _ (List.mem_append_right _ (tg.tree p hp)))
    · rcases hcase p hp with rfl | rfl | hp | hp
      · exact List.mem_cons_self
      · exact List.mem_cons_of_mem _ List.mem_cons_self
      · exact List.mem_cons_of_mem _ (List.mem_cons_of_mem _ (List.mem_append_left _ hp))
      · exact List.mem_cons_of_mem _ (List.mem_cons_of_mem _ (List.mem_append_right _ (sX p hp)))
  · intro p hp
    rcases hcase p hp with rfl | rfl | hp | hp
    · exact adr_off (w := w) (tk := tk) fun q hq => oia q (tg.tree q hq)
    · exact adr_off (w := w) (tk := tk) fun q hq => hic.1 q (tg.tree q hq)
    · exact adr_off (w := w) (tk := tk) fun q hq => (hNR p hp).1 q (tg.tree q hq)
    · exact tg.off p hp
  · intro p hp q hq
    rcases List.mem_append.mp hq with hq | hq
    · have hq' := hNR q hq
      rcases List.mem_cons.mp hp with rfl | hp
      · exact hq'.2.1.symm
      rcases List.mem_cons.mp hp with rfl | hp
      · exact hq'.2.2.1.symm
      · have := (hfil p).mp hp
        exact hq'.1 p (sF p this.1 this.2)
    · rcases List.mem_cons.mp hp with rfl | hp
      · exact (oia q (sR q hq)).symm
      rcases List.mem_cons.mp hp with rfl | hp
      · exact (hic.1 q (sR q hq)).symm
      · exact J.hIR p ((hfil p).mp hp).1 q hq
  · intro h
    have := (p1.map (·.1)).mem_iff.mp h
    rcases List.mem_cons.mp this with e | h
    · have := hklt _ hK; simp only at e; omega
    · exact J.k0 h
  · rw [(p1.map (·.1)).nodup_iff, List.map_cons, List.nodup_cons]
    refine ⟨fun h => ?_, J.kn1⟩
    (try k_extra "gf")
    obtain ⟨q, hq, e⟩ := List.mem_map.mp h
    (try k_extra "gu")
    have := hklt q hq
    simp only at e
    omega
  · rw [(p1.map (·.2)).nodup_iff, List.map_cons, List.nodup_cons]
    exact ⟨hicK, J.kn2⟩
  · have := J.sz; omega
  · have := J.rsz; omega
  · (try k_extra "gf")
    obtain ⟨v0, lw, rfl, h1, h2, h3⟩ := J.lots
    (try k_extra "gu")
    have old : ∀ v ∈ lw, LotOk rs' GR' K' v := fun v hv => by
      (try k_extra "gf")
      obtain ⟨Tu, i9, t9, ia9, rp9, rfl, b1, b2, b3, b4⟩ := h3 v hv
      (try k_extra "gu")
      have hK' : (i9, ia9) ∈ K' := p1.mem_iff.mpr (List.mem_cons_of_mem _ b2)
      by_cases e : i9 = i
      · subst e
        exact ⟨Tu, i9, t9, ia9, _, rfl, List.mem_append_right _ b1, hK', hE.self rp9 b3, b4⟩
      · exact ⟨Tu, i9, t9, ia9, rp9, rfl, List.mem_append_right _ b1, hK', hE.other i9 rp9 b3 e, b4⟩
    rcases hlv with rfl | ⟨Tl, t', rfl, b1, b2⟩
    · exact ⟨v0, lw, rfl, h1, by omega, old⟩
    · refine ⟨v0, lw ++ [.ref Tl], rfl, by simp, by simp; omega, fun v hv => ?_⟩
      rcases List.mem_append.mp hv with hv | hv
      · exact old v hv
      · rw [List.mem_singleton.mp hv]
        refine ⟨Tl, rs.length, t', ic, rn, rfl, List.mem_append_left _ b1, p1.mem_iff.mpr List.mem_cons_self, hj, ?_⟩
        cases n with
        | el a b => exact hn.1
        | tx x => cases b2
        | cm x => cases b2
        | pi x => cases b2

section
variable {prog : Program} {w : World} {A : Around} {E : Value → Shared → Prop} {s : Shared} {env : Env} {h₀ : Heap} {x : Str} {body : List Stmt} {Q : Flow → Shared → Prop}
def Fix5 (x1 x2 x3 x4 x5 : Str) (v1 v2 v3 v4 v5 : Value) (m : Str → Option Value) : Prop := m x1 = some v1 ∧ m x2 = some v2 ∧ m x3 = some v3 ∧ m x4 = some v4 ∧ m x5 = some v5
theorem Fix5.map {x1 x2 x3 x4 x5 : Str} {v1 v2 v3 v4 v5 : Value} {m : Str → Option Value} (h : Fix5 x1 x2 x3 x4 x5 v1 v2 v3 v4 v5 m) :
    (fun y => if y = x1 then some v1 else if y = x2 then some v2 else if y = x3 then some v3 else if y = x4 then some v4 else if y = x5 then some v5 else m y) = m := by
  (try k_extra "gf")
  obtain ⟨q1, q2, q3, q4, q5⟩ := h
  (try k_extra "gu")
  funext y
  by_cases h1 : y = x1
  · simp [h1, q1]
  by_cases h2 : y = x2
  · subst h2; simp only [if_neg h1, if_true]; exact q2.symm
  by_cases h3 : y = x3
  · subst h3; simp only [if_neg h1, if_neg h2, if_true]; exact q3.symm
  by_cases h4 : y = x4
  · subst h4; simp only [if_neg h1, if_neg h2, if_neg h3, if_true]; exact q4.symm
  by_cases h5 : y = x5
  · subst h5; simp only [if_neg h1, if_neg h2, if_neg h3, if_neg h4, if_true]; exact q5.symm
  simp only [if_neg h1, if_neg h2, if_neg h3, if_neg h4, if_neg h5]
/-- a loop over a range of any length that keeps five names -/
theorem RangeRest_5 {I : Addr} {a : Int} {N : Nat} (x1 x2 x3 x4 x5 : Str) (v1 v2 v3 v4 v5 : Value) (J : Nat → List (Addr × Obj) → Prop)
    (turn : ∀ i (u : Str → Option Value) (t : Tok) nx (it : Obj) h tk, i < N → J i nx → Fr h₀ env.locals h (fun y => if y = x then some (.int (a + (i : Int)) t) else if y = x1 then some v1 else if y = x2 then some v2 else if y = x3 then some v3 else if y = x4 then some v4 else if y = x5 then some v5 else u y) → News h₀ env.locals h ((I, it) :: nx) →
      wpAny (model prog w) A (execs body env) (UnrPost h₀ env.locals { s with heap := h, toks := tk } I it (fun m' n' => Held (Fix5 x1 x2 x3 x4 x5 v1 v2 v3 v4 v5 m' ∧ J (i + 1) n')) Q) E { s with heap := h, toks := tk })
    (done : ∀ (u : Str → Option Value) nx h tk, J N nx → Fr h₀ env.locals h (fun y => if y = x1 then some v1 else if y = x2 then some v2 else if y = x3 then some v3 else if y = x4 then some v4 else if y = x5 then some v5 else u y) → News h₀ env.locals h nx → Q .next { s with heap := h, toks := tk }) :
    ∀ (k i : Nat) (m : Str → Option Value) (nx : List (Addr × Obj)), i + k = N → Fix5 x1 x2 x3 x4 x5 v1 v2 v3 v4 v5 m → J i nx → RangeRest prog w A E h₀ env x body Q s I a N k i m nx := by
  intro k
  induction k with
  | zero =>
    intro i m nx hk hf hJ h tk F N'
    have e : i = N := by omega
    subst e
    exact done m nx h tk hJ (by rw [hf.map]; exact F) N'
  | succ k ih =>
    intro i m nx hk hf hJ t h tk F N'
    refine wpAny_mono (turn i m t nx _ h tk (by omega) hJ ?_ N') (fun f s₂ p => ?_) fun _ _ e => e
    · have e := hf.map
      rw [show (fun y => if y = x then some (Value.int (a + (i : Int)) t) else if y = x1 then some v1 else if y = x2 then some v2 else if y = x3 then some v3 else if y = x4 then some v4 else if y = x5 then some v5 else m y) = fun y => if y = x then some (Value.int (a + (i : Int)) t) else m y from
        funext fun y => congrArg (fun z => if y = x then some (Value.int (a + (i : Int)) t) else z) (congrFun e y)]
      exact F
    · have up : ∀ it, UnrEnd h₀ env.locals { s with heap := h, toks := tk } I it (fun m' n' => Held (Fix5 x1 x2 x3 x4 x5 v1 v2 v3 v4 v5 m' ∧ J (i + 1) n')) s₂ → UnrEnd h₀ env.locals { s with heap := h, toks := tk } I it (RangeRest prog w A E h₀ env x body Q s I a N k (i + 1)) s₂ := by
        intro it zr1
        (try k_extra "gf")
        obtain ⟨h', tk', m', n', e, F', N', off, hf', hJ'⟩ := zr1
        (try k_extra "gu")
        exact ⟨h', tk', m', n', e, F', N', off, ih (i + 1) m' n' (by omega) hf' hJ'⟩
      cases f with
      | ret v => exact p
      | brk => exact p
      | next => exact up _ p
      | cont => exact up _ p
end
theorem reg_LU_1 : True := by
  k_with "call ref" => (((with_reducible show wpAny _ _ (call (Value.ref 213) _) _ _ _); k_here; refine Held.out ?_))
  trivial
inductive RootP (w : World) (tr td R : Addr) (tk0 : Tok) (v : Value) (n' : List (Addr × Obj)) : Prop
  | mk (r : NdR) (tk' : Tok) (h1 : v = .int 0 tk') (h2 : NewRow r (Str.ofString "root") (Str.ofString "") (Str.ofString "") (Str.ofString "") (Str.ofString "") .none) (h3 : n' = treeL w.params tr td tk0 R [r]) (h4 : Dis tr td R [r])
theorem new_root_spec (w : World) (tr td R : Addr) (tk0 : Tok) (h1 : @Ne Nat tr td) (h2 : @Ne Nat tr R) (h3 : @Ne Nat td R) :
    Spec w 227 [.ref tr] 40 80 [(tr, instObj 377 td), (td, dictOf [keyE w.params (Str.ofString "rows") tk0 (.ref R)] 1), (R, listOf (List.toArray []) 0)]
      (RootP w tr td R tk0) := by
  have hz : ([] : List Value).length ≤ 1000 := by decide
  unfold Spec
  k_fill
  intro mean mg mb dp un gd cn cs a ccd cl outer A₀ base h₀ L m s Q E B F X N T hk hd hu hret
  refine wpAny_call ?_
  k_dflt ktr_enter
  k_steps
  unfold Held
  refine' use_all (new_row_spec w tr td R tk0 [] 0 _ _ _ _ _ _ _ _ _ _ _ h2 h3 hz) ?zB ?zF ?zX ?zN ?zT ?zk ?zd ?zu ?_
  (case zB => k_asm); (case zF => k_asm); (case zX => k_asm); (case zN => k_asm); (case zT => k_asm)
  (case zk => first | exact rfl | assumption); (case zd => ktr_room); (case zu => ktr_units)
  intro r9 n9 h9 tk9 F9 N9 G9 p9
  (try k_extra "gf")
  obtain ⟨r, t9, e9, hr, f9, ha⟩ := p9
  (try k_extra "gu")
  subst e9; subst f9
  k_steps
  have hsub : ∀ p ∈ treeL w.params tr td tk0 R [r], p ∈ NdR.cells w.params r ++ [(tr, instObj 377 td), (td, dictOf [keyE w.params (Str.ofString "rows") tk0 (.ref R)] 1), (R, listOf (([] : List Value) ++ [Value.ref r.x]).toArray (0 + 1))] := fun p hp => by
    unfold treeL at hp
    rcases List.mem_cons.mp hp with rfl | hp
    · k_extra "mm"
    rcases List.mem_cons.mp hp with rfl | hp
    · k_extra "mm"
    rcases List.mem_cons.mp hp with rfl | hp
    · k_extra "mm"
    · rw [List.flatMap_cons, List.flatMap_nil, List.append_nil] at hp
      exact List.mem_append_left _ hp
  all_goals refine hret _ (treeL w.params tr td tk0 R [r]) _ _ (by k_asm) (News.less (by k_asm) hsub) (done_end (by assumption) (by assumption) (News.less (by assumption) hsub)) ⟨r, _, rfl, hr, rfl, ?_⟩
  exact dis_iff.mpr ⟨h1, h2, h3, fun q hq a ha' => by
    rw [List.mem_singleton.mp hq] at ha'
    have := ha a ha'
    simp only [List.mem_cons, List.not_mem_nil, or_false, not_or] at this
    exact this, fun q hq => by rw [List.mem_singleton.mp hq]; exact hr.nodup, List.pairwise_singleton _ _⟩

local macro_rules | `(tactic| size_fits) => `(tactic| exact Nat.le_of_ble_eq_true rfl)
theorem OffE.nil {T : List (Addr × Obj)} : OffE [] T := trivial
theorem OffE.cons {a : Addr} {o : Obj} {E T : List (Addr × Obj)} (h : Off a T) (r : OffE E T) : OffE ((a, o) :: E) T := ⟨h, r⟩
theorem TG.top {w : World} {tr td : Addr} {tk : Tok} {R : Addr} {rs : List NdR} {G T : List (Addr × Obj)} (h : TG w tr td tk R rs G T) : (tr, instObj 377 td) ∈ T ∧ (td, dictOf [keyE w.params (Str.ofString "rows") tk (.ref R)] 1) ∈ T :=
  ⟨h.tree _ (by simp [treeL]), h.tree _ (by simp [treeL])⟩
section
variable {w : World} {f : Addr} {vs : List Value} {dm um : Nat} {mean : ExcName → Option Value} {mg mb : Str → Option Value} {dp un : Nat} {gd : Option (List Code)} {cn : Str} {cs : Scope} {a : Addr} {ccd : Value} {cl : List (Str × Addr)} {outer : List Env} {A₀ : Around} {base h₀ : Heap} {L : Addr} {m : Str → Option Value} {s : Shared} {Q Ex : Value → Shared → Prop} {news : List (Addr × Obj)} {tr td R : Addr} {tk : Tok} {rs : List NdR}
/-- one child more -/
theorem use_add {i : Nat} {k : Int} {tp : Tok} {kind name uri loc value : Str} {G T E : List (Addr × Obj)}
    (S : Spec w f vs dm um (treeL w.params tr td tk R rs) (AddP w tr td R tk rs i kind name uri loc value (.int k tp)))
    (B : Below A₀ base outer h₀) (F : Fr h₀ L s.heap m) (X : (T0.heap_1 w.params).In h₀) (N : News h₀ L s.heap news) (Tp : Top V0 (looseW V0 [Str.ofString "write"]) mean mg mb h₀)
    (hk : cs.kind = .function) (hd : dp + dm < recursionLimit) (hu : un + um < cLine) (hP : Pre E T news) (hT : TG w tr td tk R rs G T) (hE : OffE E T)
    (ret : ∀ t' r T' h' tk', Fr h₀ L h' m → News h₀ L h' (E ++ T') → TG w tr td tk R (addTo rs i (.int rs.length t') r) G T' → OffE E T' → NewRow r kind name uri loc value (.int k tp) → Q (.int rs.length t') { s with heap := h', toks := tk' }) :
    wpAny (model PySem.Challenge.rw_on0191_01.row.toRowW.prog w) (ktrTop dp un gd cn cs L a ccd cl outer) (call (.ref f) vs) Q Ex s :=
  use_tree (p := fun v rs' => ∃ r t', v = .int rs.length t' ∧ rs' = addTo rs i (.int rs.length t') r ∧ NewRow r kind name uri loc value (.int k tp)) S (fun v n' ⟨r, tk', e, hr, en, hD⟩ => ⟨_, en, hD, r, tk', e, rfl, hr⟩) B F X N Tp hk hd hu hP hT hE
    fun v rs' T' h' tk' F' N' hT' hE' ⟨r, t', e1, e2, hr⟩ => by subst e1; subst e2; exact ret t' r T' h' tk' F' N' hT' hE' hr
/-- one attribute more -/
theorem use_set {i : Nat} {k : Int} {tp : Tok} {name uri loc value : Str} {G T E : List (Addr × Obj)}
    (S : Spec w f vs dm um (treeL w.params tr td tk R rs) (fun _ n' => SetP w tr td R tk rs i name uri loc value (.int k tp) n'))
    (B : Below A₀ base outer h₀) (F : Fr h₀ L s.heap m) (X : (T0.heap_1 w.params).In h₀) (N : News h₀ L s.heap news) (Tp : Top V0 (looseW V0 [Str.ofString "write"]) mean mg mb h₀)
    (hk : cs.kind = .function) (hd : dp + dm < recursionLimit) (hu : un + um < cLine) (hP : Pre E T news) (hT : TG w tr td tk R rs G T) (hE : OffE E T)
    (ret : ∀ v t' r T' h' tk', Fr h₀ L h' m → News h₀ L h' (E ++ T') → TG w tr td tk R (setTo rs i (.int rs.length t') r) G T' → OffE E T' → NewRow r (Str.ofString "attribute") name uri loc value (.int k tp) → Q v { s with heap := h', toks := tk' }) :
    wpAny (model PySem.Challenge.rw_on0191_01.row.toRowW.prog w) (ktrTop dp un gd cn cs L a ccd cl outer) (call (.ref f) vs) Q Ex s :=
  use_tree (p := fun _ rs' => ∃ r t', rs' = setTo rs i (.int rs.length t') r ∧ NewRow r (Str.ofString "attribute") name uri loc value (.int k tp)) S (fun v n' ⟨r, tk', hr, en, hD⟩ => ⟨_, en, hD, r, tk', rfl, hr⟩) B F X N Tp hk hd hu hP hT hE
    fun v rs' T' h' tk' F' N' hT' hE' ⟨r, t', e2, hr⟩ => by subst e2; exact ret v t' r T' h' tk' F' N' hT' hE' hr
end
theorem tg_init {w : World} {tr td R S : Addr} {tk : Tok} {rs : List NdR} {o : Obj} {h₀ h : Heap} {L : Addr} (hD : Dis tr td R rs) (N : News h₀ L h (treeL w.params tr td tk R rs ++ [(S, o)])) (O : ∀ p ∈ [(S, o)], ∀ q ∈ treeL w.params tr td tk R rs, p.1 ≠ q.1) :
    ∃ T, TG w tr td tk R rs [] T ∧ News h₀ L h ((S, o) :: T) ∧ Off S T :=
  ⟨treeL w.params tr td tk R rs, ⟨by simp, hD, fun _ h => nomatch h⟩, Mine.News.less N (fun p hp => by
    rcases List.mem_cons.mp hp with rfl | hp
    · exact List.mem_append_right _ List.mem_cons_self
    · exact List.mem_append_left _ hp), fun q hq => (O _ List.mem_cons_self q hq).symm⟩
theorem reg_LV_1 : True := by
  k_with "call ref" => (((with_reducible show wpAny _ _ (call (Value.ref 227) _) _ _ _); k_here; refine Held.out ?_))
  trivial
theorem reg_LV_2 : True := by
  k_with "call ref" => (((with_reducible show wpAny _ _ (call (Value.ref 241) _) _ _ _); k_here; refine Held.out ?_))
  trivial
theorem reg_LV_3 : True := by
  k_with "call ref" => (((with_reducible show wpAny _ _ (call (Value.ref 248) _) _ _ _); k_here; refine Held.out ?_))
  trivial
theorem reg_LV_4 : True := by
  k_with "call ref" => (((with_reducible show wpAny _ _ (call (Value.ref 255) _) _ _ _); k_here; refine Held.out ?_))
  trivial
theorem reg_LV_5 : True := by
  k_with "call ref" => (((with_reducible show wpAny _ _ (call (Value.ref 262) _) _ _ _); k_here; refine Held.out ?_))
  trivial
theorem reg_LV_6 : True := by
  k_with "call ref" => (((with_reducible show wpAny _ _ (call (Value.ref 276) _) _ _ _); k_here; refine Held.out ?_))
  trivial
inductive ResP (w : World) (S : Addr) (v : Value) (n' : List (Addr × Obj)) : Prop
  | mk (Tt tr rl : Addr) (t0 : Tok) (o' : Obj) (G : List (Addr × Obj)) (rs : List NdR) (r : NdR) (f : Fo) (ks : List Value) (kc : Nat) (h1 : v = .ref Tt) (h2 : n' = (S, o') :: G) (h3 : Off S G) (h4 : Src o') (h5 : (Tt, tupO [.ref tr, .int 0 t0, .ref rl]) ∈ G) (h6 : TreeIn w.params G tr rs) (h7 : rs.length ≤ 1000) (h8 : rs[0]? = some r) (h9 : r.kind = Str.ofString "root") (h10 : RepT rs r.chv f) (h11 : (rl, listOf (List.toArray ks) kc) ∈ G) (h12 : RepL G ks f) (h13 : f.Ok) (h14 : f.size ≤ 20)
theorem Off.all {a : Addr} {l : List (Addr × Obj)} (h : Off a l) : ∀ p ∈ l, p.1 ≠ a := h
theorem Off.all' {a : Nat} {l : List (Addr × Obj)} (h : Off a l) : ∀ p ∈ l, (@Ne Nat p.1 a) := h
local macro_rules | `(tactic| k_all) => `(tactic| (refine Off.all ?_; with_reducible assumption))
section
variable {w : World} {mean : ExcName → Option Value} {mg mb : Str → Option Value} {dp un : Nat} {gd : Option (List Code)} {cn : Str} {cs : Scope} {a : Addr} {ccd : Value} {cl : List (Str × Addr)} {outer : List Env} {A₀ : Around} {base h₀ : Heap} {L : Addr} {m : Str → Option Value} {s : Shared} {Q E : Value → Shared → Prop} {news r1 rest : List (Addr × Obj)}
theorem use_one {S D : Addr} {o : Obj} {vals : List Value} {c : Nat} (B : Below A₀ base outer h₀) (F : Fr h₀ L s.heap m) (X : (T0.heap_1 w.params).In h₀) (N : News h₀ L s.heap news) (T : Top V0 (looseW V0 [Str.ofString "write"]) mean mg mb h₀)
    (hk : cs.kind = .function) (hp : Split (S, o) news r1) (hq : Split (D, listOf (List.toArray vals) c) r1 rest) (hs : Src o) (hne : @Ne Nat S D) (h1 : 0 < (vals.length : Int)) (h2 : (vals.length : Int) < 1000) (hoff : Off S rest) (hofd : Off D rest) (hd : dp + 30 < recursionLimit) (hu : un + 60 < cLine)
    (ret : ∀ v o' h' tk', v ∈ vals → Src o' → Fr h₀ L h' m → News h₀ L h' ((S, o') :: rest) → Q v { s with heap := h', toks := tk' }) :
    wpAny (model PySem.Challenge.rw_on0191_01.row.toRowW.prog w) (ktrTop dp un gd cn cs L a ccd cl outer) (call (.ref 402) [.ref S, .ref D]) Q E s :=
  use_part (rest := rest) (law_one_spec w S D o vals c hs hne h1 h2) B F X N T hk (fun p hp' => by
      rcases List.mem_cons.mp hp' with rfl | hp'
      · exact hp.mem
      · rw [List.mem_singleton.mp hp']; exact hp.sub _ hq.mem) (fun p hp' => hp.sub _ (hq.sub _ hp')) (fun p hp' hm => by
      simp only [List.map_cons, List.map_nil, List.mem_cons, List.not_mem_nil, or_false] at hm
      rcases hm with hm | hm
      · exact hoff p hp' hm
      · exact hofd p hp' hm) hd hu
    fun r n' h' tk' F' N' _ p => by
      (try k_extra "gf")
      obtain ⟨o', hv, rfl, hs'⟩ := p
      (try k_extra "gu")
      exact ret r o' h' tk' hv hs' F' (Mine.News.less N' fun q hq => by
        rcases List.mem_cons.mp hq with rfl | hq
        · exact List.mem_cons_self
        · exact List.mem_append_right _ hq)
end
theorem reg_LV_7 : True := by
  k_with "call ref" => (((with_reducible show wpAny _ _ (call (Value.ref 395) _) _ _ _); k_here; first | (k_dflt (refine' use_take ?zqB ?zqF ?zqX ?zqN ?zqT ?zqk ?zqp ?zqhs ?zqht ?zqht2 ?zqo ?zqd ?zqu ?_; (case zqB => k_asm); (case zqF => k_asm); (case zqX => k_asm); (case zqN => k_asm); (case zqT => k_asm); (case zqp => with_reducible repeat (first | exact Split.head _ | apply Split.tail)); (case zqhs => assumption); (case zqht => first | decide | assumption | omega); (case zqht2 => first | decide | assumption | omega); (case zqo => repeat (first | exact Off.nil | assumption | refine Off.cons (by first | assumption | omega) ?_)); (case zqk => first | exact rfl | assumption); (case zqd => ktr_room); (case zqu => ktr_units); k_whole); intro km9 tm9 om9 hm9 tkm9 hsm9 hk0 hk1 Fm9 Nm9; (try k_sweep); (try dsimp only)) | refine Held.out ?_))
  trivial
theorem reg_LV_8 : True := by
  k_with "call ref" => (((with_reducible show wpAny _ _ (call (Value.ref 402) _) _ _ _); k_here; first | (k_dflt (refine' use_one ?zqB ?zqF ?zqX ?zqN ?zqT ?zqk ?zqp ?zqq ?zqhs ?zqne ?zqh1 ?zqh2 ?zqo ?zqod ?zqd ?zqu ?_; (case zqB => k_asm); (case zqF => k_asm); (case zqX => k_asm); (case zqN => k_asm); (case zqT => k_asm); (case zqp => with_reducible repeat (first | exact Split.head _ | apply Split.tail)); (case zqq => with_reducible repeat (first | exact Split.head _ | apply Split.tail)); (case zqhs => assumption); (case zqne => first | assumption | omega); (case zqh1 => (simp only [List.length_cons, List.length_nil]; omega)); (case zqh2 => (simp only [List.length_cons, List.length_nil]; omega)); (case zqo => repeat (first | exact Off.nil | assumption | refine Off.cons (by first | assumption | omega) ?_)); (case zqod => repeat (first | exact Off.nil | first | assumption | exact Off.ofLt (by assumption) | exact Off.ofLt (by tbn_find) | refine Off.cons (by first | assumption | omega) ?_)); (case zqk => first | exact rfl | assumption); (case zqd => ktr_room); (case zqu => ktr_units); k_whole); intro vm9 om9 hm9 tkm9 hvm9 hsm9 Fm9 Nm9; (try k_sweep); (try dsimp only)) | refine Held.out ?_))
  trivial
theorem reg_LV_9 : True := by
  k_with "call type:range" => (((with_reducible show wpAny _ _ (call (Value.type _) [_]) _ _ _); k_here; refine Held.out ?_))
  trivial
theorem reg_LV_10 : True := by
  k_with "subscriptTail Name BinOp ref int" => ((k_here; refine Held.out ?_))
  trivial
theorem reg_LV_11 : True := by
  k_with "compareOp Eq ref ref" => ((k_here; refine Held.out ?_))
  trivial
theorem reg_LV_12 : True := by
  k_with "UnrEnd" => ((k_here; refine Held.out ?_))
  trivial
section
variable {prog : Program} {w : World} {A : Around} {E : Value → Shared → Prop} {s : Shared} {h₀ : Heap} {L : Addr} {news : List (Addr × Obj)} {Q : Value → Shared → Prop}
theorem item_last {value slice : PySem.Expr} {l : Addr} {its : Array Value} {n : Nat} {u : Tok} {y : Value} (N : News h₀ L s.heap news) (hm : (l, listOf its n) ∈ news) (h0 : 0 < its.size) (hx : its[its.size - 1]? = some y) (h : Q y s)
    (hsb : subscripted slice false (.ref l) (.int (-1) u) = operate [.ref l, .int (-1) u] (getItem (.ref l) (.int (-1) u)) := by with_unfolding_all rfl) :
    wpAny (model prog w) A (subscriptTail value slice (.ref l) (.int (-1) u)) Q E s := by
  have hl : s.heap.IsList l its := ⟨_, (N _ hm).1, rfl, n, rfl⟩
  refine tail_any hl.typeIs slot_list_getitem.lookup (wpAny_getItem_list_neg hl (by decide) (by omega) (by decide) ?_ h) hsb
  rw [show ((-1 : Int) + (its.size : Int)).toNat = its.size - 1 by omega]; exact hx
end
theorem last_push {a : Array Value} {y : Value} : (a.push y)[(a.push y).size - 1]? = some y := by simp
theorem last_snoc {a : List Value} {y : Value} : (List.toArray (a ++ [y]))[(List.toArray (a ++ [y])).size - 1]? = some y := by simp
theorem reg_LV_13 : True := by
  k_with "subscriptTail Name UnaryOp ref int" => ((k_here; k_dflt (refine' item_last ?zqN ?zqm ?zqh0 ?zqx ?_; (case zqN => k_asm); (case zqm => k_mem); (case zqx => first | exact last_push | exact last_snoc); (case zqh0 => first | (simp only [Array.size_push]; omega) | (simp only [List.size_toArray, List.length_append, List.length_cons, List.length_nil]; omega)); k_whole)))
  trivial
theorem reg_LV_14 : True := by
  k_with "subscriptTail Subscript" => (((with_reducible show wpAny _ _ (subscriptTail _ _ (Value.ref _) (Value.int 1 _)) _ _ _); k_here; k_dflt (refine' item_N ?zqN ?zqm ?zqx ?zqk ?zqz ?_; (case zqk => exact (rfl : (1 : Int) = ((1 : Nat) : Int))); (case zqN => k_asm); (case zqm => k_mem); (case zqx => exact nth1); (case zqz => exact Nat.le_of_ble_eq_true rfl); k_whole)))
  trivial
theorem reg_LV_15 : True := by
  k_with "subscriptTail Subscript" => (((with_reducible show wpAny _ _ (subscriptTail _ _ (Value.ref _) (Value.int 5 _)) _ _ _); k_here; k_dflt (refine' item_N ?zqN ?zqm ?zqx ?zqk ?zqz ?_; (case zqk => exact (rfl : (5 : Int) = ((5 : Nat) : Int))); (case zqN => k_asm); (case zqm => k_mem); (case zqx => exact nth5); (case zqz => exact Nat.le_of_ble_eq_true rfl); k_whole)))
  trivial
theorem reg_LV_16 : True := by
  k_with "subscriptTail List" => ((k_here; refine Held.out ?_))
  trivial
theorem UnrEnd.split {h₀ : Heap} {L I : Addr} {it : Obj} {rest : (Str → Option Value) → List (Addr × Obj) → Prop} {s₁ : Shared} {h' : Heap} {tk : Nat} {m' : Str → Option Value} {all news : List (Addr × Obj)} (F : Fr h₀ L h' m') (N : News h₀ L h' all)
    (hp : Split (I, it) all news) (off : Off I news) (r : rest m' news) : UnrEnd h₀ L s₁ I it rest { s₁ with heap := h', toks := tk } :=
  ⟨h', tk, m', news, rfl, F, fun p q => by
    rcases List.mem_cons.mp q with rfl | q
    · exact N _ hp.mem
    · exact N _ (hp.sub _ q), off, r⟩
theorem reg_LV_17 : True := by
  k_with "UnrEnd" => ((k_here; first | (k_dflt (refine UnrEnd.split (by assumption) (by assumption) (by with_reducible repeat (first | exact Split.head _ | apply Split.tail)) (by repeat (first | exact Off.nil | first | assumption | exact Off.ofLt (by assumption) | exact Off.ofLt (by tbn_find) | refine Off.cons (by first | assumption | omega) ?_)) ⟨by k_mem, ?_⟩)) | refine Held.out ?_))
  trivial
theorem three_cases {k : Int} (h0 : 0 ≤ k) (h1 : k < 3) : k = 0 ∨ k = 1 ∨ k = 2 := by omega
theorem reg_LV_18 : True := by
  k_with "exec For Name Subscript cons nil" => ((k_here; (with_reducible show wpAny _ _ (exec (Stmt.For _ _ _ [] _) _) _ _ _); (rename Fr _ _ _ _ => lF'); (with_unfolding_all refine' For_invVF lF' ?zqk1 ?zqk2 ?_; (case zqk1 => exact rfl); (case zqk2 => exact rfl); k_whole)))
  trivial
theorem reg_LV_19 : True := by
  k_with "pyIter ref" => (((with_reducible show wpAny _ _ (pyIter (Value.ref _)) (fun it s₂ => LoopAtV _ _ _ _ _ _ _ _ _ it s₂) _ _); k_dflt ((refine' iter_listUnr ?zqhh ?zqF ?zqN ?zqhm ?zqhc ?zqhd ?_; (case zqhh => exact rfl); (case zqF => k_asm); (case zqN => k_asm); (case zqhm => k_mem); (case zqhc => exact rfl); (case zqhd => exact rfl)); intro im9 lm9; k_lt lm9)))
  trivial
theorem reg_LV_20 : True := by
  k_with "pyIter ref" => (((with_reducible show wpAny _ _ (pyIter (Value.ref _)) (fun it s₂ => LoopAtV _ _ _ _ _ _ _ _ _ it s₂) _ _); (rename IsRange _ _ _ _ _ _ _ _ => hRm9); k_here; refine Held.out ?_))
  trivial
theorem Held.mk {P : Prop} (h : P) : Held P := h

inductive LJ (w : World) (S la rl tr td R I : Addr) (tk : Tok) (i : Nat) (nx : List (Addr × Obj)) : Prop
  | mk (o : Obj) (lv : List Value) (lc : Nat) (T : List (Addr × Obj)) (rs : List NdR) (GI GR : List (Addr × Obj)) (r : NdR) (f : Fo) (K : List (Nat × Addr)) (ks : List Value) (rc : Nat) (h1 : nx = (S, o) :: (la, listOf (List.toArray lv) lc) :: T) (h2 : LJx w S la rl tr td R I tk i o lv T rs GI GR r f K ks rc)
inductive TurnP (w : World) (S la rl tr td R I : Addr) (tk : Tok) (i : Nat) (it : Obj) (h₀ : Heap) (L : Addr) (h : Heap) : Prop
  | mk (nx : List (Addr × Obj)) (h1 : News h₀ L h ((I, it) :: nx)) (h2 : (∀ p ∈ nx, p.1 ≠ I)) (h3 : LJ w S la rl tr td R I tk i nx)
theorem LJ.init {w : World} {S rl T0a la pa0 ia0 l0 Ta pa1 ia1 l1 tr td R : Addr} {tk t9 tA tB t1 t2 t3 t4 t5 t6 : Tok} {o : Obj} {r rA rB : NdR} {TB : List (Addr × Obj)} {h₀ h : Heap} {L : Addr} {a b : Int} {pA pB nv : Value}
    (ha : a = ((1 : Nat) : Int)) (hb : b = ((2 : Nat) : Int))
    (hr : NewRow r (Str.ofString "root") (Str.ofString "") (Str.ofString "") (Str.ofString "") (Str.ofString "") .none) (qA : NewRow rA (Str.ofString "element") (Str.ofString "r") (Str.ofString "") (Str.ofString "r") (Str.ofString "") pA)
    (qB : NewRow rB (Str.ofString "text") (Str.ofString "") (Str.ofString "") (Str.ofString "") (Str.ofString "a<b") pB)
    (G : TG w tr td tk R (addTo (addTo [r] 0 (.int a tA) rA) 1 (.int b tB) rB) [] TB) (hs : Src o)
    (N : News h₀ L h ((S, o) :: (l1, listOf (List.toArray [nv, .str (Str.ofString "text") t1, .str (Str.ofString "") t2, .str (Str.ofString "a<b") t3, .ref pa1, .ref ia1]) 0) :: (ia1, listOf (List.toArray []) 0) :: (pa1, listOf (List.toArray []) 0) ::
      (Ta, tupO [.int a tA, .ref ia0]) :: (l0, listOf (List.toArray [.int a tA, .str (Str.ofString "element") t4, .str (Str.ofString "r") t5, .str (Str.ofString "") t6, .ref pa0, .ref ia0]) 0) :: (ia0, listOf (List.toArray [.ref l1]) 1) :: (pa0, listOf (List.toArray []) 0) ::
      (la, listOf (List.toArray [.ref T0a, .ref Ta]) 1) :: (T0a, tupO [.int 0 t9, .ref rl]) :: (rl, listOf (List.toArray [.ref l0]) 1) :: TB))
    (hlt : (@LT.lt Nat _ S rl) ∧ (@LT.lt Nat _ rl la) ∧ (@LT.lt Nat _ la pa0) ∧ (@LT.lt Nat _ pa0 ia0) ∧ (@LT.lt Nat _ ia0 l0) ∧ (@LT.lt Nat _ l0 Ta) ∧ (@LT.lt Nat _ Ta pa1) ∧ (@LT.lt Nat _ pa1 ia1) ∧ (@LT.lt Nat _ ia1 l1))
    (oS : Off S TB) (ola : Off la TB) (orl : Off rl TB) (opa0 : Off pa0 TB) (oia0 : Off ia0 TB) (ol0 : Off l0 TB) (oTa : Off Ta TB) (opa1 : Off pa1 TB) (oia1 : Off ia1 TB) (ol1 : Off l1 TB) :
    ∃ T2, News h₀ L h ((S, o) :: (la, listOf (List.toArray [.ref T0a, .ref Ta]) 1) :: T2) ∧ ∀ I, (∀ p ∈ ((S, o) :: (la, listOf (List.toArray [.ref T0a, .ref Ta]) 1) :: T2), p.1 < I) → LJ w S la rl tr td R I tk 0 ((S, o) :: (la, listOf (List.toArray [.ref T0a, .ref Ta]) 1) :: T2) := by
  subst ha; subst hb
  (try k_extra "gf")
  obtain ⟨c1, c2, c3, c4, c5, c6, c7, c8, c9⟩ := hlt
  (try k_extra "gu")
  have d2 : @LT.lt Nat _ S la := Nat.lt_trans c1 c2
  have d3 : @LT.lt Nat _ S pa0 := Nat.lt_trans d2 c3
  have d4 : @LT.lt Nat _ S ia0 := Nat.lt_trans d3 c4
  have d5 : @LT.lt Nat _ S l0 := Nat.lt_trans d4 c5
  have d6 : @LT.lt Nat _ S Ta := Nat.lt_trans d5 c6
  have d7 : @LT.lt Nat _ S pa1 := Nat.lt_trans d6 c7
  have d8 : @LT.lt Nat _ S ia1 := Nat.lt_trans d7 c8
  have d9 : @LT.lt Nat _ S l1 := Nat.lt_trans d8 c9
  have f4 : @LT.lt Nat _ la ia0 := Nat.lt_trans c3 c4
  have f5 : @LT.lt Nat _ la l0 := Nat.lt_trans f4 c5
  have f6 : @LT.lt Nat _ la Ta := Nat.lt_trans f5 c6
  have f7 : @LT.lt Nat _ la pa1 := Nat.lt_trans f6 c7
  have f8 : @LT.lt Nat _ la ia1 := Nat.lt_trans f7 c8
  have f9 : @LT.lt Nat _ la l1 := Nat.lt_trans f8 c9
  have g6 : @LT.lt Nat _ ia0 Ta := Nat.lt_trans c5 c6
  have g7 : @LT.lt Nat _ ia0 pa1 := Nat.lt_trans g6 c7
  have g8 : @LT.lt Nat _ ia0 ia1 := Nat.lt_trans g7 c8
  have g9 : @LT.lt Nat _ ia0 l1 := Nat.lt_trans g8 c9
  have k1 : @LT.lt Nat _ rl ia0 := Nat.lt_trans c2 f4
  have k2 : @LT.lt Nat _ rl ia1 := Nat.lt_trans c2 f8
  have k3 : @LT.lt Nat _ pa0 ia1 := Nat.lt_trans c4 g8
  have k4 : @LT.lt Nat _ l0 ia1 := Nat.lt_trans c6 (Nat.lt_trans c7 c8)
  have k5 : @LT.lt Nat _ Ta ia1 := Nat.lt_trans c7 c8
  let GI : List (Addr × Obj) := [(ia0, listOf (List.toArray [.ref l1]) 1), (ia1, listOf (List.toArray []) 0)]
  let GR : List (Addr × Obj) := [(rl, listOf (List.toArray [.ref l0]) 1), (l0, listOf (List.toArray [.int ((1 : Nat) : Int) tA, .str (Str.ofString "element") t4, .str (Str.ofString "r") t5, .str (Str.ofString "") t6, .ref pa0, .ref ia0]) 0), (pa0, listOf (List.toArray []) 0),
    (l1, listOf (List.toArray [nv, .str (Str.ofString "text") t1, .str (Str.ofString "") t2, .str (Str.ofString "a<b") t3, .ref pa1, .ref ia1]) 0), (pa1, listOf (List.toArray []) 0), (Ta, tupO [.int ((1 : Nat) : Int) tA, .ref ia0])]
  have hcase : ∀ p ∈ GI ++ GR, p = (ia0, listOf (List.toArray [.ref l1]) 1) ∨ p = (ia1, listOf (List.toArray []) 0) ∨ p = (rl, listOf (List.toArray [.ref l0]) 1) ∨ p = (l0, listOf (List.toArray [.int ((1 : Nat) : Int) tA, .str (Str.ofString "element") t4, .str (Str.ofString "r") t5, .str (Str.ofString "") t6, .ref pa0, .ref ia0]) 0) ∨ p = (pa0, listOf (List.toArray []) 0) ∨
      p = (l1, listOf (List.toArray [nv, .str (Str.ofString "text") t1, .str (Str.ofString "") t2, .str (Str.ofString "a<b") t3, .ref pa1, .ref ia1]) 0) ∨ p = (pa1, listOf (List.toArray []) 0) ∨ p = (Ta, tupO [.int ((1 : Nat) : Int) tA, .ref ia0]) := fun p hp => by
    simpa [GI, GR] using hp
  have hoff : ∀ p ∈ GI ++ GR, Off p.1 TB := fun p hp => by
    rcases hcase p hp with rfl | rfl | rfl | rfl | rfl | rfl | rfl | rfl <;> assumption
  have hneS : ∀ p ∈ GI ++ GR, (@Ne Nat p.1 S) ∧ (@Ne Nat p.1 la) := fun p hp => by
    rcases hcase p hp with rfl | rfl | rfl | rfl | rfl | rfl | rfl | rfl <;> exact ⟨by dsimp only; k_extra "my ord", by dsimp only; k_extra "my ord"⟩
  let rs := addTo (addTo [r] 0 (.int ((1 : Nat) : Int) tA) rA) 1 (.int ((2 : Nat) : Int) tB) rB
  have hT2 : ∀ p ∈ treeL w.params tr td tk R rs ++ (GI ++ GR), p ∈ TB ∨ p ∈ GI ++ GR := fun p hp => by
    rcases List.mem_append.mp hp with hp | hp
    · exact .inl (G.tree p hp)
    · exact .inr hp
  have e0 : rs[0]? = some (kidTo (.int ((1 : Nat) : Int) tA) r) := rfl
  have e1 : rs[1]? = some (kidTo (.int ((2 : Nat) : Int) tB) rA) := rfl
  have e2 : rs[2]? = some rB := rfl
  refine ⟨treeL w.params tr td tk R rs ++ (GI ++ GR), Mine.News.less N fun p hp => ?_, fun I hI => ⟨o, [.ref T0a, .ref Ta], 1, treeL w.params tr td tk R rs ++ (GI ++ GR), rs, GI, GR, kidTo (.int ((1 : Nat) : Int) tA) r, .cons (.el (Str.ofString "r") []) (.cons (.tx (Str.ofString "a<b")) .nil .nil) .nil, [(1, ia0), (2, ia1)], [.ref l0], 1, rfl, ?_⟩⟩
  · rcases List.mem_cons.mp hp with rfl | hp
    · k_extra "mm"
    rcases List.mem_cons.mp hp with rfl | hp
    · k_extra "mm"
    rcases hT2 p hp with hp | hp
    · k_extra "mm"
    · rcases hcase p hp with rfl | rfl | rfl | rfl | rfl | rfl | rfl | rfl <;> k_extra "mm"
  · have hIT : ∀ p ∈ treeL w.params tr td tk R rs ++ (GI ++ GR), @LT.lt Nat _ p.1 I := fun p hp => hI p (List.mem_cons_of_mem _ (List.mem_cons_of_mem _ hp))
    have hSI : @LT.lt Nat _ S I := hI _ List.mem_cons_self
    have hlaI : @LT.lt Nat _ la I := hI (la, _) (List.mem_cons_of_mem _ List.mem_cons_self)
    refine ⟨⟨rfl, G.dis, fun p hp => adr_off (w := w) (tk := tk) fun q hq => hoff p hp q (G.tree q hq)⟩, hs, by omega, by omega, by omega, fun p hp => ?_, fun p hp => ?_, fun p hp => Nat.ne_of_lt (hIT p hp), ?_, e0, hr.kind, ?_, List.mem_cons_self, by simp, by simp, ?_, ?_, Nat.le_refl _, Nat.le_of_ble_eq_true rfl, Nat.zero_le _, ?_⟩
    · rcases hT2 p hp with hp | hp
      · exact oS p hp
      · exact (hneS p hp).1
    · rcases hT2 p hp with hp | hp
      · exact ola p hp
      · exact (hneS p hp).2
    · intro p hp q hq
      have hq' := hcase q (List.mem_append_right _ hq)
      have hp' : p = (ia0, listOf (List.toArray [.ref l1]) 1) ∨ p = (ia1, listOf (List.toArray []) 0) := by simpa [GI] using hp
      simp only [GR, List.mem_cons, List.not_mem_nil, or_false] at hq
      rcases hp' with rfl | rfl <;> rcases hq with rfl | rfl | rfl | rfl | rfl | rfl <;> (dsimp only; first | exact Nat.ne_of_lt (by with_reducible assumption) | exact Nat.ne_of_gt (by with_reducible assumption))
    · refine ⟨1, tA, kidTo (.int ((2 : Nat) : Int) tB) rA, [], .ref l0, [], ia0, [.ref l1], 1, [(2, ia1)], [], ?_, rfl, e1, ⟨qA.kind, qA.name, qA.uri, ?_⟩, ⟨l0, _, _, _, _, _, _, _, pa0, [], 0, rfl, List.mem_cons_of_mem _ List.mem_cons_self, ⟨rfl, rfl, rfl⟩, List.mem_cons_of_mem _ (List.mem_cons_of_mem _ List.mem_cons_self), rfl⟩, List.mem_cons_self, ?_, ⟨rfl, rfl, rfl⟩, rfl⟩
      · show r.chv ++ _ = _
        rw [hr.chv]; rfl
      · exact qA.atv
      · refine ⟨2, tB, rB, [], .ref l1, [], ia1, [], 0, [], [], ?_, rfl, e2, ⟨qB.kind, qB.value⟩, ⟨l1, nv, Str.ofString "text", Str.ofString "", Str.ofString "a<b", t1, t2, t3, pa1, [], 0, rfl, ?_, ⟨rfl, rfl, rfl⟩, ?_, rfl⟩, List.mem_cons_of_mem _ List.mem_cons_self, ⟨qB.chv, rfl, rfl⟩, ⟨rfl, rfl, rfl⟩, rfl⟩
        · show rA.chv ++ _ = _
          rw [qA.chv]; rfl
        · k_extra "mm"
        · k_extra "mm"
    · simp only [List.map_cons, List.map_nil, List.nodup_cons, List.mem_cons, List.not_mem_nil, or_false, not_false_eq_true, List.nodup_nil, and_true]
      exact fun e => by have e' : @Eq Nat ia0 ia1 := e; omega
    · exact ⟨⟨by decide +kernel, by decide, fun _ h => nomatch h⟩, (fun h => nomatch h), ⟨(by decide +kernel : Str.ofString "a<b" ∈ txL), fun _ => rfl, trivial, trivial⟩, trivial⟩
    · refine ⟨.ref T0a, [.ref Ta], rfl, by simp, Nat.le_refl _, fun v hv => ?_⟩
      rw [List.mem_singleton.mp hv]
      exact ⟨Ta, 1, tA, ia0, _, rfl, by k_extra "mm", List.mem_cons_self, e1, qA.kind⟩
theorem addTo_ext {rs : List NdR} {i : Nat} {v : Value} {r rp : NdR} (hi : rs[i]? = some rp) : Ext rs (addTo rs i v r) i v ∧ (addTo rs i v r)[rs.length]? = some r ∧ (addTo rs i v r).length = rs.length + 1 := by
  have hlen : (rs.modify i (kidTo v)).length = rs.length := by simp
  refine ⟨⟨fun j row hj hne => ?_, fun row hr => ?_⟩, ?_, by simp [addTo]⟩
  · have := getElem?_lt hj
    rw [addTo, List.getElem?_append_left (by omega), List.getElem?_modify, hj]
    simp [Ne.symm hne]
  · have := getElem?_lt hr
    rw [addTo, List.getElem?_append_left (by omega), List.getElem?_modify, hr]
    simp
  · rw [addTo, List.getElem?_append_right (by omega), hlen]; simp
theorem setTo_ext {rs : List NdR} {i : Nat} {v : Value} {r rp : NdR} (hi : rs[i]? = some rp) : (∀ (j : Nat) row, rs[j]? = some row → j ≠ i → (setTo rs i v r)[j]? = some row) ∧ (setTo rs i v r)[i]? = some (attTo v rp) ∧ (setTo rs i v r)[rs.length]? = some r ∧ (setTo rs i v r).length = rs.length + 1 := by
  have hlen : (rs.modify i (attTo v)).length = rs.length := by simp
  refine ⟨fun j row hj hne => ?_, ?_, ?_, by simp [setTo]⟩
  · have := getElem?_lt hj
    rw [setTo, List.getElem?_append_left (by omega), List.getElem?_modify, hj]
    simp [Ne.symm hne]
  · have := getElem?_lt hi
    rw [setTo, List.getElem?_append_left (by omega), List.getElem?_modify, hi]
    simp
  · rw [setTo, List.getElem?_append_right (by omega), hlen]; simp
/-- a turn's end -/
theorem LJ.next {w : World} {S la rl tr td R I : Addr} {tk : Tok} {m : Nat} {o o' : Obj} {lv lv' : List Value} {T : List (Addr × Obj)} {rs rs' : List NdR} {GI GR : List (Addr × Obj)} {r : NdR} {f : Fo} {K : List (Nat × Addr)} {ks : List Value} {rc : Nat}
    (J : LJx w S la rl tr td R I tk m o lv T rs GI GR r f K ks rc) {i : Nat} {ia ic : Addr} {rp rn : NdR} {ks1 : List Value} {kc1 kc2 lc' : Nat} {T' NR all : List (Addr × Obj)} {u : Value} {n : Nd} {t : Tok} {h₀ h : Heap} {L : Addr} {it : Obj}
    (hK : (i, ia) ∈ K) (hip : rs[i]? = some rp) (hkp : rp.kind = Str.ofString "element") (hia : (ia, listOf (List.toArray ks1) kc1) ∈ GI) (huniq : ∀ ks kc, (ia, listOf (List.toArray ks) kc) ∈ GI → ks = ks1)
    (hE : Ext rs rs' i (.int (rs.length : Int) t)) (hj : rs'[rs.length]? = some rn) (hn : NodeIs rs' rn n) (hc : rn.chv = []) (hnok : n.Ok) (hlen : rs'.length ≤ rs.length + 3) (hm : m + 1 ≤ 10)
    (tg : TG w tr td tk R rs' (GXof ia GI GR) T') (hNR : ∀ p ∈ NR, Off p.1 T' ∧ (@Ne Nat p.1 ia) ∧ (@Ne Nat p.1 ic) ∧ (@Ne Nat p.1 S) ∧ (@Ne Nat p.1 la) ∧ (@Ne Nat p.1 I))
    (hic : Off ic T' ∧ (@Ne Nat ic ia) ∧ (@Ne Nat ic S) ∧ (@Ne Nat ic la) ∧ (@Ne Nat ic I)) (oS : Off S T') (ola : Off la T') (oI : Off I T') (oia : Off ia T') (iaS : @Ne Nat ia S) (iala : @Ne Nat ia la) (iaI : @Ne Nat ia I)
    (hu : RowL NR u n ic) (hso : Src o') (hlv : lv' = lv ∨ ∃ (Tl : Addr) (t' : Tok), lv' = lv ++ [.ref Tl] ∧ (Tl, tupO [.int (rs.length : Int) t', .ref ic]) ∈ NR ∧ n.isEl = true)
    (N : News h₀ L h all) (mS : (S, o') ∈ all) (mla : (la, listOf (List.toArray lv') lc') ∈ all) (mI : (I, it) ∈ all) (mia : (ia, listOf ((List.toArray ks1).push u) kc2) ∈ all) (mic : (ic, listOf (List.toArray []) 0) ∈ all) (mNR : ∀ p ∈ NR, p ∈ all) (mT : ∀ p ∈ T', p ∈ all) :
    TurnP w S la rl tr td R I tk (m + 1) it h₀ L h := by
  (try k_extra "gf")
  obtain ⟨T2, GI', GR', f', K', s2, J'⟩ := J.close (kc2 := kc2) (c0 := 0) hK hip hkp hia huniq hE hj hn hc hnok hlen hm tg hNR hic oS ola oI oia iaS iala iaI hu hso hlv
  (try k_extra "gu")
  have hall : ∀ p ∈ T2, p ∈ all := fun p hp => by
    have := s2 p hp
    rcases List.mem_cons.mp this with rfl | hp
    · rw [List.push_toArray] at mia; exact mia
    rcases List.mem_cons.mp hp with rfl | hp
    · exact mic
    rcases List.mem_append.mp hp with hp | hp
    · exact mNR p hp
    · exact mT p hp
  refine ⟨(S, o') :: (la, listOf (List.toArray lv') lc') :: T2, Mine.News.less N fun p hp => ?_, fun p hp => ?_, o', lv', lc', T2, rs', GI', GR', r, f', K', ks, rc, rfl, J'⟩
  · rcases List.mem_cons.mp hp with rfl | hp
    · exact mI
    rcases List.mem_cons.mp hp with rfl | hp
    · exact mS
    rcases List.mem_cons.mp hp with rfl | hp
    · exact mla
    · exact hall p hp
  · rcases List.mem_cons.mp hp with rfl | hp
    · exact J'.sI
    rcases List.mem_cons.mp hp with rfl | hp
    · exact J'.laI
    · exact J'.offI p hp
/-- the end of a turn that has laid a leaf -/
theorem LJ.leaf {w : World} {S la rl tr td R I : Addr} {tk : Tok} {m : Nat} {o o' : Obj} {lv : List Value} {T : List (Addr × Obj)} {rs : List NdR} {GI GR : List (Addr × Obj)} {r : NdR} {f : Fo} {K : List (Nat × Addr)} {ks : List Value} {rc : Nat}
    (J : LJx w S la rl tr td R I tk m o lv T rs GI GR r f K ks rc) {i : Nat} {ia ic l pa : Addr} {rp rn : NdR} {ks1 : List Value} {kc1 kc2 lc' : Nat} {T' all : List (Addr × Obj)} {nv : Value} {n : Nd} {t t1 t2 t3 : Tok} {k nm x : Str} {h₀ h : Heap} {L : Addr} {it : Obj}
    (hK : (i, ia) ∈ K) (hip : rs[i]? = some rp) (hkp : rp.kind = Str.ofString "element") (hia : (ia, listOf (List.toArray ks1) kc1) ∈ GI) (huniq : ∀ ks kc, (ia, listOf (List.toArray ks) kc) ∈ GI → ks = ks1)
    (tg : TG w tr td tk R (addTo rs i (.int (rs.length : Int) t) rn) (GXof ia GI GR) T') (hn : NodeIs (addTo rs i (.int (rs.length : Int) t) rn) rn n) (hc : rn.chv = []) (hnok : n.Ok) (hm : m ≤ 8)
    (hri : RowIs n k nm x) (hna : n.ats = []) (N : News h₀ L h all) (mia : (ia, listOf ((List.toArray ks1).push (.ref l)) kc2) ∈ all) (ml : (l, listOf (List.toArray [nv, .str k t1, .str nm t2, .str x t3, .ref pa, .ref ic]) 0) ∈ all)
    (mpa : (pa, listOf (List.toArray []) 0) ∈ all) (mic : (ic, listOf (List.toArray []) 0) ∈ all) (mS : (S, o') ∈ all) (mla : (la, listOf (List.toArray lv) lc') ∈ all) (mI : (I, it) ∈ all) (mT : ∀ p ∈ T', p ∈ all)
    (hlt : (@LT.lt Nat _ ia pa) ∧ (@LT.lt Nat _ S pa) ∧ (@LT.lt Nat _ la pa) ∧ (@LT.lt Nat _ I pa) ∧ (@LT.lt Nat _ pa ic) ∧ (@LT.lt Nat _ ic l)) (ol : Off l T') (opa : Off pa T') (oic : Off ic T')
    (oS : Off S T') (ola : Off la T') (oI : Off I T') (oia : Off ia T') (iaS : @Ne Nat ia S) (iala : @Ne Nat ia la) (iaI : @Ne Nat ia I) (hso : Src o') :
    TurnP w S la rl tr td R I tk (m + 1) it h₀ L h := by
  (try k_extra "gf")
  obtain ⟨hE, hj, hl⟩ := addTo_ext (v := .int (rs.length : Int) t) (r := rn) hip
  (try k_extra "gu")
  (try k_extra "gf")
  obtain ⟨c1, c2, c3, c4, c5, c6⟩ := hlt
  (try k_extra "gu")
  have d0 : @LT.lt Nat _ ia ic := Nat.lt_trans c1 c5
  have e0 : @LT.lt Nat _ ia l := Nat.lt_trans d0 c6
  have d1 : @LT.lt Nat _ S ic := Nat.lt_trans c2 c5
  have e1 : @LT.lt Nat _ S l := Nat.lt_trans d1 c6
  have d2 : @LT.lt Nat _ la ic := Nat.lt_trans c3 c5
  have e2 : @LT.lt Nat _ la l := Nat.lt_trans d2 c6
  have d3 : @LT.lt Nat _ I ic := Nat.lt_trans c4 c5
  have e3 : @LT.lt Nat _ I l := Nat.lt_trans d3 c6
  have d5 : @LT.lt Nat _ pa l := Nat.lt_trans c5 c6
  have hNRc : ∀ p ∈ [(l, listOf (List.toArray [nv, .str k t1, .str nm t2, .str x t3, .ref pa, .ref ic]) 0), (pa, listOf (List.toArray []) 0)], p = (l, listOf (List.toArray [nv, .str k t1, .str nm t2, .str x t3, .ref pa, .ref ic]) 0) ∨ p = (pa, listOf (List.toArray []) 0) := fun p hp => by simpa using hp
  refine LJ.next J (NR := [(l, listOf (List.toArray [nv, .str k t1, .str nm t2, .str x t3, .ref pa, .ref ic]) 0), (pa, listOf (List.toArray []) 0)]) hK hip hkp hia huniq hE hj hn hc hnok (by omega) (Nat.le_trans (Nat.succ_le_succ hm) (by decide)) tg ?_ ⟨oic, by omega, by omega, by omega, by omega⟩ oS ola oI oia iaS iala iaI
    ⟨l, nv, k, nm, x, t1, t2, t3, pa, [], 0, rfl, List.mem_cons_self, hri, List.mem_cons_of_mem _ List.mem_cons_self, by rw [hna]; rfl⟩ hso (.inl rfl) N mS mla mI mia mic ?_ mT
  · intro p hp
    rcases hNRc p hp with rfl | rfl
    · exact ⟨ol, by dsimp only; omega, by dsimp only; omega, by dsimp only; omega, by dsimp only; omega, by dsimp only; omega⟩
    · exact ⟨opa, by dsimp only; omega, by dsimp only; omega, by dsimp only; omega, by dsimp only; omega, by dsimp only; omega⟩
  · intro p hp
    rcases hNRc p hp with rfl | rfl
    · exact ml
    · exact mpa
inductive StrVals (L : List Str) : List Value → Prop
  | nil : StrVals L []
  | cons {x : Str} {t : Tok} {vs : List Value} (h : x ∈ L) (r : StrVals L vs) : StrVals L (.str x t :: vs)
theorem strv {L : List Str} {vs : List Value} {v : Value} (h : StrVals L vs) (hv : v ∈ vs) : ∃ x t, v = .str x t ∧ x ∈ L := by
  induction h with
  | nil => cases hv
  | @cons x t vs h r ih =>
    rcases List.mem_cons.mp hv with rfl | hv
    · exact ⟨x, t, rfl, h⟩
    · exact ih hv
/-- the end of a turn that has laid an element -/
theorem LJ.elem {w : World} {S la rl tr td R I : Addr} {tk : Tok} {m : Nat} {o o' : Obj} {lv : List Value} {T : List (Addr × Obj)} {rs rs' : List NdR} {GI GR : List (Addr × Obj)} {r : NdR} {f : Fo} {K : List (Nat × Addr)} {ks : List Value} {rc : Nat}
    (J : LJx w S la rl tr td R I tk m o lv T rs GI GR r f K ks rc) {i : Nat} {ia ic l pa Tl : Addr} {rp rn : NdR} {ks1 ps : List Value} {kc1 kc2 lc' pc : Nat} {T' all NP : List (Addr × Obj)} {nv : Value} {ats : List (Str × Str)} {t t' t1 t2 t3 : Tok} {x : Str} {h₀ h : Heap} {L : Addr} {it : Obj}
    (hK : (i, ia) ∈ K) (hip : rs[i]? = some rp) (hkp : rp.kind = Str.ofString "element") (hia : (ia, listOf (List.toArray ks1) kc1) ∈ GI) (huniq : ∀ ks kc, (ia, listOf (List.toArray ks) kc) ∈ GI → ks = ks1)
    (tg : TG w tr td tk R rs' (GXof ia GI GR) T') (hE : Ext rs rs' i (.int (rs.length : Int) t)) (hj : rs'[rs.length]? = some rn) (hn : NodeIs rs' rn (.el x ats)) (hc : rn.chv = []) (hnok : (Nd.el x ats).Ok) (hlen : rs'.length ≤ rs.length + 3) (hm : m ≤ 8)
    (N : News h₀ L h all) (mia : (ia, listOf ((List.toArray ks1).push (.ref l)) kc2) ∈ all) (ml : (l, listOf (List.toArray [nv, .str (Str.ofString "element") t1, .str x t2, .str (Str.ofString "") t3, .ref pa, .ref ic]) 0) ∈ all)
    (mpa : (pa, listOf (List.toArray ps) pc) ∈ all) (mic : (ic, listOf (List.toArray []) 0) ∈ all) (mTl : (Tl, tupO [.int (rs.length : Int) t', .ref ic]) ∈ all) (mla : (la, listOf ((List.toArray lv).push (.ref Tl)) lc') ∈ all) (mS : (S, o') ∈ all) (mI : (I, it) ∈ all) (mT : ∀ p ∈ T', p ∈ all) (mNP : ∀ p ∈ NP, p ∈ all) (hps : PairsL NP ps ats)
    (hlt : (@LT.lt Nat _ ia pa) ∧ (@LT.lt Nat _ S pa) ∧ (@LT.lt Nat _ la pa) ∧ (@LT.lt Nat _ I pa) ∧ (@LT.lt Nat _ pa ic) ∧ (@LT.lt Nat _ ic l) ∧ (@LT.lt Nat _ l Tl)) (hNP : ∀ p ∈ NP, Off p.1 T' ∧ (@LT.lt Nat _ pa p.1) ∧ (@LT.lt Nat _ p.1 ic)) (ol : Off l T') (opa : Off pa T') (oic : Off ic T') (oTl : Off Tl T')
    (oS : Off S T') (ola : Off la T') (oI : Off I T') (oia : Off ia T') (iaS : @Ne Nat ia S) (iala : @Ne Nat ia la) (iaI : @Ne Nat ia I) (hso : Src o') :
    TurnP w S la rl tr td R I tk (m + 1) it h₀ L h := by
  (try k_extra "gf")
  obtain ⟨c1, c2, c3, c4, c5, c6, c7⟩ := hlt
  (try k_extra "gu")
  have d0 : @LT.lt Nat _ ia ic := Nat.lt_trans c1 c5
  have e0 : @LT.lt Nat _ ia l := Nat.lt_trans d0 c6
  have d1 : @LT.lt Nat _ S ic := Nat.lt_trans c2 c5
  have e1 : @LT.lt Nat _ S l := Nat.lt_trans d1 c6
  have d2 : @LT.lt Nat _ la ic := Nat.lt_trans c3 c5
  have e2 : @LT.lt Nat _ la l := Nat.lt_trans d2 c6
  have d3 : @LT.lt Nat _ I ic := Nat.lt_trans c4 c5
  have e3 : @LT.lt Nat _ I l := Nat.lt_trans d3 c6
  have d5 : @LT.lt Nat _ pa l := Nat.lt_trans c5 c6
  have f0 : @LT.lt Nat _ ia Tl := Nat.lt_trans e0 c7
  have f1 : @LT.lt Nat _ S Tl := Nat.lt_trans e1 c7
  have f2 : @LT.lt Nat _ la Tl := Nat.lt_trans e2 c7
  have f3 : @LT.lt Nat _ I Tl := Nat.lt_trans e3 c7
  have f5 : @LT.lt Nat _ pa Tl := Nat.lt_trans d5 c7
  have f6 : @LT.lt Nat _ ic Tl := Nat.lt_trans c6 c7
  let row : Addr × Obj := (l, listOf (List.toArray [nv, .str (Str.ofString "element") t1, .str x t2, .str (Str.ofString "") t3, .ref pa, .ref ic]) 0)
  have hNRc : ∀ p ∈ row :: (pa, listOf (List.toArray ps) pc) :: (Tl, tupO [.int (rs.length : Int) t', .ref ic]) :: NP, p = row ∨ p = (pa, listOf (List.toArray ps) pc) ∨ p = (Tl, tupO [.int (rs.length : Int) t', .ref ic]) ∨ p ∈ NP := fun p hp => by simpa using hp
  refine LJ.next J (NR := row :: (pa, listOf (List.toArray ps) pc) :: (Tl, tupO [.int (rs.length : Int) t', .ref ic]) :: NP) hK hip hkp hia huniq hE hj hn hc hnok hlen (Nat.le_trans (Nat.succ_le_succ hm) (by decide)) tg ?_ ⟨oic, by omega, by omega, by omega, by omega⟩ oS ola oI oia iaS iala iaI
    ⟨l, nv, _, _, _, t1, t2, t3, pa, ps, pc, rfl, List.mem_cons_self, ⟨rfl, rfl, rfl⟩, List.mem_cons_of_mem _ List.mem_cons_self, hps.mono fun p hp => List.mem_cons_of_mem _ (List.mem_cons_of_mem _ (List.mem_cons_of_mem _ hp))⟩ hso
    (.inr ⟨Tl, t', rfl, List.mem_cons_of_mem _ (List.mem_cons_of_mem _ List.mem_cons_self), rfl⟩) N mS (by rw [List.push_toArray] at mla; exact mla) mI mia mic ?_ mT
  · intro p hp
    rcases hNRc p hp with rfl | rfl | rfl | hp
    · exact ⟨ol, by dsimp only [row]; omega, by dsimp only [row]; omega, by dsimp only [row]; omega, by dsimp only [row]; omega, by dsimp only [row]; omega⟩
    · exact ⟨opa, by dsimp only; omega, by dsimp only; omega, by dsimp only; omega, by dsimp only; omega, by dsimp only; omega⟩
    · exact ⟨oTl, by dsimp only; omega, by dsimp only; omega, by dsimp only; omega, by dsimp only; omega, by dsimp only; omega⟩
    · have := hNP p hp
      (try k_extra "gf")
      obtain ⟨z1, z2, z3⟩ := this
      (try k_extra "gu")
      have y0 : @LT.lt Nat _ ia p.1 := Nat.lt_trans c1 z2
      have y1 : @LT.lt Nat _ S p.1 := Nat.lt_trans c2 z2
      have y2 : @LT.lt Nat _ la p.1 := Nat.lt_trans c3 z2
      have y3 : @LT.lt Nat _ I p.1 := Nat.lt_trans c4 z2
      exact ⟨z1, by omega, by omega, by omega, by omega, by omega⟩
  · intro p hp
    rcases hNRc p hp with rfl | rfl | rfl | hp
    · exact ml
    · exact mpa
    · exact mTl
    · exact mNP p hp
theorem ext_set {rs rs1 : List NdR} {i : Nat} {v v' : Value} {r rn rp : NdR} (h : Ext rs rs1 i v) (hip : rs[i]? = some rp) (hj : rs1[rs.length]? = some rn) : Ext rs (setTo rs1 rs.length v' r) i v := by
  have s := (setTo_ext (v := v') (r := r) hj).1
  refine ⟨fun j row hr hne => s j row (h.other j row hr hne) (Nat.ne_of_lt (getElem?_lt hr)), fun row hr => s i _ (h.self row hr) (Nat.ne_of_lt (getElem?_lt hr))⟩
theorem el_none {rs : List NdR} {i : Nat} {v pC : Value} {rp rC : NdR} {x : Str} (hip : rs[i]? = some rp) (qC : NewRow rC (Str.ofString "element") x (Str.ofString "") x (Str.ofString "") pC) :
    Ext rs (addTo rs i v rC) i v ∧ (addTo rs i v rC)[rs.length]? = some rC ∧ NodeIs (addTo rs i v rC) rC (.el x []) ∧ rC.chv = [] ∧ (addTo rs i v rC).length ≤ rs.length + 3 := by
  (try k_extra "gf")
  obtain ⟨h1, h2, h3⟩ := addTo_ext (v := v) (r := rC) hip
  (try k_extra "gu")
  exact ⟨h1, h2, ⟨qC.kind, qC.name, qC.uri, qC.atv⟩, qC.chv, by omega⟩
theorem el_one {rs : List NdR} {i : Nat} {v pC pD : Value} {rp rC rD : NdR} {x a1 y1 : Str} {tD : Tok} (hip : rs[i]? = some rp) (qC : NewRow rC (Str.ofString "element") x (Str.ofString "") x (Str.ofString "") pC) (qD : NewRow rD (Str.ofString "attribute") a1 (Str.ofString "") a1 y1 pD) :
    Ext rs (setTo (addTo rs i v rC) rs.length (.int ((addTo rs i v rC).length : Int) tD) rD) i v ∧ (setTo (addTo rs i v rC) rs.length (.int ((addTo rs i v rC).length : Int) tD) rD)[rs.length]? = some (attTo (.int ((addTo rs i v rC).length : Int) tD) rC) ∧
      NodeIs (setTo (addTo rs i v rC) rs.length (.int ((addTo rs i v rC).length : Int) tD) rD) (attTo (.int ((addTo rs i v rC).length : Int) tD) rC) (.el x [(a1, y1)]) ∧ (attTo (.int ((addTo rs i v rC).length : Int) tD) rC).chv = [] ∧ (setTo (addTo rs i v rC) rs.length (.int ((addTo rs i v rC).length : Int) tD) rD).length ≤ rs.length + 3 := by
  (try k_extra "gf")
  obtain ⟨h1, h2, h3⟩ := addTo_ext (v := v) (r := rC) hip
  (try k_extra "gu")
  (try k_extra "gf")
  obtain ⟨s1, s2, s3, s4⟩ := setTo_ext (v := .int ((addTo rs i v rC).length : Int) tD) (r := rD) h2
  (try k_extra "gu")
  refine ⟨ext_set h1 hip h2, s2, ⟨qC.kind, qC.name, qC.uri, ?_⟩, qC.chv, by omega⟩
  show AttsAre _ (rC.atv ++ _) _
  rw [qC.atv]
  exact ⟨_, tD, rD, [], rfl, s3, qD.name, qD.uri, qD.value, rfl⟩
theorem el_two {rs : List NdR} {i : Nat} {v pC pD pE : Value} {rp rC rD rE : NdR} {x a1 y1 a2 y2 : Str} {tD tE : Tok} {rs2 : List NdR} (hip : rs[i]? = some rp) (qC : NewRow rC (Str.ofString "element") x (Str.ofString "") x (Str.ofString "") pC) (qD : NewRow rD (Str.ofString "attribute") a1 (Str.ofString "") a1 y1 pD)
    (qE : NewRow rE (Str.ofString "attribute") a2 (Str.ofString "") a2 y2 pE) (e2 : rs2 = setTo (addTo rs i v rC) rs.length (.int ((addTo rs i v rC).length : Int) tD) rD) :
    Ext rs (setTo rs2 rs.length (.int (rs2.length : Int) tE) rE) i v ∧ (setTo rs2 rs.length (.int (rs2.length : Int) tE) rE)[rs.length]? = some (attTo (.int (rs2.length : Int) tE) (attTo (.int ((addTo rs i v rC).length : Int) tD) rC)) ∧
      NodeIs (setTo rs2 rs.length (.int (rs2.length : Int) tE) rE) (attTo (.int (rs2.length : Int) tE) (attTo (.int ((addTo rs i v rC).length : Int) tD) rC)) (.el x [(a1, y1), (a2, y2)]) ∧ (attTo (.int (rs2.length : Int) tE) (attTo (.int ((addTo rs i v rC).length : Int) tD) rC)).chv = [] ∧
      (setTo rs2 rs.length (.int (rs2.length : Int) tE) rE).length ≤ rs.length + 3 := by
  (try k_extra "gf")
  obtain ⟨h1, h2, h3⟩ := addTo_ext (v := v) (r := rC) hip
  (try k_extra "gu")
  (try k_extra "gf")
  obtain ⟨s1, s2, s3, s4⟩ := setTo_ext (v := .int ((addTo rs i v rC).length : Int) tD) (r := rD) h2
  (try k_extra "gu")
  rw [← e2] at s1 s2 s3 s4
  (try k_extra "gf")
  obtain ⟨u1, u2, u3, u4⟩ := setTo_ext (v := .int (rs2.length : Int) tE) (r := rE) s2
  (try k_extra "gu")
  have hx := ext_set (v' := .int ((addTo rs i v rC).length : Int) tD) (r := rD) h1 hip h2
  rw [← e2] at hx
  refine ⟨ext_set hx hip s2, u2, ⟨qC.kind, qC.name, qC.uri, ?_⟩, qC.chv, by omega⟩
  show AttsAre _ ((rC.atv ++ _) ++ _) _
  rw [qC.atv]
  exact ⟨_, tD, rD, _, rfl, u1 _ _ s3 (by omega), qD.name, qD.uri, qD.value, _, tE, rE, [], rfl, u3, qE.name, qE.uri, qE.value, rfl⟩
theorem LJ.elem1 {w : World} {S la rl tr td R I : Addr} {tk : Tok} {m : Nat} {o o' : Obj} {lv : List Value} {T : List (Addr × Obj)} {rs rs' : List NdR} {GI GR : List (Addr × Obj)} {r : NdR} {f : Fo} {K : List (Nat × Addr)} {ks : List Value} {rc : Nat}
    (J : LJx w S la rl tr td R I tk m o lv T rs GI GR r f K ks rc) {i : Nat} {ia ic l pa Tl : Addr} {rp rn : NdR} {ks1 : List Value} {kc1 kc2 lc' pc : Nat} {T' all : List (Addr × Obj)} {nv : Value} {t t' t1 t2 t3 : Tok} {x : Str} {h₀ h : Heap} {L : Addr} {it : Obj} {T1 : Addr} {a1 y1 : Str} {s1 s2 : Tok}
    (hK : (i, ia) ∈ K) (hip : rs[i]? = some rp) (hkp : rp.kind = Str.ofString "element") (hia : (ia, listOf (List.toArray ks1) kc1) ∈ GI) (huniq : ∀ ks kc, (ia, listOf (List.toArray ks) kc) ∈ GI → ks = ks1)
    (tg : TG w tr td tk R rs' (GXof ia GI GR) T') (hE : Ext rs rs' i (.int (rs.length : Int) t)) (hj : rs'[rs.length]? = some rn) (hn : NodeIs rs' rn (.el x [(a1, y1)])) (hc : rn.chv = []) (hnok : (Nd.el x [(a1, y1)]).Ok) (hlen : rs'.length ≤ rs.length + 3) (hm : m ≤ 8)
    (N : News h₀ L h all) (mia : (ia, listOf ((List.toArray ks1).push (.ref l)) kc2) ∈ all) (ml : (l, listOf (List.toArray [nv, .str (Str.ofString "element") t1, .str x t2, .str (Str.ofString "") t3, .ref pa, .ref ic]) 0) ∈ all)
    (mpa : (pa, listOf (List.toArray [.ref T1]) pc) ∈ all) (mic : (ic, listOf (List.toArray []) 0) ∈ all) (mTl : (Tl, tupO [.int (rs.length : Int) t', .ref ic]) ∈ all) (mla : (la, listOf ((List.toArray lv).push (.ref Tl)) lc') ∈ all) (mS : (S, o') ∈ all) (mI : (I, it) ∈ all) (mT : ∀ p ∈ T', p ∈ all) (mT1 : (T1, tupO [.str a1 s1, .str y1 s2]) ∈ all)
    (hlt : (@LT.lt Nat _ ia pa) ∧ (@LT.lt Nat _ S pa) ∧ (@LT.lt Nat _ la pa) ∧ (@LT.lt Nat _ I pa) ∧ (@LT.lt Nat _ pa ic) ∧ (@LT.lt Nat _ ic l) ∧ (@LT.lt Nat _ l Tl)) (lT1 : (@LT.lt Nat _ pa T1) ∧ (@LT.lt Nat _ T1 ic)) (oT1 : Off T1 T') (ol : Off l T') (opa : Off pa T') (oic : Off ic T') (oTl : Off Tl T')
    (oS : Off S T') (ola : Off la T') (oI : Off I T') (oia : Off ia T') (iaS : @Ne Nat ia S) (iala : @Ne Nat ia la) (iaI : @Ne Nat ia I) (hso : Src o') :
    TurnP w S la rl tr td R I tk (m + 1) it h₀ L h := by
  refine LJ.elem J (NP := [(T1, tupO [.str a1 s1, .str y1 s2])]) hK hip hkp hia huniq tg hE hj hn hc hnok hlen hm N mia ml mpa mic mTl mla mS mI mT ?_ ⟨T1, s1, s2, [], rfl, List.mem_cons_self, rfl⟩ hlt ?_ ol opa oic oTl oS ola oI oia iaS iala iaI hso
  · intro p hp
    simp only [List.mem_cons, List.not_mem_nil, or_false] at hp
    subst hp; exact mT1
  · intro p hp
    simp only [List.mem_cons, List.not_mem_nil, or_false] at hp
    subst hp; exact ⟨oT1, lT1.1, lT1.2⟩
theorem LJ.elem2 {w : World} {S la rl tr td R I : Addr} {tk : Tok} {m : Nat} {o o' : Obj} {lv : List Value} {T : List (Addr × Obj)} {rs rs' : List NdR} {GI GR : List (Addr × Obj)} {r : NdR} {f : Fo} {K : List (Nat × Addr)} {ks : List Value} {rc : Nat}
    (J : LJx w S la rl tr td R I tk m o lv T rs GI GR r f K ks rc) {i : Nat} {ia ic l pa Tl : Addr} {rp rn : NdR} {ks1 : List Value} {kc1 kc2 lc' pc : Nat} {T' all : List (Addr × Obj)} {nv : Value} {t t' t1 t2 t3 : Tok} {x : Str} {h₀ h : Heap} {L : Addr} {it : Obj} {T1 T2 : Addr} {a1 y1 a2 y2 : Str} {s1 s2 s3 s4 : Tok}
    (hK : (i, ia) ∈ K) (hip : rs[i]? = some rp) (hkp : rp.kind = Str.ofString "element") (hia : (ia, listOf (List.toArray ks1) kc1) ∈ GI) (huniq : ∀ ks kc, (ia, listOf (List.toArray ks) kc) ∈ GI → ks = ks1)
    (tg : TG w tr td tk R rs' (GXof ia GI GR) T') (hE : Ext rs rs' i (.int (rs.length : Int) t)) (hj : rs'[rs.length]? = some rn) (hn : NodeIs rs' rn (.el x [(a1, y1), (a2, y2)])) (hc : rn.chv = []) (hnok : (Nd.el x [(a1, y1), (a2, y2)]).Ok) (hlen : rs'.length ≤ rs.length + 3) (hm : m ≤ 8)
    (N : News h₀ L h all) (mia : (ia, listOf ((List.toArray ks1).push (.ref l)) kc2) ∈ all) (ml : (l, listOf (List.toArray [nv, .str (Str.ofString "element") t1, .str x t2, .str (Str.ofString "") t3, .ref pa, .ref ic]) 0) ∈ all)
    (mpa : (pa, listOf (List.toArray [.ref T1, .ref T2]) pc) ∈ all) (mic : (ic, listOf (List.toArray []) 0) ∈ all) (mTl : (Tl, tupO [.int (rs.length : Int) t', .ref ic]) ∈ all) (mla : (la, listOf ((List.toArray lv).push (.ref Tl)) lc') ∈ all) (mS : (S, o') ∈ all) (mI : (I, it) ∈ all) (mT : ∀ p ∈ T', p ∈ all) (mT1 : (T1, tupO [.str a1 s1, .str y1 s2]) ∈ all) (mT2 : (T2, tupO [.str a2 s3, .str y2 s4]) ∈ all)
    (hlt : (@LT.lt Nat _ ia pa) ∧ (@LT.lt Nat _ S pa) ∧ (@LT.lt Nat _ la pa) ∧ (@LT.lt Nat _ I pa) ∧ (@LT.lt Nat _ pa ic) ∧ (@LT.lt Nat _ ic l) ∧ (@LT.lt Nat _ l Tl)) (lT1 : (@LT.lt Nat _ pa T1) ∧ (@LT.lt Nat _ T1 ic)) (oT1 : Off T1 T') (lT2 : (@LT.lt Nat _ pa T2) ∧ (@LT.lt Nat _ T2 ic)) (oT2 : Off T2 T') (ol : Off l T') (opa : Off pa T') (oic : Off ic T') (oTl : Off Tl T')
    (oS : Off S T') (ola : Off la T') (oI : Off I T') (oia : Off ia T') (iaS : @Ne Nat ia S) (iala : @Ne Nat ia la) (iaI : @Ne Nat ia I) (hso : Src o') :
    TurnP w S la rl tr td R I tk (m + 1) it h₀ L h := by
  refine LJ.elem J (NP := [(T1, tupO [.str a1 s1, .str y1 s2]), (T2, tupO [.str a2 s3, .str y2 s4])]) hK hip hkp hia huniq tg hE hj hn hc hnok hlen hm N mia ml mpa mic mTl mla mS mI mT ?_ ⟨T1, s1, s2, _, rfl, List.mem_cons_self, T2, s3, s4, [], rfl, List.mem_cons_of_mem _ List.mem_cons_self, rfl⟩ hlt ?_ ol opa oic oTl oS ola oI oia iaS iala iaI hso
  · intro p hp
    simp only [List.mem_cons, List.not_mem_nil, or_false] at hp
    rcases hp with rfl | rfl; (exact mT1); exact mT2
  · intro p hp
    simp only [List.mem_cons, List.not_mem_nil, or_false] at hp
    rcases hp with rfl | rfl; (exact ⟨oT1, lT1.1, lT1.2⟩); exact ⟨oT2, lT2.1, lT2.2⟩
theorem sub3 {x1 x2 : Addr × Obj} {T all : List (Addr × Obj)} (h1 : x1 ∈ all) (h2 : x2 ∈ all) (h3 : ∀ p ∈ T, p ∈ all) : ∀ p ∈ x1 :: x2 :: T, p ∈ all := fun p hp => by
  rcases List.mem_cons.mp hp with rfl | hp
  · exact h1
  rcases List.mem_cons.mp hp with rfl | hp
  · exact h2
  · exact h3 p hp
theorem res_end {w : World} {S la rl tr td R I Tt : Addr} {tk t0 : Tok} {n : Nat} {o : Obj} {lv : List Value} {T : List (Addr × Obj)} {rs : List NdR} {GI GR : List (Addr × Obj)} {r : NdR} {f : Fo} {K : List (Nat × Addr)} {ks : List Value} {rc : Nat}
    (J : LJx w S la rl tr td R I tk n o lv T rs GI GR r f K ks rc) (hn : n ≤ 9) (hT : @Ne Nat Tt S) : ResP w S (.ref Tt) ((S, o) :: (Tt, tupO [.ref tr, .int 0 t0, .ref rl]) :: T) := by
  have h1 := J.sz
  have h2 := J.rsz
  refine ⟨Tt, tr, rl, t0, o, (Tt, tupO [.ref tr, .int 0 t0, .ref rl]) :: T, rs, r, f, ks, rc, rfl, rfl, Off.cons hT J.offS, J.src, List.mem_cons_self, ⟨td, tk, R, fun p hp => List.mem_cons_of_mem _ (J.tg.tree p hp)⟩, by omega, J.r0, J.rk, J.rep.toT, List.mem_cons_of_mem _ (J.tg.sub _ (List.mem_append_right _ J.hrl)),
    J.rep.toL (fun p hp => List.mem_cons_of_mem _ (J.tg.sub _ (List.mem_append_left _ hp))) (fun p hp => List.mem_cons_of_mem _ (J.tg.sub _ (List.mem_append_right _ hp))), J.ok, by omega⟩

inductive IfMid (g : Heap) (L : Addr) (m : Str → Option Value) (news : List (Addr × Obj)) (s s' : Shared) : Prop
  | mk (h8 : Heap) (tk8 : Nat) (h1 : s' = { s with heap := h8, toks := tk8 }) (h2 : Fr g L h8 m) (h3 : News g L h8 news)
/-- a test that turns nothing of what is kept: what comes behind is walked once, whatever the test's ways -/
theorem if_cut {prog : Program} {w : World} {A : Around} {E : Value → Shared → Prop} {s : Shared} {test : PySem.Expr} {body orelse : List Stmt} {pos : Pos} {env : Env} {Q : Flow → Shared → Prop} {g h : Heap} {L : Addr} {m : Str → Option Value} {news : List (Addr × Obj)} (_F : Fr g L h m) (_N : News g L h news)
    (h1 : wpAny (model prog w) A (isTrue test env (eval test env)) (fun _ s' => Held (IfMid g L m news s s')) E s)
    (h2 : ∀ h8 tk8, Fr g L h8 m → News g L h8 news → wpAny (model prog w) A (execs body env) Q E { s with heap := h8, toks := tk8 })
    (h3 : ∀ h8 tk8, Fr g L h8 m → News g L h8 news → wpAny (model prog w) A (execs orelse env) Q E { s with heap := h8, toks := tk8 }) : wpAny (model prog w) A (exec (.If test body orelse pos) env) Q E s :=
  wpAny_If (wpAny_mono h1 (fun b s' p => by
    (try k_extra "gf")
    obtain ⟨h8, tk8, e, F, N⟩ := p
    (try k_extra "gu")
    subst e
    cases b
    · exact h3 h8 tk8 F N
    · exact h2 h8 tk8 F N) fun _ _ e => e)
theorem reg_LY_1 : True := by
  k_with "exec If" => (((with_reducible show wpAny _ _ (exec (Stmt.If (PySem.Expr.BoolOp _ _ _) _ _ _) _) _ _ _); k_here; refine Held.out ?_))
  trivial
local macro_rules | `(tactic| k_steps) => `(tactic| repeat' (first | (k_unfold; (try dsimp only)) | (k_end; wrow_close) | ((first | (with_reducible show wpAny _ _ (exec _ _) _ _ _) | (with_reducible show wpAny _ _ (execs _ _) _ _ _)); (fail_if_success (fail_if_success k_fold)); refine fold_q ?_; intro qk9) | walk1 | (dsimp only; walk1) | (leave1; walk_say "STEP leave1"; try dsimp only) | fail "no step"))
theorem law_result_spec (w : World) (S : Addr) (o : Obj) (hs : Src o) : Spec w 409 [.ref S] 200 400 [(S, o)] (ResP w S) := by
  unfold Spec
  k_fill
  intro mean mg mb dp un gd cn cs a ccd cl outer A₀ base h₀ L m s Q E B F X N T hk hd hu hret
  refine wpAny_call ?_
  k_dflt ktr_enter
  k_steps
  unfold Held
  rename News _ _ _ _ => N0
  dsimp only
  refine' use_part (rest := [(S, o)]) (new_root_spec w _ _ _ _ ?h1 ?h2 ?h3) ?zB ?zF ?zX N0 ?zT ?zk ?zs ?zr ?zo ?zd ?zu ?_
  (case zB => k_asm); (case zF => k_asm); (case zX => k_asm); (case zT => k_asm); (case zk => first | exact rfl | assumption); (case zd => ktr_room); (case zu => ktr_units)
  (case zs => lcg_sub)
  (case zr => intro p hp; rw [List.mem_singleton.mp hp]; simp)
  (case h1 => k_ne)
  (case h2 => k_ne)
  (case h3 => k_ne)
  (case zo => intro p hp; rw [List.mem_singleton.mp hp]; simp only [List.map_cons, List.map_nil, List.mem_cons, List.not_mem_nil, or_false, not_or]; refine ⟨?_, ?_, ?_⟩ <;> k_ne)
  intro r9 n9 h9 tk9 F9 N9 O9 p9
  (try k_extra "gf")
  obtain ⟨r, t9, e9, hr, f9, hD⟩ := p9
  (try k_extra "gu")
  subst e9; subst f9
  (try k_extra "gf")
  obtain ⟨T0, G0, N8, oS0⟩ := tg_init hD N9 O9
  (try k_extra "gu")
  clear N9 O9 N0
  (try k_extra "gf")
  obtain ⟨m0, mm0⟩ := G0.top
  (try k_extra "gu")
  have hcz0 : r.chv.length ≤ 1000 := by rw [hr.chv]; decide
  have hpk0 : noParent r.kind = false := by rw [hr.kind]; decide +kernel
  have hn0 : [r].length ≤ 1000 := Nat.le_of_ble_eq_true rfl
  k_steps
  unfold Held
  (try dsimp only)
  refine' use_add (add_element_spec w _ _ _ _ [r] 0 r _ _ _ _ _ _ _ G0.dis rfl ?hk hn0 hcz0 hpk0) ?zB ?zF ?zX ?zN ?zT ?zk ?zd ?zu ?zP ?zG ?zE ?_
  (case zB => k_asm); (case zF => k_asm); (case zX => k_asm); (case zN => k_asm); (case zT => k_asm); (case zk => first | exact rfl | assumption); (case zd => ktr_room); (case zu => ktr_units)
  (case zP => with_reducible ((repeat (apply Pre.cons)); exact Pre.nil _)); (case zG => assumption); (case zE => repeat (first | exact OffE.nil | refine OffE.cons (by first | assumption | exact Off.ofLt (by assumption) | exact Off.ofLt (by tbn_find)) ?_))
  (case hk => exact rfl)
  intro tA rA TA hA tkA FA NA GA OA qA
  simp only [List.cons_append, List.nil_append] at NA
  simp only [OffE, and_true] at OA
  (try k_extra "gf")
  (have mt9 := GA.top; obtain ⟨mA, mmA⟩ := mt9)
  (repeat (obtain ⟨_, OA⟩ := OA))
  (try k_extra "gu")
  have hczA : rA.chv.length ≤ 1000 := by rw [qA.chv]; decide
  have hpkA : noParent rA.kind = false := by rw [qA.kind]; decide +kernel
  clear G0 oS0 m0 mm0
  k_steps
  unfold Held
  (try dsimp only)
  refine' use_add (add_text_spec w _ _ _ _ (addTo [r] 0 _ rA) 1 rA _ _ _ _ GA.dis rfl ?hk (Nat.le_of_ble_eq_true rfl) hczA hpkA) ?zB ?zF ?zX ?zN ?zT ?zk ?zd ?zu ?zP ?zG ?zE ?_
  (case zB => k_asm); (case zF => k_asm); (case zX => k_asm); (case zN => k_asm); (case zT => k_asm); (case zk => first | exact rfl | assumption); (case zd => ktr_room); (case zu => ktr_units)
  (case zP => with_reducible ((repeat (apply Pre.cons)); exact Pre.nil _)); (case zG => assumption); (case zE => repeat (first | exact OffE.nil | refine OffE.cons (by first | assumption | exact Off.ofLt (by assumption) | exact Off.ofLt (by tbn_find)) ?_))
  (case hk => exact rfl)
  intro tB rB TB hB tkB FB NB GB OB qB
  simp only [List.cons_append, List.nil_append] at NB
  simp only [OffE, and_true] at OB
  (try k_extra "gf")
  (have mt9 := GB.top; obtain ⟨mB, mmB⟩ := mt9)
  (repeat (obtain ⟨_, OB⟩ := OB))
  (try k_extra "gu")
  k_steps
  unfold Held
  rename Fr _ _ _ _ => F8
  rename News _ _ _ _ => N8
  refine range1_rows F8 N8 ?_
  intro h7 tk7 t7 u7 v7 hR F7 N7 K7
  clear F8 N8
  k_steps
  unfold Held
  rename IsRange _ _ _ _ _ _ _ _ => hR
  rename Src _ => hs1
  rename (_ < (6 : Int)) => hk1
  rename ((0 : Int) ≤ _) => hk0
  (try k_extra "gf")
  obtain ⟨T2, N2, J2⟩ := LJ.init (w := w) rfl rfl hr qA qB GB hs1 N7 ⟨by k_extra "my ord", by k_extra "my ord", by k_extra "my ord", by k_extra "my ord", by k_extra "my ord", by k_extra "my ord", by k_extra "my ord", by k_extra "my ord", by k_extra "my ord"⟩ (by first | assumption | exact Off.ofLt (by assumption) | exact Off.ofLt (by tbn_find)) (by first | assumption | exact Off.ofLt (by assumption) | exact Off.ofLt (by tbn_find)) (by first | assumption | exact Off.ofLt (by assumption) | exact Off.ofLt (by tbn_find)) (by first | assumption | exact Off.ofLt (by assumption) | exact Off.ofLt (by tbn_find)) (by first | assumption | exact Off.ofLt (by assumption) | exact Off.ofLt (by tbn_find)) (by first | assumption | exact Off.ofLt (by assumption) | exact Off.ofLt (by tbn_find)) (by first | assumption | exact Off.ofLt (by assumption) | exact Off.ofLt (by tbn_find)) (by first | assumption | exact Off.ofLt (by assumption) | exact Off.ofLt (by tbn_find)) (by first | assumption | exact Off.ofLt (by assumption) | exact Off.ofLt (by tbn_find)) (by first | assumption | exact Off.ofLt (by assumption) | exact Off.ofLt (by tbn_find))
  (try k_extra "gu")
  clear N7
  refine iter_rangeUnr rfl hR (small_one (by decide) (by decide) (by omega) (by omega)) (rangeSize_nat _ _) F7 N2 ?_
  intro I hI
  have J3 := J2 I hI
  clear J2
  refine RangeRest_5 (Str.ofString "source") (Str.ofString "tree") (Str.ofString "root") (Str.ofString "rows") (Str.ofString "lots") _ _ _ _ _ (LJ w S _ _ _ _ _ I _) ?turn ?done _ 0 _ _ (Nat.zero_add _) ⟨rfl, rfl, rfl, rfl, rfl⟩ J3
  case done =>
    intro u nx h tk zr4 F3 N3
    (try k_extra "gf")
    obtain ⟨o2, lv, lc, T, rs, GI, GR, r2, f, K, ks, rc, rfl, J⟩ := zr4
    (try k_extra "gu")
    k_steps
    all_goals exact hret _ _ _ _ (by k_asm) (News.less (by k_asm) (sub3 (by k_mem) (by k_mem) fun p hp => by k_mem)) (done_end (by assumption) (by assumption) (News.less (by assumption) (sub3 (by k_mem) (by k_mem) fun p hp => by k_mem))) (res_end J (by omega) (by omega))
  case turn =>
    clear hret hR hI J3 N2 F7
    repeat (rename (_ ∧ _) => z9; clear z9)
    repeat (rename Off _ _ => z9; clear z9)
    repeat (rename NewRow _ _ _ _ _ _ _ => z9; clear z9)
    repeat (rename TG _ _ _ _ _ _ _ _ => z9; clear z9)
    repeat (rename (_ ∈ _) => z9; clear z9)
    repeat (rename News _ _ _ _ => z9; clear z9)
    intro i u t nx it h tk hi zr8 F3 N3
    (try k_extra "gf")
    obtain ⟨o2, lv, lc, T, rs, GI, GR, r2, f, K, ks, rc, rfl, J⟩ := zr8
    (try k_extra "gu")
    have oS := J.offS
    have ola := J.offla
    have oI := J.offI
    have nSla := J.sla
    have nSI := J.sI
    have nlaI := J.laI
    have hs2 := J.src
    (try k_extra "gf")
    obtain ⟨v0, lw, rfl, hl1, hl2, hl3⟩ := J.lots
    (try k_extra "gu")
    (try k_extra "gf")
    obtain ⟨m3, mm3⟩ := J.tg.top
    (try k_extra "gu")
    have hlp : 0 < lw.length := List.length_pos_iff.mpr hl1
    have hiz : i ≤ 8 := by omega
    k_steps
    unfold Held
    rename News _ _ _ _ => N4
    rename Fr _ _ _ _ => F4
    rename Src _ => hs4
    rename (_ < ((lw.length + 1 : Nat) : Int) - 1) => hk4
    rename ((0 : Int) ≤ _) => hk0
    refine item_any N4 (by k_mem) (by omega) (by simp only [List.size_toArray, List.length_cons]; omega) (by simp only [List.size_toArray, List.length_cons]; omega) ?_
    intro ix v hx hix
    have hv : v ∈ lw := by
      rw [List.getElem?_toArray] at hx
      cases ix with
      | zero => omega
      | succ ix => rw [List.getElem?_cons_succ] at hx; exact List.mem_of_getElem? hx
    clear hx hix
    (try k_extra "gf")
    obtain ⟨Tu, i0, t0, ia, rp, ks1, kc1, T1, rfl, hTu, hK, hia, tg1, sT1, hiaT, oS1, ola1, oI1, oia1, n1, n2, n3, hip, hkp, hpk, hcz, hrs, hkz, hrow⟩ := J.open (hl3 v hv)
    (try k_extra "gu")
    have huniq : ∀ ks kc, (ia, listOf (List.toArray ks) kc) ∈ GI → ks = ks1 := fun ks9 kc9 h9 => by
      have e1 := (N4 _ (List.mem_cons_of_mem _ (List.mem_cons_of_mem _ (List.mem_cons_of_mem _ hiaT)))).1
      have e2 := (N4 _ (List.mem_cons_of_mem _ (List.mem_cons_of_mem _ (List.mem_cons_of_mem _ (J.tg.sub _ (List.mem_append_left _ h9)))))).1
      simp only at e1 e2
      rw [e1] at e2
      have e3 : ks1 = ks9 ∧ kc1 = kc9 := by simpa [PySem.W.listOf] using (Option.some.inj e2)
      exact e3.1.symm
    have N5 := Mine.News.less N4 (nx := (ia, listOf (List.toArray ks1) kc1) :: (S, _) :: (I, it) :: (_, listOf (List.toArray (v0 :: lw)) lc) :: T1) fun p hp => by
      simp only [List.mem_cons] at hp ⊢
      rcases hp with h | h | h | h | h
      · rw [h]; exact .inr (.inr (.inr hiaT))
      · exact .inl h
      · exact .inr (.inl h)
      · exact .inr (.inr (.inl h))
      · exact .inr (.inr (.inr (sT1 _ h)))
    (try k_extra "gf")
    obtain ⟨m5, mm5⟩ := tg1.top
    (try k_extra "gu")
    have hrs' : rs.length ≤ 1000 := by omega
    have hlw : (v0 :: lw).length ≤ 1000 := by simp only [List.length_cons]; omega
    have hlw2 : lw.length ≤ 1000 := by omega
    have pk := Held.mk (And.intro J (And.intro hK (And.intro hia (And.intro huniq hrow))))
    clear N3 F3 oS ola oI m3 mm3 N4 J hK hia huniq hrow hl1 hl2 hl3 sT1 hiaT hv
    k_steps
    · rename _ ∈ ([_, _, _] : List Value) => hv9
      (try k_extra "gf")
      obtain ⟨x, tx, ex, hx⟩ := strv (L := nmL) (.cons (by decide +kernel) (.cons (by decide +kernel) (.cons (by decide +kernel) .nil))) hv9
      (try k_extra "gu")
      subst ex
      unfold Held
      (try dsimp only)
      refine' use_add (add_element_spec w _ _ _ _ _ _ _ _ _ _ _ _ _ _ tg1.dis hip ?hk hrs' hcz hpk) ?zB ?zF ?zX ?zN ?zT ?zk ?zd ?zu ?zP ?zG ?zE ?_
      (case zB => k_asm); (case zF => k_asm); (case zX => k_asm); (case zN => k_asm); (case zT => k_asm); (case zk => first | exact rfl | assumption); (case zd => ktr_room); (case zu => ktr_units)
      (case zP => with_reducible ((repeat (apply Pre.cons)); exact Pre.nil _)); (case zG => assumption); (case zE => repeat (first | exact OffE.nil | refine OffE.cons (by first | assumption | exact Off.ofLt (by assumption) | exact Off.ofLt (by tbn_find)) ?_))
      (case hk => exact rfl)
      intro tC rC TC hC tkC FC NC GC OC qC
      simp only [List.cons_append, List.nil_append] at NC
      simp only [OffE, and_true] at OC
      (try k_extra "gf")
      (have mt9 := GC.top; obtain ⟨mC, mmC⟩ := mt9)
      (repeat (obtain ⟨_, OC⟩ := OC))
      (try k_extra "gu")
      (try k_extra "gf")
      obtain ⟨hE0, hj0, hN0, hc0, hl0⟩ := el_none (v := .int (rs.length : Int) tC) hip qC
      (try k_extra "gu")
      have hlC := (addTo_ext (v := .int (rs.length : Int) tC) (r := rC) hip).2.2
      have hnC : (addTo rs i0 (.int (rs.length : Int) tC) rC).length ≤ 1000 := by omega
      have hkC : (rC.kind != Str.ofString "element") = false := by rw [qC.kind]; decide +kernel
      have hkN : Str.ofString "k" ∈ nmL := by decide +kernel
      have hmN : Str.ofString "m" ∈ nmL := by decide +kernel
      k_steps
      unfold Held
      rename News _ _ _ _ => N6
      rename Fr _ _ _ _ => F6
      rename (_ < (3 : Int)) => hk3
      rename ((0 : Int) ≤ _) => hk0
      rcases three_cases hk0 hk3 with e3 | e3 | e3
      all_goals
        subst e3
        refine kba_turn (value' := PySem.Expr.Name (PySem.Str.ofString "_") ⟨0, 0, 0, 0⟩) (fun _ => rfl) ?_
        refine' kms_slice_lit F6 N6 (lst_N N6 (by k_mem)) ?zp ?zq (by exact rfl) ?_ ?zs ?zt ?zz
        (case zp => kmk_part); (case zq => kmk_part); (case zs => with_unfolding_all rfl); (case zt => kmk_pure); (case zz => kmk_size)
        intro D' h' F' N' l1
        k_lt l1
        clear F6 N6
      · k_steps
        unfold Held
        rename News _ _ _ _ => NZ
        rename Fr _ _ _ _ => FZ
        (try k_extra "gf")
        obtain ⟨J, hK, hia, huniq, _⟩ := Held.out pk
        (try k_extra "gu")
        (try k_extra "gf")
        obtain ⟨nx', N', off', J'⟩ := LJ.elem J (NP := []) hK hip hkp hia huniq GC hE0 hj0 hN0 hc0 ⟨hx, Nat.zero_le _, fun _ h => nomatch h⟩ hl0 hiz NZ (by k_mem) (by k_mem) (by k_mem) (by k_mem) (by k_mem) (by k_mem) (by k_mem) (by k_mem) (fun p hp => by k_mem) (fun _ h => nomatch h) rfl ⟨by k_extra "my ord", by k_extra "my ord", by k_extra "my ord", by k_extra "my ord", by k_extra "my ord", by k_extra "my ord", by k_extra "my ord"⟩ (fun _ h => nomatch h) (by first | assumption | exact Off.ofLt (by assumption) | exact Off.ofLt (by tbn_find)) (by first | assumption | exact Off.ofLt (by assumption) | exact Off.ofLt (by tbn_find)) (by first | assumption | exact Off.ofLt (by assumption) | exact Off.ofLt (by tbn_find)) (by first | assumption | exact Off.ofLt (by assumption) | exact Off.ofLt (by tbn_find)) (by first | assumption | exact Off.ofLt (by assumption) | exact Off.ofLt (by tbn_find)) (by first | assumption | exact Off.ofLt (by assumption) | exact Off.ofLt (by tbn_find)) (by first | assumption | exact Off.ofLt (by assumption) | exact Off.ofLt (by tbn_find)) (by first | assumption | exact Off.ofLt (by assumption) | exact Off.ofLt (by tbn_find)) n1 n2 n3 (by assumption)
        (try k_extra "gu")
        exact ⟨_, _, _, nx', rfl, FZ, N', off', ⟨rfl, rfl, rfl, rfl, rfl⟩, J'⟩
      · k_steps
        rename _ ∈ ([_, _, _, _, _, _] : List Value) => hv9
        (try k_extra "gf")
        obtain ⟨y, ty, ey, hy⟩ := strv (L := atL) (.cons (by decide +kernel) (.cons (by decide +kernel) (.cons (by decide +kernel) (.cons (by decide +kernel) (.cons (by decide +kernel) (.cons (by decide +kernel) .nil)))))) hv9
        (try k_extra "gu")
        subst ey
        unfold Held
        (try dsimp only)
        refine' use_set (set_attribute_spec w _ _ _ _ _ _ _ _ _ _ _ _ _ _ _ _ _ GC.dis hj0 ?hk hnC hkC (.inl qC.atv)) ?zB ?zF ?zX ?zN ?zT ?zk ?zd ?zu ?zP ?zG ?zE ?_
        (case zB => k_asm); (case zF => k_asm); (case zX => k_asm); (case zN => k_asm); (case zT => k_asm); (case zk => first | exact rfl | assumption); (case zd => ktr_room); (case zu => ktr_units)
        (case zP => with_reducible ((repeat (apply Pre.cons)); exact Pre.nil _)); (case zG => assumption); (case zE => repeat (first | exact OffE.nil | refine OffE.cons (by first | assumption | exact Off.ofLt (by assumption) | exact Off.ofLt (by tbn_find)) ?_))
        (case hk => exact rfl)
        intro vD tD rD TD hD tkD FD ND GD OD qD
        simp only [List.cons_append, List.nil_append] at ND
        simp only [OffE, and_true] at OD
        (try k_extra "gf")
        (have mt9 := GD.top; obtain ⟨mD, mmD⟩ := mt9)
        (repeat (obtain ⟨_, OD⟩ := OD))
        (try k_extra "gu")
        (try k_extra "gf")
        obtain ⟨hE1, hj1, hN1, hc1, hl1⟩ := el_one (v := .int (rs.length : Int) tC) (tD := tD) hip qC qD
        (try k_extra "gu")
        k_steps
        unfold Held
        rename News _ _ _ _ => NZ
        rename Fr _ _ _ _ => FZ
        (try k_extra "gf")
        obtain ⟨J, hK, hia, huniq, _⟩ := Held.out pk
        (try k_extra "gu")
        obtain ⟨nx', N', off', J'⟩ := LJ.elem1 J hK hip hkp hia huniq GD hE1 hj1 hN1 hc1 ⟨hx, Nat.le_of_ble_eq_true rfl, fun p hp => by rw [List.mem_singleton.mp hp]; exact ⟨hkN, hy⟩⟩ hl1 hiz NZ (by k_mem) (by k_mem) (by k_mem) (by k_mem) (by k_mem) (by k_mem) (by k_mem) (by k_mem) (fun p hp => by k_mem) (by k_mem) ⟨by k_extra "my ord", by k_extra "my ord", by k_extra "my ord", by k_extra "my ord", by k_extra "my ord", by k_extra "my ord", by k_extra "my ord"⟩ ⟨by k_extra "my ord", by k_extra "my ord"⟩ (by first | assumption | exact Off.ofLt (by assumption) | exact Off.ofLt (by tbn_find)) (by first | assumption | exact Off.ofLt (by assumption) | exact Off.ofLt (by tbn_find)) (by first | assumption | exact Off.ofLt (by assumption) | exact Off.ofLt (by tbn_find)) (by first | assumption | exact Off.ofLt (by assumption) | exact Off.ofLt (by tbn_find)) (by first | assumption | exact Off.ofLt (by assumption) | exact Off.ofLt (by tbn_find)) (by first | assumption | exact Off.ofLt (by assumption) | exact Off.ofLt (by tbn_find)) (by first | assumption | exact Off.ofLt (by assumption) | exact Off.ofLt (by tbn_find)) (by first | assumption | exact Off.ofLt (by assumption) | exact Off.ofLt (by tbn_find)) (by first | assumption | exact Off.ofLt (by assumption) | exact Off.ofLt (by tbn_find)) n1 n2 n3 (by assumption)
        exact ⟨_, _, _, nx', rfl, FZ, N', off', ⟨rfl, rfl, rfl, rfl, rfl⟩, J'⟩
      · k_steps
        rename _ ∈ ([_, _, _, _, _, _] : List Value) => hv9
        (try k_extra "gf")
        obtain ⟨y, ty, ey, hy⟩ := strv (L := atL) (.cons (by decide +kernel) (.cons (by decide +kernel) (.cons (by decide +kernel) (.cons (by decide +kernel) (.cons (by decide +kernel) (.cons (by decide +kernel) .nil)))))) hv9
        (try k_extra "gu")
        subst ey
        unfold Held
        (try dsimp only)
        refine' use_set (set_attribute_spec w _ _ _ _ _ _ _ _ _ _ _ _ _ _ _ _ _ GC.dis hj0 ?hk hnC hkC (.inl qC.atv)) ?zB ?zF ?zX ?zN ?zT ?zk ?zd ?zu ?zP ?zG ?zE ?_
        (case zB => k_asm); (case zF => k_asm); (case zX => k_asm); (case zN => k_asm); (case zT => k_asm); (case zk => first | exact rfl | assumption); (case zd => ktr_room); (case zu => ktr_units)
        (case zP => with_reducible ((repeat (apply Pre.cons)); exact Pre.nil _)); (case zG => assumption); (case zE => repeat (first | exact OffE.nil | refine OffE.cons (by first | assumption | exact Off.ofLt (by assumption) | exact Off.ofLt (by tbn_find)) ?_))
        (case hk => exact rfl)
        intro vD tD rD TD hD tkD FD ND GD OD qD
        simp only [List.cons_append, List.nil_append] at ND
        simp only [OffE, and_true] at OD
        (try k_extra "gf")
        (have mt9 := GD.top; obtain ⟨mD, mmD⟩ := mt9)
        (repeat (obtain ⟨_, OD⟩ := OD))
        (try k_extra "gu")
        (try k_extra "gf")
        obtain ⟨hE1, hj1, hN1, hc1, hl1⟩ := el_one (v := .int (rs.length : Int) tC) (tD := tD) hip qC qD
        (try k_extra "gu")
        have hlD := hl1
        have hnD : (setTo (addTo rs i0 (.int (rs.length : Int) tC) rC) rs.length (.int ((addTo rs i0 (.int (rs.length : Int) tC) rC).length : Int) tD) rD).length ≤ 1000 := by omega
        have hs3 := (setTo_ext (v := .int ((addTo rs i0 (.int (rs.length : Int) tC) rC).length : Int) tD) (r := rD) hj0).2.2.1
        have hat2 : (attTo (.int ((addTo rs i0 (.int (rs.length : Int) tC) rC).length : Int) tD) rC).atv = [Value.int ((addTo rs i0 (.int (rs.length : Int) tC) rC).length : Int) tD] := by show rC.atv ++ _ = _; rw [qC.atv]; rfl
        have hu2 : (rD.uri == Str.ofString "") = true := by rw [qD.uri]; decide +kernel
        have hl2' : (rD.loc == Str.ofString "m") = false := by rw [qD.loc]; decide +kernel
        k_steps
        rename _ ∈ ([_, _, _, _, _, _] : List Value) => hv9
        (try k_extra "gf")
        obtain ⟨z, tz, ez, hz⟩ := strv (L := atL) (.cons (by decide +kernel) (.cons (by decide +kernel) (.cons (by decide +kernel) (.cons (by decide +kernel) (.cons (by decide +kernel) (.cons (by decide +kernel) .nil)))))) hv9
        (try k_extra "gu")
        subst ez
        unfold Held
        (try dsimp only)
        refine' use_set (set_attribute_spec w _ _ _ _ _ _ _ _ _ _ _ _ _ _ _ _ _ GD.dis hj1 ?hk hnD hkC (.inr ⟨_, _, _, rD, hat2, hs3, rfl, hu2, hl2'⟩)) ?zB ?zF ?zX ?zN ?zT ?zk ?zd ?zu ?zP ?zG ?zE ?_
        (case zB => k_asm); (case zF => k_asm); (case zX => k_asm); (case zN => k_asm); (case zT => k_asm); (case zk => first | exact rfl | assumption); (case zd => ktr_room); (case zu => ktr_units)
        (case zP => with_reducible ((repeat (apply Pre.cons)); exact Pre.nil _)); (case zG => assumption); (case zE => repeat (first | exact OffE.nil | refine OffE.cons (by first | assumption | exact Off.ofLt (by assumption) | exact Off.ofLt (by tbn_find)) ?_))
        (case hk => exact rfl)
        intro vE tE rE TE hE tkE FE NE GE OE qE
        simp only [List.cons_append, List.nil_append] at NE
        simp only [OffE, and_true] at OE
        (try k_extra "gf")
        (have mt9 := GE.top; obtain ⟨mE, mmE⟩ := mt9)
        (repeat (obtain ⟨_, OE⟩ := OE))
        (try k_extra "gu")
        (try k_extra "gf")
        obtain ⟨hE2, hj2, hN2, hc2, hl2⟩ := el_two (v := .int (rs.length : Int) tC) (tD := tD) (tE := tE) hip qC qD qE rfl
        (try k_extra "gu")
        k_steps
        unfold Held
        rename News _ _ _ _ => NZ
        rename Fr _ _ _ _ => FZ
        (try k_extra "gf")
        obtain ⟨J, hK, hia, huniq, _⟩ := Held.out pk
        (try k_extra "gu")
        obtain ⟨nx', N', off', J'⟩ := LJ.elem2 J hK hip hkp hia huniq GE hE2 hj2 hN2 hc2 ⟨hx, Nat.le_of_ble_eq_true rfl, fun p hp => by simp only [List.mem_cons, List.not_mem_nil, or_false] at hp; rcases hp with rfl | rfl; (exact ⟨hkN, hy⟩); exact ⟨hmN, hz⟩⟩ hl2 hiz NZ (by k_mem) (by k_mem) (by k_mem) (by k_mem) (by k_mem) (by k_mem) (by k_mem) (by k_mem) (fun p hp => by k_mem) (by k_mem) (by k_mem) ⟨by k_extra "my ord", by k_extra "my ord", by k_extra "my ord", by k_extra "my ord", by k_extra "my ord", by k_extra "my ord", by k_extra "my ord"⟩ ⟨by k_extra "my ord", by k_extra "my ord"⟩ (by first | assumption | exact Off.ofLt (by assumption) | exact Off.ofLt (by tbn_find)) ⟨by k_extra "my ord", by k_extra "my ord"⟩ (by first | assumption | exact Off.ofLt (by assumption) | exact Off.ofLt (by tbn_find)) (by first | assumption | exact Off.ofLt (by assumption) | exact Off.ofLt (by tbn_find)) (by first | assumption | exact Off.ofLt (by assumption) | exact Off.ofLt (by tbn_find)) (by first | assumption | exact Off.ofLt (by assumption) | exact Off.ofLt (by tbn_find)) (by first | assumption | exact Off.ofLt (by assumption) | exact Off.ofLt (by tbn_find)) (by first | assumption | exact Off.ofLt (by assumption) | exact Off.ofLt (by tbn_find)) (by first | assumption | exact Off.ofLt (by assumption) | exact Off.ofLt (by tbn_find)) (by first | assumption | exact Off.ofLt (by assumption) | exact Off.ofLt (by tbn_find)) (by first | assumption | exact Off.ofLt (by assumption) | exact Off.ofLt (by tbn_find)) n1 n2 n3 (by assumption)
        exact ⟨_, _, _, nx', rfl, FZ, N', off', ⟨rfl, rfl, rfl, rfl, rfl⟩, J'⟩
    · unfold Held
      rename Fr _ _ _ _ => F6
      rename News _ _ _ _ => N6
      refine if_cut F6 N6 ?_ ?_ ?_
      · k_steps
        rotate_left
        · unfold Held
          exact ⟨_, _, rfl, by k_asm, News.less (by k_asm) fun p hp => by k_mem⟩
        · unfold Held
          rename News _ _ _ _ => N7
          by_cases hks : ks1 = []
          · refine eqE_yes N7 (by k_mem) (by k_mem) hks (by units_room) ?_
            k_steps
            try unfold Held
            exact ⟨_, _, rfl, by k_asm, News.less (by k_asm) fun p hp => by k_mem⟩
          · refine eqE_no N7 (by k_mem) (by k_mem) hks (by units_room) ?_
            (try k_extra "gf")
            obtain ⟨ks2, u2, eks⟩ : ∃ ks2 u2, ks1 = ks2 ++ [u2] := ⟨ks1.dropLast, ks1.getLast hks, (List.dropLast_concat_getLast hks).symm⟩
            (try k_extra "gu")
            subst eks
            (try k_extra "gf")
            obtain ⟨_, _, _, _, hrow⟩ := Held.out pk
            (try k_extra "gu")
            (try k_extra "gf")
            obtain ⟨lU, nvU, kU, nmU, xU, t1U, t2U, t3U, paU, iaU, eU, hlU⟩ := hrow u2 (by simp)
            (try k_extra "gu")
            subst eU
            clear hrow
            k_steps
            all_goals
              try unfold Held
              exact ⟨_, _, rfl, by k_asm, News.less (by k_asm) fun p hp => by k_mem⟩
      · clear F6 N6
        intro h9 tk9 F9 N9
        k_steps
        rename _ ∈ ([_, _, _, _, _, _] : List Value) => hv9
        (try k_extra "gf")
        obtain ⟨x, tx, ex, hx⟩ := strv (L := txL) (.cons (by decide +kernel) (.cons (by decide +kernel) (.cons (by decide +kernel) (.cons (by decide +kernel) (.cons (by decide +kernel) (.cons (by decide +kernel) .nil)))))) hv9
        (try k_extra "gu")
        subst ex
        unfold Held
        (try dsimp only)
        refine' use_add (add_text_spec w _ _ _ _ _ _ _ _ _ _ _ tg1.dis hip ?hk hrs' hcz hpk) ?zB ?zF ?zX ?zN ?zT ?zk ?zd ?zu ?zP ?zG ?zE ?_
        (case zB => k_asm); (case zF => k_asm); (case zX => k_asm); (case zN => k_asm); (case zT => k_asm); (case zk => first | exact rfl | assumption); (case zd => ktr_room); (case zu => ktr_units)
        (case zP => with_reducible ((repeat (apply Pre.cons)); exact Pre.nil _)); (case zG => assumption); (case zE => repeat (first | exact OffE.nil | refine OffE.cons (by first | assumption | exact Off.ofLt (by assumption) | exact Off.ofLt (by tbn_find)) ?_))
        (case hk => exact rfl)
        intro tC rC TC hC tkC FC NC GC OC qC
        simp only [List.cons_append, List.nil_append] at NC
        simp only [OffE, and_true] at OC
        (try k_extra "gf")
        (have mt9 := GC.top; obtain ⟨mC, mmC⟩ := mt9)
        (repeat (obtain ⟨_, OC⟩ := OC))
        (try k_extra "gu")
        k_steps
        unfold Held
        rename News _ _ _ _ => NZ
        rename Fr _ _ _ _ => FZ
        (try k_extra "gf")
        obtain ⟨J, hK, hia, huniq, _⟩ := Held.out pk
        (try k_extra "gu")
        (try k_extra "gf")
        obtain ⟨nx', N', off', J'⟩ := LJ.leaf J hK hip hkp hia huniq GC ⟨qC.kind, qC.value⟩ qC.chv hx hiz (n := .tx x) ⟨rfl, rfl, rfl⟩ rfl NZ (by k_mem) (by k_mem) (by k_mem) (by k_mem) (by k_mem) (by k_mem) (by k_mem) (fun p hp => by k_mem) ⟨by k_extra "my ord", by k_extra "my ord", by k_extra "my ord", by k_extra "my ord", by k_extra "my ord", by k_extra "my ord"⟩ (by first | assumption | exact Off.ofLt (by assumption) | exact Off.ofLt (by tbn_find)) (by first | assumption | exact Off.ofLt (by assumption) | exact Off.ofLt (by tbn_find)) (by first | assumption | exact Off.ofLt (by assumption) | exact Off.ofLt (by tbn_find)) (by first | assumption | exact Off.ofLt (by assumption) | exact Off.ofLt (by tbn_find)) (by first | assumption | exact Off.ofLt (by assumption) | exact Off.ofLt (by tbn_find)) (by first | assumption | exact Off.ofLt (by assumption) | exact Off.ofLt (by tbn_find)) (by first | assumption | exact Off.ofLt (by assumption) | exact Off.ofLt (by tbn_find)) n1 n2 n3 (by assumption)
        (try k_extra "gu")
        exact ⟨_, _, _, nx', rfl, FZ, N', off', ⟨rfl, rfl, rfl, rfl, rfl⟩, J'⟩
      · clear F6 N6
        intro h9 tk9 F9 N9
        k_steps
        · rename _ ∈ ([_, _, _] : List Value) => hv9
          (try k_extra "gf")
          obtain ⟨x, tx, ex, hx⟩ := strv (L := cmL) (.cons (by decide +kernel) (.cons (by decide +kernel) (.cons (by decide +kernel) .nil))) hv9
          (try k_extra "gu")
          subst ex
          unfold Held
          (try dsimp only)
          refine' use_add (add_comment_spec w _ _ _ _ _ _ _ _ _ _ _ tg1.dis hip ?hk hrs' hcz hpk) ?zB ?zF ?zX ?zN ?zT ?zk ?zd ?zu ?zP ?zG ?zE ?_
          (case zB => k_asm); (case zF => k_asm); (case zX => k_asm); (case zN => k_asm); (case zT => k_asm); (case zk => first | exact rfl | assumption); (case zd => ktr_room); (case zu => ktr_units)
          (case zP => with_reducible ((repeat (apply Pre.cons)); exact Pre.nil _)); (case zG => assumption); (case zE => repeat (first | exact OffE.nil | refine OffE.cons (by first | assumption | exact Off.ofLt (by assumption) | exact Off.ofLt (by tbn_find)) ?_))
          (case hk => exact rfl)
          intro tC rC TC hC tkC FC NC GC OC qC
          simp only [List.cons_append, List.nil_append] at NC
          simp only [OffE, and_true] at OC
          (try k_extra "gf")
          (have mt9 := GC.top; obtain ⟨mC, mmC⟩ := mt9)
          (repeat (obtain ⟨_, OC⟩ := OC))
          (try k_extra "gu")
          k_steps
          unfold Held
          rename News _ _ _ _ => NZ
          rename Fr _ _ _ _ => FZ
          (try k_extra "gf")
          obtain ⟨J, hK, hia, huniq, _⟩ := Held.out pk
          (try k_extra "gu")
          (try k_extra "gf")
          obtain ⟨nx', N', off', J'⟩ := LJ.leaf J hK hip hkp hia huniq GC ⟨qC.kind, qC.value⟩ qC.chv hx hiz (n := .cm x) ⟨rfl, rfl, rfl⟩ rfl NZ (by k_mem) (by k_mem) (by k_mem) (by k_mem) (by k_mem) (by k_mem) (by k_mem) (fun p hp => by k_mem) ⟨by k_extra "my ord", by k_extra "my ord", by k_extra "my ord", by k_extra "my ord", by k_extra "my ord", by k_extra "my ord"⟩ (by first | assumption | exact Off.ofLt (by assumption) | exact Off.ofLt (by tbn_find)) (by first | assumption | exact Off.ofLt (by assumption) | exact Off.ofLt (by tbn_find)) (by first | assumption | exact Off.ofLt (by assumption) | exact Off.ofLt (by tbn_find)) (by first | assumption | exact Off.ofLt (by assumption) | exact Off.ofLt (by tbn_find)) (by first | assumption | exact Off.ofLt (by assumption) | exact Off.ofLt (by tbn_find)) (by first | assumption | exact Off.ofLt (by assumption) | exact Off.ofLt (by tbn_find)) (by first | assumption | exact Off.ofLt (by assumption) | exact Off.ofLt (by tbn_find)) n1 n2 n3 (by assumption)
          (try k_extra "gu")
          exact ⟨_, _, _, nx', rfl, FZ, N', off', ⟨rfl, rfl, rfl, rfl, rfl⟩, J'⟩
        · rename _ ∈ ([_, _, _] : List Value) => hv9
          (try k_extra "gf")
          obtain ⟨x, tx, ex, hx⟩ := strv (L := piL) (.cons (by decide +kernel) (.cons (by decide +kernel) (.cons (by decide +kernel) .nil))) hv9
          (try k_extra "gu")
          subst ex
          unfold Held
          (try dsimp only)
          refine' use_add (add_instruction_spec w _ _ _ _ _ _ _ _ _ _ _ _ _ tg1.dis hip ?hk hrs' hcz hpk) ?zB ?zF ?zX ?zN ?zT ?zk ?zd ?zu ?zP ?zG ?zE ?_
          (case zB => k_asm); (case zF => k_asm); (case zX => k_asm); (case zN => k_asm); (case zT => k_asm); (case zk => first | exact rfl | assumption); (case zd => ktr_room); (case zu => ktr_units)
          (case zP => with_reducible ((repeat (apply Pre.cons)); exact Pre.nil _)); (case zG => assumption); (case zE => repeat (first | exact OffE.nil | refine OffE.cons (by first | assumption | exact Off.ofLt (by assumption) | exact Off.ofLt (by tbn_find)) ?_))
          (case hk => exact rfl)
          intro tC rC TC hC tkC FC NC GC OC qC
          simp only [List.cons_append, List.nil_append] at NC
          simp only [OffE, and_true] at OC
          (try k_extra "gf")
          (have mt9 := GC.top; obtain ⟨mC, mmC⟩ := mt9)
          (repeat (obtain ⟨_, OC⟩ := OC))
          (try k_extra "gu")
          k_steps
          unfold Held
          rename News _ _ _ _ => NZ
          rename Fr _ _ _ _ => FZ
          (try k_extra "gf")
          obtain ⟨J, hK, hia, huniq, _⟩ := Held.out pk
          (try k_extra "gu")
          (try k_extra "gf")
          obtain ⟨nx', N', off', J'⟩ := LJ.leaf J hK hip hkp hia huniq GC ⟨qC.kind, qC.name, qC.value⟩ qC.chv hx hiz (n := .pi x) ⟨rfl, rfl, rfl⟩ rfl NZ (by k_mem) (by k_mem) (by k_mem) (by k_mem) (by k_mem) (by k_mem) (by k_mem) (fun p hp => by k_mem) ⟨by k_extra "my ord", by k_extra "my ord", by k_extra "my ord", by k_extra "my ord", by k_extra "my ord", by k_extra "my ord"⟩ (by first | assumption | exact Off.ofLt (by assumption) | exact Off.ofLt (by tbn_find)) (by first | assumption | exact Off.ofLt (by assumption) | exact Off.ofLt (by tbn_find)) (by first | assumption | exact Off.ofLt (by assumption) | exact Off.ofLt (by tbn_find)) (by first | assumption | exact Off.ofLt (by assumption) | exact Off.ofLt (by tbn_find)) (by first | assumption | exact Off.ofLt (by assumption) | exact Off.ofLt (by tbn_find)) (by first | assumption | exact Off.ofLt (by assumption) | exact Off.ofLt (by tbn_find)) (by first | assumption | exact Off.ofLt (by assumption) | exact Off.ofLt (by tbn_find)) n1 n2 n3 (by assumption)
          (try k_extra "gu")
          exact ⟨_, _, _, nx', rfl, FZ, N', off', ⟨rfl, rfl, rfl, rfl, rfl⟩, J'⟩
local macro_rules | `(tactic| k_steps) => `(tactic| repeat' (first | (k_unfold; (try dsimp only)) | (k_end; wrow_close) | walk1 | (dsimp only; walk1) | (leave1; walk_say "STEP leave1"; try dsimp only) | fail "no step"))

theorem reg_LO_1 : True := by
  k_with "call ref" => (((with_reducible show wpAny _ _ (call (Value.ref 33) _) _ _ _); k_here; k_dflt ((first | with_reducible refine' use_wstr (string_value_spec _ _ _ _ _ _ _ _ _ ?zqhT ?zqhi ?zqhk ?zqhn ?zqhr ?zqhf ?zqhs ?zqhz) ?zqB ?zqF ?zqX ?zqN ?zqT ?zqk ?zqd ?zqu ?_ | refine' use_wstr (string_value_spec _ _ _ _ _ _ _ _ _ ?zqhT ?zqhi ?zqhk ?zqhn ?zqhr ?zqhf ?zqhs ?zqhz) ?zqB ?zqF ?zqX ?zqN ?zqT ?zqk ?zqd ?zqu ?_); (case zqB => k_asm); (case zqF => k_asm); (case zqX => k_asm); (case zqN => k_asm); (case zqT => k_asm); (case zqhk => first | exact rfl | assumption | omega); (case zqhT => first | assumption | exact TreeIn.mono (by assumption) (by intro pm9 hpm9; repeat (first | exact hpm9 | refine List.mem_cons_of_mem _ ?_))); (case zqhi => assumption); (case zqhn => assumption); (case zqhr => assumption); (case zqhf => assumption); (case zqhs => first | assumption | omega); (case zqhz => assumption); (case zqk => first | exact rfl | assumption); (case zqd => ktr_room); (case zqu => ktr_units); k_whole); intro tm9 hm9 tkm9 Fm9 Nm9; (try k_sweep); (try dsimp only)))
  trivial
theorem reg_LO_2 : True := by
  k_with "call ref" => (((with_reducible show wpAny _ _ (call (Value.ref 142) _) _ _ _); k_here; k_dflt ((first | with_reducible refine' use_wstr (write_spec _ _ _ _ _ _ _ _ _ _ ?zqhT ?zqhi ?zqhk ?zqhn ?zqhr ?zqhf ?zqhok ?zqhs ?zqhz) ?zqB ?zqF ?zqX ?zqN ?zqT ?zqk ?zqd ?zqu ?_ | refine' use_wstr (write_spec _ _ _ _ _ _ _ _ _ _ ?zqhT ?zqhi ?zqhk ?zqhn ?zqhr ?zqhf ?zqhok ?zqhs ?zqhz) ?zqB ?zqF ?zqX ?zqN ?zqT ?zqk ?zqd ?zqu ?_); (case zqB => k_asm); (case zqF => k_asm); (case zqX => k_asm); (case zqN => k_asm); (case zqT => k_asm); (case zqhk => first | exact rfl | assumption | omega); (case zqhT => first | assumption | exact TreeIn.mono (by assumption) (by intro pm9 hpm9; repeat (first | exact hpm9 | refine List.mem_cons_of_mem _ ?_))); (case zqhi => assumption); (case zqhn => assumption); (case zqhr => assumption); (case zqhf => assumption); (case zqhok => assumption); (case zqhs => first | assumption | omega); (case zqhz => assumption); (case zqk => first | exact rfl | assumption); (case zqd => ktr_room); (case zqu => ktr_units); k_whole); intro tm9 hm9 tkm9 Fm9 Nm9; (try k_sweep); (try dsimp only)))
  trivial
abbrev outO (P : Params) (a0 a1 a2 a3 a4 : Tok) (mv hv sv : Value) (c wd : Addr) (n : Nat) : Obj :=
  dictOf [keyE P (Str.ofString "method") a0 mv, keyE P (Str.ofString "has_declaration") a1 hv, keyE P (Str.ofString "standalone") a2 sv, keyE P (Str.ofString "cdata") a3 (.ref c), keyE P (Str.ofString "words") a4 (.ref wd)] n
theorem written_text_spec (w : World) (news : List (Addr × Obj)) (tr : Addr) (rs : List NdR) (i : Nat) (r : NdR) (k : Int) (t : Tok) (f : Fo) (ou od c wd : Addr) (a0 a1 a2 a3 a4 : Tok) (hv sv : Value) (tm : Tok) (en : Nat) (hT : TreeIn w.params news tr rs) (hi : rs[i]? = some r) (hk : k = (i : Int)) (hn : rs.length ≤ 1000)
    (hr : r.kind = Str.ofString "root") (hf : RepT rs r.chv f) (hs : f.size ≤ 20) (hz : (catS f.plainP).length ≤ 16777216) (mo : (ou, instObj 166 od) ∈ news) (md : (od, outO w.params a0 a1 a2 a3 a4 (.str (Str.ofString "text") tm) hv sv c wd en) ∈ news) :
    SpecW w 149 [.ref tr, .int k t, .ref ou] 120 220 news (fun v n' => n' = news ∧ ∃ t', v = .str (catS f.plainP) t') := by
  unfold SpecW
  k_fill
  intro mean mg mb dp un gd cn cs a ccd cl outer A₀ base h₀ L m s Q E B F X N T hk hd hu hret
  refine wpAny_call ?_
  k_dflt ktr_enter
  k_steps
  all_goals exact hret _ _ _ _ (by k_asm) (by k_asm) ⟨rfl, _, rfl⟩
theorem written_xml_spec (w : World) (news : List (Addr × Obj)) (tr : Addr) (rs : List NdR) (i : Nat) (r : NdR) (k : Int) (t : Tok) (f : Fo) (ou od c wd : Addr) (a0 a1 a2 a3 a4 : Tok) (sv mv : Value) (b : Bool) (en : Nat) (hT : TreeIn w.params news tr rs) (hi : rs[i]? = some r) (hk : k = (i : Int)) (hn : rs.length ≤ 1000)
    (hr : r.kind = Str.ofString "root") (hf : RepT rs r.chv f) (hok : f.Ok) (hs : f.size ≤ 20) (hz : (catS (dclP b ++ f.pcs)).length ≤ 16777216) (hm : mv = .none ∨ ∃ tm, mv = .str (Str.ofString "xml") tm) (mo : (ou, instObj 166 od) ∈ news) (md : (od, outO w.params a0 a1 a2 a3 a4 mv (.bool b) sv c wd en) ∈ news) :
    SpecW w 149 [.ref tr, .int k t, .ref ou] 120 220 news (fun v n' => n' = news ∧ ∃ t', v = .str (catS (dclP b ++ f.pcs)) t') := by
  rcases hm with rfl | ⟨tm, rfl⟩
  all_goals
    unfold SpecW
    k_fill
    intro mean mg mb dp un gd cn cs a ccd cl outer A₀ base h₀ L m s Q E B F X N T hk hd hu hret
    refine wpAny_call ?_
    k_dflt ktr_enter
    k_steps
    all_goals exact hret _ _ _ _ (by k_asm) (by k_asm) ⟨rfl, _, rfl⟩

inductive OutP (w : World) (news : List (Addr × Obj)) (v : Value) (n' : List (Addr × Obj)) : Prop
  | mk (x d c wd : Addr) (a0 a1 a2 a3 a4 : Tok) (h1 : v = .ref x) (h2 : n' = (x, instObj 166 d) :: (d, outO w.params a0 a1 a2 a3 a4 .none (.bool true) .none c wd 5) :: news) (h3 : AllLt d news) (h4 : (@LT.lt Nat _ d x))
theorem output_spec (w : World) (news : List (Addr × Obj)) : SpecW w 166 [] 60 120 news (OutP w news) := by
  unfold SpecW
  k_fill
  intro mean mg mb dp un gd cn cs a ccd cl outer A₀ base h₀ L m s Q E B F X N T hk hd hu hret
  refine' call_cls ?k1 ?k2 ?k3 ?k4 ?k5 ?k6 ?_
  (case k1 => k_asm)
  (case k2 => k_asm)
  (case k3 => k_asm)
  (case k4 => k_is)
  (case k5 => k_is)
  (case k6 => k_is)
  intro x' d' h' F' N' l1 l2
  have l1' := allLt_of l1
  (try k_lt2 l2)
  ktr_enter
  k_steps
  all_goals exact hret _ _ _ _ (by k_asm) (News.less (by k_asm) (sub3 (x1 := (x', instObj 166 d')) (x2 := (d', outO w.params _ _ _ _ _ .none (.bool true) .none _ _ 5)) (by k_mem) (by k_mem) fun p hp => by k_mem)) ⟨x', d', _, _, _, _, _, _, _, rfl, rfl, l1', l2⟩
theorem reg_LZ_1 : True := by
  k_with "call ref" => (((with_reducible show wpAny _ _ (call (Value.ref 166) _) _ _ _); k_here; k_dflt ((first | with_reducible refine' use_w (output_spec _ _) ?zqB ?zqF ?zqX ?zqN ?zqT ?zqk ?zqd ?zqu ?_ | refine' use_w (output_spec _ _) ?zqB ?zqF ?zqX ?zqN ?zqT ?zqk ?zqd ?zqu ?_); (case zqB => k_asm); (case zqF => k_asm); (case zqX => k_asm); (case zqN => k_asm); (case zqT => k_asm); (case zqk => first | exact rfl | assumption); (case zqd => ktr_room); (case zqu => ktr_units); k_whole); intro rm9 nm9 hm9 tkm9 Fm9 Nm9 pm9; (try k_extra "gf"); obtain ⟨xm9, dm9, cm9, wdm9, a90, a91, a92, a93, a94, em9, fm9, l1, l2⟩ := pm9; subst em9; subst fm9; (try dsimp only [outO, keyE] at Nm9); (try simp only [AllLt, and_true] at l1); (try k_extra "gu"); (try k_sweep); (try dsimp only)))
  trivial
theorem reg_LZ_2 : True := by
  k_with "callWith ref" => (((with_reducible show wpAny _ _ (callWith _ (Value.ref 166) _ _ _) _ _ _); k_here; k_dflt (refine' callWith_K0 ?zqk1 ?zqk2 ?_; (case zqk1 => (rename Fr _ _ _ _ => kFm9; rename Frag.In _ _ => kXm9; exact Frag.In.keeps kXm9 kFm9.keep)); (case zqk2 => k_is); k_whole)))
  trivial

theorem reg_LP_1 : True := by
  k_with "call ref" => (((with_reducible show wpAny _ _ (call (Value.ref 388) _) _ _ _); (fail_if_success (with_reducible show wpAny _ _ _ (fun _ _ => Held _) _ _)); k_here; refine Held.out ?_))
  trivial
def PoolP (h₀ : Heap) (L : Addr) (m : Str → Option Value) (s : Shared) (v : Value) (s' : Shared) : Prop :=
  ∃ (l : Addr) (o : Obj) (h' : Heap) (tk' : Nat), v = .ref l ∧ s' = { s with heap := h', toks := tk' } ∧ Fr h₀ L h' m ∧ News h₀ L h' [(l, o)] ∧ Src o
theorem pool_cut {prog : Program} {w : World} {A : Around} {E : Value → Shared → Prop} {s : Shared} {t : Sem Value} {Q : Value → Shared → Prop} {g h : Heap} {L : Addr} {m : Str → Option Value} (_F : Fr g L h m)
    (h1 : wpAny (model prog w) A t (fun v s' => Held (PoolP g L m s v s')) E s) (h2 : ∀ v s', PoolP g L m s v s' → Q v s') : wpAny (model prog w) A t Q E s :=
  wpAny_mono h1 (fun v s' p => h2 v s' p) fun _ _ e => e
theorem pool_pos (x : Int) (c : Prop) [Decidable c] : 0 ≤ (if -1 - x > x then -1 - x else x) * (if c then 1 else 0) := by
  have h : 0 ≤ (if -1 - x > x then -1 - x else x) := by split <;> omega
  by_cases hc : c
  · rw [if_pos hc, Int.mul_one]; exact h
  · rw [if_neg hc, Int.mul_zero]; exact Int.le_refl 0
theorem reg_LP_2 : True := by
  k_with "call ref" => (((with_reducible show wpAny _ _ (call (Value.ref 409) _) _ _ _); k_here; refine Held.out ?_))
  trivial

theorem reg_LQ_1 : True := by
  k_with "call ref" => (((with_reducible show wpAny _ _ (call (Value.ref 149) _) _ _ _); k_here; refine Held.out ?_))
  trivial
def declS (b : Bool) : Str := if b = true then Str.ofString "<?xml version=\"1.0\" encoding=\"UTF-8\"?>\n" else Str.ofString ""
inductive StrMid (g : Heap) (L : Addr) (m : Str → Option Value) (x : Str) (news : List (Addr × Obj)) (s : Shared) (v : Value) (s' : Shared) : Prop
  | mk (t : Tok) (h8 : Heap) (tk8 : Nat) (h1 : v = .str x t) (h2 : s' = { s with heap := h8, toks := tk8 }) (h3 : Fr g L h8 m) (h4 : News g L h8 news)
theorem str_cut {prog : Program} {w : World} {A : Around} {E : Value → Shared → Prop} {s : Shared} {t : Sem Value} {Q : Value → Shared → Prop} {g h : Heap} {L : Addr} {m : Str → Option Value} {news : List (Addr × Obj)} (x : Str) (_F : Fr g L h m) (_N : News g L h news)
    (h1 : wpAny (model prog w) A t (fun v s' => Held (StrMid g L m x news s v s')) E s) (h2 : ∀ t h8 tk8, Fr g L h8 m → News g L h8 news → Q (.str x t) { s with heap := h8, toks := tk8 }) : wpAny (model prog w) A t Q E s :=
  wpAny_mono h1 (fun v s' p => by
    (try k_extra "gf")
    obtain ⟨t, h8, tk8, e1, e2, F, N⟩ := p
    (try k_extra "gu")
    subst e1; subst e2
    exact h2 t h8 tk8 F N) fun _ _ e => e
theorem decl_cut {prog : Program} {w : World} {A : Around} {E : Value → Shared → Prop} {s : Shared} {t : Sem Value} {Q : Value → Shared → Prop} {g h : Heap} {L : Addr} {m : Str → Option Value} {news : List (Addr × Obj)} {k : Int} (_hk : 0 ≤ k) (_F : Fr g L h m) (_N : News g L h news)
    (h1 : wpAny (model prog w) A t (fun v s' => Held (StrMid g L m (declS (k == 0)) news s v s')) E s) (h2 : ∀ t h8 tk8, Fr g L h8 m → News g L h8 news → Q (.str (declS (k == 0)) t) { s with heap := h8, toks := tk8 }) : wpAny (model prog w) A t Q E s :=
  str_cut _ _F _N h1 h2
theorem declS_len (b : Bool) : (declS b).length ≤ 100 := by cases b <;> exact Nat.le_of_ble_eq_true (by decide +kernel)
theorem dcl_len (b : Bool) : (catS (dclP b)).length ≤ 100 := by cases b <;> exact Nat.le_of_ble_eq_true (by decide +kernel)
theorem decl_eq (b : Bool) (l : List Str) : (catS (dclP b ++ l) != (declS b ++ catS l)) = false := by
  have e : catS (dclP b ++ l) = declS b ++ catS l := by
    rw [catS_append]
    cases b
    · rw [show dclP false = [] from rfl, catS_nil]; rfl
    · rw [show dclP true = [Str.ofString "<?xml version=\"1.0\" encoding=\"UTF-8\"?>\n"] from rfl, catS_one]; rfl
  rw [e]; simp
theorem decl_eqk {k : Int} (_ : 0 ≤ k) (l : List Str) : (catS (dclP (k == 0) ++ l) != (declS (k == 0) ++ catS l)) = false := decl_eq _ l
theorem declk_len {k : Int} (_ : 0 ≤ k) : (declS (k == 0)).length ≤ 100 := declS_len _
theorem declS_yes {k : Int} (h : k = 0) (t : Tok) : Value.str (Str.ofString "<?xml version=\"1.0\" encoding=\"UTF-8\"?>\n") t = .str (declS (k == 0)) t := by rw [beq_iff_eq.mpr h]; rfl
theorem declS_no {k : Int} (h : k ≠ 0) (t : Tok) : Value.str (Str.ofString "") t = .str (declS (k == 0)) t := by rw [beq_eq_false_iff_ne.mpr h]; rfl
theorem reg_LQ_2 : True := by
  k_with "eval IfExp" => (((fail_if_success (with_reducible show wpAny _ _ _ (fun _ _ => Held _) _ _)); k_here; refine Held.out ?_))
  trivial
theorem post_true (args : List WData) : PySem.Challenge.rw_on0191_01.row.toRowW.claim.post args (.bool true) args = true := by
  show (WShape.has [] (WData.bool true) WShape.bool && WTm.holds [] (WTm.res.eq (WTm.lit (WData.bool true))) { args := args, res := some (WData.bool true), after := args }) = true
  rw [Bool.and_eq_true]
  refine ⟨?_, ?_⟩
  · first | (simp [WShape.has, WShape.arms]; done) | (decide +kernel) | rfl
  · simp only [WTm.holds, WTm.value]
    first | (decide +kernel) | (simp [WData.same]; done) | rfl
local macro_rules | `(tactic| wrow_close) => `(tactic| ((with_reducible show GoodW _ _ _ _ _ _ _); exact goodW_bool (by assumption) (by assumption) (fun _ => rfl) (post_true _)))
local macro_rules | `(tactic| k_steps) => `(tactic| repeat' (first | (k_unfold; (try dsimp only)) | (k_end; wrow_close) | ((first | (with_reducible show wpAny _ _ (exec _ _) _ _ _) | (with_reducible show wpAny _ _ (execs _ _) _ _ _)); (fail_if_success (fail_if_success k_fold)); refine fold_q ?_; intro qk9) | walk1 | (dsimp only; walk1) | (leave1; walk_say "STEP leave1"; try dsimp only) | fail "no step"))
theorem law_holds.tw10007947361888340627 : True := trivial
theorem law_holds.tw10027879121665395642 : True := trivial
theorem law_holds.tw10028117763298573888 : True := trivial
theorem law_holds.tw10093380194815717143 : True := trivial
theorem law_holds.tw10108825076125807744 : True := trivial
theorem law_holds.tw10188763426450519768 : True := trivial
theorem law_holds.tw10222300733896627045 : True := trivial
theorem law_holds.tw10242277825702978295 : True := trivial
theorem law_holds.tw10264638600885302300 : True := trivial
theorem law_holds.tw10296202853966499060 : True := trivial
theorem law_holds.tw10301956948240465243 : True := trivial
theorem law_holds.tw1031057903888850656 : True := trivial
theorem law_holds.tw10346744231138586394 : True := trivial
theorem law_holds.tw10350734228115807855 : True := trivial
theorem law_holds.tw1035469204868569938 : True := trivial
theorem law_holds.tw10362271348294423435 : True := trivial
theorem law_holds.tw10368410895845634921 : True := trivial
theorem law_holds.tw10371022188087798493 : True := trivial
theorem law_holds.tw10441050188594101415 : True := trivial
theorem law_holds.tw10442559174759676424 : True := trivial
theorem law_holds.tw10458381655096516384 : True := trivial
theorem law_holds.tw10486713781251687710 : True := trivial
theorem law_holds.tw10516828495840041881 : True := trivial
theorem law_holds.tw10517181812226103804 : True := trivial
theorem law_holds.tw10566571302883470556 : True := trivial
theorem law_holds.tw10609929442622069884 : True := trivial
theorem law_holds.tw10666784280354678857 : True := trivial
theorem law_holds.tw10726639523019406850 : True := trivial
theorem law_holds.tw10767655046202684341 : True := trivial
theorem law_holds.tw10841264019214440115 : True := trivial
theorem law_holds.tw10954758410522031216 : True := trivial
theorem law_holds.tw10958410103948607464 : True := trivial
theorem law_holds.tw10968802771074238664 : True := trivial
theorem law_holds.tw1096898596823417342 : True := trivial
theorem law_holds.tw10983241140555628109 : True := trivial
theorem law_holds.tw1099259369241382048 : True := trivial
theorem law_holds.tw11017292853192552079 : True := trivial
theorem law_holds.tw11067727234611919522 : True := trivial
theorem law_holds.tw11097158420108258118 : True := trivial
theorem law_holds.tw11097350217990362986 : True := trivial
theorem law_holds.tw11100686419730198450 : True := trivial
theorem law_holds.tw11126432536435168541 : True := trivial
theorem law_holds.tw11133525997344109421 : True := trivial
theorem law_holds.tw11182679623053108816 : True := trivial
theorem law_holds.tw11223184984439025696 : True := trivial
theorem law_holds.tw11289095316329951393 : True := trivial
theorem law_holds.tw11297062200503488469 : True := trivial
theorem law_holds.tw11303081109005220762 : True := trivial
theorem law_holds.tw11315637435222106236 : True := trivial
theorem law_holds.tw11330957891505755796 : True := trivial
theorem law_holds.tw11347954631545130290 : True := trivial
theorem law_holds.tw11404014056486942332 : True := trivial
theorem law_holds.tw11426015686315989412 : True := trivial
theorem law_holds.tw11463670642173560981 : True := trivial
theorem law_holds.tw11470271118054631628 : True := trivial
theorem law_holds.tw11484002064277903863 : True := trivial
theorem law_holds.tw11544315989524547432 : True := trivial
theorem law_holds.tw11586273756423631628 : True := trivial
theorem law_holds.tw11609493526922420660 : True := trivial
theorem law_holds.tw11625900857008200698 : True := trivial
theorem law_holds.tw11677100312832694166 : True := trivial
theorem law_holds.tw11690447701083486646 : True := trivial
theorem law_holds.tw11714151634956498000 : True := trivial
theorem law_holds.tw1172607208729018732 : True := trivial
theorem law_holds.tw11795792742502079742 : True := trivial
theorem law_holds.tw11803358882649189518 : True := trivial
theorem law_holds.tw1186782194237197914 : True := trivial
theorem law_holds.tw11881114122080957857 : True := trivial
theorem law_holds.tw11924911360389889469 : True := trivial
theorem law_holds.tw11946022803392826334 : True := trivial
theorem law_holds.tw11956458263131016624 : True := trivial
theorem law_holds.tw11966672015165255308 : True := trivial
theorem law_holds.tw11977050620070087417 : True := trivial
theorem law_holds.tw11988886212176157647 : True := trivial
theorem law_holds.tw12001131798957381970 : True := trivial
theorem law_holds.tw12115171985352901274 : True := trivial
theorem law_holds.tw12116493165278983582 : True := trivial
theorem law_holds.tw12134408205421670959 : True := trivial
theorem law_holds.tw12149405283708829123 : True := trivial
theorem law_holds.tw12223724995276690173 : True := trivial
theorem law_holds.tw12253411696296436870 : True := trivial
theorem law_holds.tw12291295341487003417 : True := trivial
theorem law_holds.tw12296726922439171297 : True := trivial
theorem law_holds.tw12303009252429188658 : True := trivial
theorem law_holds.tw123295346585929383 : True := trivial
theorem law_holds.tw12342728606916771844 : True := trivial
theorem law_holds.tw12456547296908542839 : True := trivial
theorem law_holds.tw12459966957829302596 : True := trivial
theorem law_holds.tw1247253217256132012 : True := trivial
theorem law_holds.tw12476058986133298565 : True := trivial
theorem law_holds.tw12481875629721207810 : True := trivial
theorem law_holds.tw1258919526383655059 : True := trivial
theorem law_holds.tw12622292602297523153 : True := trivial
theorem law_holds.tw12626328134170644701 : True := trivial
theorem law_holds.tw12645607732203181651 : True := trivial
theorem law_holds.tw12684681026606017882 : True := trivial
theorem law_holds.tw12687621791434340054 : True := trivial
theorem law_holds.tw12732824653754844360 : True := trivial
theorem law_holds.tw12780804625047726367 : True := trivial
theorem law_holds.tw12800644894191811977 : True := trivial
theorem law_holds.tw12831907817818079685 : True := trivial
theorem law_holds.tw12835091436910803158 : True := trivial
theorem law_holds.tw1285599515219305098 : True := trivial
theorem law_holds.tw12874571214893485439 : True := trivial
theorem law_holds.tw12889056044993165476 : True := trivial
theorem law_holds.tw12889673554181485818 : True := trivial
theorem law_holds.tw12949845418750544790 : True := trivial
theorem law_holds.tw12977093529070104392 : True := trivial
theorem law_holds.tw13087128984098923117 : True := trivial
theorem law_holds.tw13092103797297032270 : True := trivial
theorem law_holds.tw13154458805202713791 : True := trivial
theorem law_holds.tw13182730311906835528 : True := trivial
theorem law_holds.tw13190408463805328480 : True := trivial
theorem law_holds.tw13190703287169160282 : True := trivial
theorem law_holds.tw13220211186989608806 : True := trivial
theorem law_holds.tw13250372474279835810 : True := trivial
theorem law_holds.tw13280740594461564331 : True := trivial
theorem law_holds.tw13281950902743806629 : True := trivial
theorem law_holds.tw13294052699122959228 : True := trivial
theorem law_holds.tw13301187468288870568 : True := trivial
theorem law_holds.tw13336368349410954346 : True := trivial
theorem law_holds.tw13342137609418717338 : True := trivial
theorem law_holds.tw13397297893571687751 : True := trivial
theorem law_holds.tw1341266762083198811 : True := trivial
theorem law_holds.tw13429453918920967058 : True := trivial
theorem law_holds.tw13431030151845061361 : True := trivial
theorem law_holds.tw13454136545276886934 : True := trivial
theorem law_holds.tw13478230802861573701 : True := trivial
theorem law_holds.tw13482675847692870326 : True := trivial
theorem law_holds.tw1349336985504143236 : True := trivial
theorem law_holds.tw1362464541913963888 : True := trivial
theorem law_holds.tw13642005409729077643 : True := trivial
theorem law_holds.tw13650905803964671038 : True := trivial
theorem law_holds.tw13667737974841707781 : True := trivial
theorem law_holds.tw13709617746848070560 : True := trivial
theorem law_holds.tw13766487248619392586 : True := trivial
theorem law_holds.tw1376783240425437725 : True := trivial
theorem law_holds.tw1377309892636839040 : True := trivial
theorem law_holds.tw13778614294919624647 : True := trivial
theorem law_holds.tw13780023080261437657 : True := trivial
theorem law_holds.tw13800757232730249582 : True := trivial
theorem law_holds.tw1385162719727133579 : True := trivial
theorem law_holds.tw13882729330811710610 : True := trivial
theorem law_holds.tw13958071646730322851 : True := trivial
theorem law_holds.tw13983371404066579822 : True := trivial
theorem law_holds.tw14051398506283589457 : True := trivial
theorem law_holds.tw1414043511812021011 : True := trivial
theorem law_holds.tw14160533322030094474 : True := trivial
theorem law_holds.tw14281342344845405768 : True := trivial
theorem law_holds.tw14289194402921355359 : True := trivial
theorem law_holds.tw14326059299131336239 : True := trivial
theorem law_holds.tw14335913921861858828 : True := trivial
theorem law_holds.tw14354538779393863138 : True := trivial
theorem law_holds.tw14377833709258309704 : True := trivial
theorem law_holds.tw14385925486924208373 : True := trivial
theorem law_holds.tw14390095281932903014 : True := trivial
theorem law_holds.tw14390602165704524457 : True := trivial
theorem law_holds.tw14489315793263303861 : True := trivial
theorem law_holds.tw14497384708736915567 : True := trivial
theorem law_holds.tw14498155544194170393 : True := trivial
theorem law_holds.tw14531881819706719225 : True := trivial
theorem law_holds.tw14545874151571354728 : True := trivial
theorem law_holds.tw14571795756577361901 : True := trivial
theorem law_holds.tw14596297492920191028 : True := trivial
theorem law_holds.tw14646867148444618371 : True := trivial
theorem law_holds.tw14746732674962391887 : True := trivial
theorem law_holds.tw14774650325386425613 : True := trivial
theorem law_holds.tw14789792462180790578 : True := trivial
theorem law_holds.tw14822640431511872941 : True := trivial
theorem law_holds.tw14872900085578418628 : True := trivial
theorem law_holds.tw14883556706271630602 : True := trivial
theorem law_holds.tw14892801356780361778 : True := trivial
theorem law_holds.tw14904137174637212347 : True := trivial
theorem law_holds.tw14925382992726071281 : True := trivial
theorem law_holds.tw14957179600199517237 : True := trivial
theorem law_holds.tw1496123403401453975 : True := trivial
theorem law_holds.tw14983226153234331074 : True := trivial
theorem law_holds.tw14997073306097389879 : True := trivial
theorem law_holds.tw15006436103509636135 : True := trivial
theorem law_holds.tw15031514592837009168 : True := trivial
theorem law_holds.tw15150646450996357022 : True := trivial
theorem law_holds.tw15154110283740273250 : True := trivial
theorem law_holds.tw15162217921772873613 : True := trivial
theorem law_holds.tw15191720212996534143 : True := trivial
theorem law_holds.tw15272395603832836080 : True := trivial
theorem law_holds.tw15274831704391544125 : True := trivial
theorem law_holds.tw15293083901398250104 : True := trivial
theorem law_holds.tw15298196793531828919 : True := trivial
theorem law_holds.tw15352839923633478061 : True := trivial
theorem law_holds.tw15448297888555860652 : True := trivial
theorem law_holds.tw15472126771306010800 : True := trivial
theorem law_holds.tw1550374771381668074 : True := trivial
theorem law_holds.tw15514866124879379921 : True := trivial
theorem law_holds.tw15522444059895599089 : True := trivial
theorem law_holds.tw15527639110640922598 : True := trivial
theorem law_holds.tw15544829507116839252 : True := trivial
theorem law_holds.tw15567558954438479688 : True := trivial
theorem law_holds.tw15607887362523206001 : True := trivial
theorem law_holds.tw15617896438947887921 : True := trivial
theorem law_holds.tw15648444511202971954 : True := trivial
theorem law_holds.tw15661869461025623997 : True := trivial
theorem law_holds.tw15694993059591697976 : True := trivial
theorem law_holds.tw15726739188670627701 : True := trivial
theorem law_holds.tw15732109348078318572 : True := trivial
theorem law_holds.tw15759456685926392790 : True := trivial
theorem law_holds.tw15802469936163623734 : True := trivial
theorem law_holds.tw15806970514647361693 : True := trivial
theorem law_holds.tw15829985883664642994 : True := trivial
theorem law_holds.tw15848713872586308078 : True := trivial
theorem law_holds.tw15883345262158282383 : True := trivial
theorem law_holds.tw16009327648451700120 : True := trivial
theorem law_holds.tw16057390660189216267 : True := trivial
theorem law_holds.tw16074064945343616743 : True := trivial
theorem law_holds.tw16098122237329998606 : True := trivial
theorem law_holds.tw16190678330180157336 : True := trivial
theorem law_holds.tw1622690429015379626 : True := trivial
theorem law_holds.tw16273140198857503625 : True := trivial
theorem law_holds.tw16289346341135752580 : True := trivial
theorem law_holds.tw16332274672890094952 : True := trivial
theorem law_holds.tw16381176275627223697 : True := trivial
theorem law_holds.tw16406091861079842607 : True := trivial
theorem law_holds.tw16461882675039125421 : True := trivial
theorem law_holds.tw16462895619179043833 : True := trivial
theorem law_holds.tw16563099163409725306 : True := trivial
theorem law_holds.tw16612359704951912572 : True := trivial
theorem law_holds.tw16691439815215545270 : True := trivial
theorem law_holds.tw1670043908289496885 : True := trivial
theorem law_holds.tw16760957895259694429 : True := trivial
theorem law_holds.tw16805829885119392726 : True := trivial
theorem law_holds.tw16836969012518115619 : True := trivial
theorem law_holds.tw1685627985566243432 : True := trivial
theorem law_holds.tw16883458599210261866 : True := trivial
theorem law_holds.tw16893121556090616931 : True := trivial
theorem law_holds.tw1689763614830377041 : True := trivial
theorem law_holds.tw16935243356766158856 : True := trivial
theorem law_holds.tw16947615914383616782 : True := trivial
theorem law_holds.tw16963379459963715452 : True := trivial
theorem law_holds.tw16978406815995349258 : True := trivial
theorem law_holds.tw17027635718292003107 : True := trivial
theorem law_holds.tw17028624522117568015 : True := trivial
theorem law_holds.tw17046799393618780204 : True := trivial
theorem law_holds.tw1710076424337546998 : True := trivial
theorem law_holds.tw17169043682955552997 : True := trivial
theorem law_holds.tw17183477848116922584 : True := trivial
theorem law_holds.tw1722738952054099684 : True := trivial
theorem law_holds.tw17237755526102222789 : True := trivial
theorem law_holds.tw17253691774821329096 : True := trivial
theorem law_holds.tw17253903310271361901 : True := trivial
theorem law_holds.tw17255088995462705879 : True := trivial
theorem law_holds.tw17264387287909652857 : True := trivial
theorem law_holds.tw17274716441693411508 : True := trivial
theorem law_holds.tw17309000430359075326 : True := trivial
theorem law_holds.tw17345407343664743607 : True := trivial
theorem law_holds.tw17458534234597298029 : True := trivial
theorem law_holds.tw17470365217354309832 : True := trivial
theorem law_holds.tw17499823404086765753 : True := trivial
theorem law_holds.tw17580165497215679439 : True := trivial
theorem law_holds.tw17598101756349436640 : True := trivial
theorem law_holds.tw1762888911704233025 : True := trivial
theorem law_holds.tw1767730674963353768 : True := trivial
theorem law_holds.tw17713402740875732926 : True := trivial
theorem law_holds.tw17758146289354676595 : True := trivial
theorem law_holds.tw1778412455037948541 : True := trivial
theorem law_holds.tw17830944117370523080 : True := trivial
theorem law_holds.tw1784627337472249616 : True := trivial
theorem law_holds.tw17865009358878524859 : True := trivial
theorem law_holds.tw17899081815984039989 : True := trivial
theorem law_holds.tw1791086108937442324 : True := trivial
theorem law_holds.tw17911580528928914924 : True := trivial
theorem law_holds.tw17923851452625207687 : True := trivial
theorem law_holds.tw17942499455142895165 : True := trivial
theorem law_holds.tw17942709131360195518 : True := trivial
theorem law_holds.tw17974257514489008736 : True := trivial
theorem law_holds.tw17993387198741990920 : True := trivial
theorem law_holds.tw18006792725990754497 : True := trivial
theorem law_holds.tw18051328159682125866 : True := trivial
theorem law_holds.tw18090433342136740992 : True := trivial
theorem law_holds.tw18116031599527039140 : True := trivial
theorem law_holds.tw18155623678392573649 : True := trivial
theorem law_holds.tw18189382787476639061 : True := trivial
theorem law_holds.tw1819975233463548508 : True := trivial
theorem law_holds.tw18203989763732354715 : True := trivial
theorem law_holds.tw18221580467831097590 : True := trivial
theorem law_holds.tw18326849912455186884 : True := trivial
theorem law_holds.tw1832781179975386347 : True := trivial
theorem law_holds.tw18340598423539479173 : True := trivial
theorem law_holds.tw18388893480867403737 : True := trivial
theorem law_holds.tw1909877003179415225 : True := trivial
theorem law_holds.tw1928719863018725356 : True := trivial
theorem law_holds.tw194939583717160490 : True := trivial
theorem law_holds.tw1973129929022764952 : True := trivial
theorem law_holds.tw1989176631692091739 : True := trivial
theorem law_holds.tw2006301483956418059 : True := trivial
theorem law_holds.tw2043166853727251185 : True := trivial
theorem law_holds.tw2055734563569237896 : True := trivial
theorem law_holds.tw2075624079617657780 : True := trivial
theorem law_holds.tw2078624436916829710 : True := trivial
theorem law_holds.tw2102315897755806987 : True := trivial
theorem law_holds.tw2124134355350193313 : True := trivial
theorem law_holds.tw2127001594154878533 : True := trivial
theorem law_holds.tw2139172203440323022 : True := trivial
theorem law_holds.tw2142710703020379005 : True := trivial
theorem law_holds.tw2143268655074302082 : True := trivial
theorem law_holds.tw2295933128562542503 : True := trivial
theorem law_holds.tw2303879751551577860 : True := trivial
theorem law_holds.tw2322801206320994539 : True := trivial
theorem law_holds.tw2387193687640843687 : True := trivial
theorem law_holds.tw2557128651999224082 : True := trivial
theorem law_holds.tw2558664710541493025 : True := trivial
theorem law_holds.tw2578278018795888234 : True := trivial
theorem law_holds.tw2602977815382960713 : True := trivial
theorem law_holds.tw2618386414584295968 : True := trivial
theorem law_holds.tw2643271747718453845 : True := trivial
theorem law_holds.tw2667362832866536986 : True := trivial
theorem law_holds.tw2695550118857162214 : True := trivial
theorem law_holds.tw2731376850318366449 : True := trivial
theorem law_holds.tw2782419253953178936 : True := trivial
theorem law_holds.tw2782584491509435139 : True := trivial
theorem law_holds.tw2788888992717563140 : True := trivial
theorem law_holds.tw2842810181116790245 : True := trivial
theorem law_holds.tw2856731137302751260 : True := trivial
theorem law_holds.tw2903333896348957400 : True := trivial
theorem law_holds.tw2907507879108658156 : True := trivial
theorem law_holds.tw293627430662643474 : True := trivial
theorem law_holds.tw3005452535816212104 : True := trivial
theorem law_holds.tw3012480247710183994 : True := trivial
theorem law_holds.tw302768837105346163 : True := trivial
theorem law_holds.tw3028213030429885723 : True := trivial
theorem law_holds.tw3033269912633744064 : True := trivial
theorem law_holds.tw3046938939346580660 : True := trivial
theorem law_holds.tw3110860835449505704 : True := trivial
theorem law_holds.tw3186734533307500241 : True := trivial
theorem law_holds.tw3239664765083619833 : True := trivial
theorem law_holds.tw3253568177066640346 : True := trivial
theorem law_holds.tw3253820488102484341 : True := trivial
theorem law_holds.tw3258674603298201628 : True := trivial
theorem law_holds.tw3329330481660614911 : True := trivial
theorem law_holds.tw3366817510852727610 : True := trivial
theorem law_holds.tw3390839446522356110 : True := trivial
theorem law_holds.tw3426384778480675251 : True := trivial
theorem law_holds.tw343144401656606404 : True := trivial
theorem law_holds.tw3438298445031660282 : True := trivial
theorem law_holds.tw3494445600050047599 : True := trivial
theorem law_holds.tw3572487005457819259 : True := trivial
theorem law_holds.tw3586223124089845285 : True := trivial
theorem law_holds.tw3595789414353437717 : True := trivial
theorem law_holds.tw3674665740742831893 : True := trivial
theorem law_holds.tw3682559726232862161 : True := trivial
theorem law_holds.tw3742325753681652743 : True := trivial
theorem law_holds.tw3756308257209627903 : True := trivial
theorem law_holds.tw3756957479349018193 : True := trivial
theorem law_holds.tw3776956092104397036 : True := trivial
theorem law_holds.tw3808703085821546077 : True := trivial
theorem law_holds.tw3850334171643177529 : True := trivial
theorem law_holds.tw3882201998751590657 : True := trivial
theorem law_holds.tw3896150654470677357 : True := trivial
theorem law_holds.tw3910120701321347557 : True := trivial
theorem law_holds.tw3912811242725288453 : True := trivial
theorem law_holds.tw3955097671198598788 : True := trivial
theorem law_holds.tw3974387499553966400 : True := trivial
theorem law_holds.tw3979707639553702691 : True := trivial
theorem law_holds.tw4030767218360268280 : True := trivial
theorem law_holds.tw4037582482628031876 : True := trivial
theorem law_holds.tw4072507727158212662 : True := trivial
theorem law_holds.tw4146061822495498468 : True := trivial
theorem law_holds.tw41732636909640268 : True := trivial
theorem law_holds.tw4273555757443719353 : True := trivial
theorem law_holds.tw4323815956820902445 : True := trivial
theorem law_holds.tw4329158554759489670 : True := trivial
theorem law_holds.tw4370086069003782432 : True := trivial
theorem law_holds.tw4439653461905209652 : True := trivial
theorem law_holds.tw4441770287765753910 : True := trivial
theorem law_holds.tw445335354869643106 : True := trivial
theorem law_holds.tw4492043994082249198 : True := trivial
theorem law_holds.tw4503035019201841076 : True := trivial
theorem law_holds.tw4581845663705801772 : True := trivial
theorem law_holds.tw4593294709026258786 : True := trivial
theorem law_holds.tw4614512636035447770 : True := trivial
theorem law_holds.tw4633799680528563822 : True := trivial
theorem law_holds.tw4643041051132140158 : True := trivial
theorem law_holds.tw4741859662064258567 : True := trivial
theorem law_holds.tw4781243967656130014 : True := trivial
theorem law_holds.tw4818577856007422655 : True := trivial
theorem law_holds.tw4916342969005030805 : True := trivial
theorem law_holds.tw498061464947678834 : True := trivial
theorem law_holds.tw4991859449750346478 : True := trivial
theorem law_holds.tw4992725456586698614 : True := trivial
theorem law_holds.tw4995542688137877417 : True := trivial
theorem law_holds.tw5037970770195530229 : True := trivial
theorem law_holds.tw5045712524691215523 : True := trivial
theorem law_holds.tw5062152199769849712 : True := trivial
theorem law_holds.tw5087963091746180759 : True := trivial
theorem law_holds.tw5112083995522966620 : True := trivial
theorem law_holds.tw5117662029339320154 : True := trivial
theorem law_holds.tw519298541982818421 : True := trivial
theorem law_holds.tw5274592661964301406 : True := trivial
theorem law_holds.tw5364902710198789758 : True := trivial
theorem law_holds.tw5389484754426515990 : True := trivial
theorem law_holds.tw545109181885906688 : True := trivial
theorem law_holds.tw5455921660152230842 : True := trivial
theorem law_holds.tw5542243279508502960 : True := trivial
theorem law_holds.tw5640673133297012132 : True := trivial
theorem law_holds.tw5731563423909890137 : True := trivial
theorem law_holds.tw575232530192455986 : True := trivial
theorem law_holds.tw576407869801174206 : True := trivial
theorem law_holds.tw5769158387606399586 : True := trivial
theorem law_holds.tw5842969613912506279 : True := trivial
theorem law_holds.tw5858263632927829637 : True := trivial
theorem law_holds.tw5898729028444588960 : True := trivial
theorem law_holds.tw5907203647135998699 : True := trivial
theorem law_holds.tw5914491427308094424 : True := trivial
theorem law_holds.tw5920216800500632969 : True := trivial
theorem law_holds.tw5950301352895977177 : True := trivial
theorem law_holds.tw59864651932915081 : True := trivial
theorem law_holds.tw602461330855297101 : True := trivial
theorem law_holds.tw6041440012092600215 : True := trivial
theorem law_holds.tw6063420548680360473 : True := trivial
theorem law_holds.tw6072504415942766929 : True := trivial
theorem law_holds.tw607667584577438428 : True := trivial
theorem law_holds.tw6189876280036216102 : True := trivial
theorem law_holds.tw6260460797876433568 : True := trivial
theorem law_holds.tw6265907326580845545 : True := trivial
theorem law_holds.tw6317479115527610633 : True := trivial
theorem law_holds.tw6333624483447246961 : True := trivial
theorem law_holds.tw6381524096760519305 : True := trivial
theorem law_holds.tw6410668804425169698 : True := trivial
theorem law_holds.tw6499956759230125245 : True := trivial
theorem law_holds.tw6507877686720480950 : True := trivial
theorem law_holds.tw653560878884961445 : True := trivial
theorem law_holds.tw6553333263825352884 : True := trivial
theorem law_holds.tw6564709946809587534 : True := trivial
theorem law_holds.tw6580623548314892615 : True := trivial
theorem law_holds.tw660297872995803996 : True := trivial
theorem law_holds.tw6667284449218939238 : True := trivial
theorem law_holds.tw6674817763981286723 : True := trivial
theorem law_holds.tw6677821561840896501 : True := trivial
theorem law_holds.tw6709271908398517637 : True := trivial
theorem law_holds.tw6719018230134327050 : True := trivial
theorem law_holds.tw6723812968561706957 : True := trivial
theorem law_holds.tw6727219029552735585 : True := trivial
theorem law_holds.tw6746360682218282392 : True := trivial
theorem law_holds.tw6751701741844952029 : True := trivial
theorem law_holds.tw676263390381983339 : True := trivial
theorem law_holds.tw6765152471904792315 : True := trivial
theorem law_holds.tw6860702969538882710 : True := trivial
theorem law_holds.tw6860709855171689206 : True := trivial
theorem law_holds.tw6861490101519172755 : True := trivial
theorem law_holds.tw6869992995446874880 : True := trivial
theorem law_holds.tw6881874429007886204 : True := trivial
theorem law_holds.tw6896717019858035522 : True := trivial
theorem law_holds.tw6911747868599837429 : True := trivial
theorem law_holds.tw6934448944433832347 : True := trivial
theorem law_holds.tw7019463264422422977 : True := trivial
theorem law_holds.tw718173064312146323 : True := trivial
theorem law_holds.tw7185456241796803578 : True := trivial
theorem law_holds.tw723553956927101924 : True := trivial
theorem law_holds.tw724200737284857819 : True := trivial
theorem law_holds.tw7304591109411159013 : True := trivial
theorem law_holds.tw7311554392007033315 : True := trivial
theorem law_holds.tw7356724547972884604 : True := trivial
theorem law_holds.tw7404543985812422374 : True := trivial
theorem law_holds.tw7407239408455114201 : True := trivial
theorem law_holds.tw7408322871517469003 : True := trivial
theorem law_holds.tw7408472829698581751 : True := trivial
theorem law_holds.tw7416729418936117867 : True := trivial
theorem law_holds.tw7425569058691365973 : True := trivial
theorem law_holds.tw745255978533919091 : True := trivial
theorem law_holds.tw7472407996622490835 : True := trivial
theorem law_holds.tw7480714314260584917 : True := trivial
theorem law_holds.tw7484302960587174374 : True := trivial
theorem law_holds.tw7495221243884187115 : True := trivial
theorem law_holds.tw7497986649931050792 : True := trivial
theorem law_holds.tw7544913113114293122 : True := trivial
theorem law_holds.tw7566432030715092817 : True := trivial
theorem law_holds.tw7604666192120794032 : True := trivial
theorem law_holds.tw7767266014307106701 : True := trivial
theorem law_holds.tw7769649832755249146 : True := trivial
theorem law_holds.tw7820799176418779761 : True := trivial
theorem law_holds.tw784011647948385275 : True := trivial
theorem law_holds.tw7910590604623066228 : True := trivial
theorem law_holds.tw8040771413219435098 : True := trivial
theorem law_holds.tw8061732933902216757 : True := trivial
theorem law_holds.tw8176227357466254829 : True := trivial
theorem law_holds.tw8191475993861738794 : True := trivial
theorem law_holds.tw8249079356659094474 : True := trivial
theorem law_holds.tw8266603773606604290 : True := trivial
theorem law_holds.tw8285764192309689115 : True := trivial
theorem law_holds.tw8312341600987523519 : True := trivial
theorem law_holds.tw8330938851228082562 : True := trivial
theorem law_holds.tw8369274380968253667 : True := trivial
theorem law_holds.tw8386679336120195906 : True := trivial
theorem law_holds.tw8417186165934385351 : True := trivial
theorem law_holds.tw8441880690091102137 : True := trivial
theorem law_holds.tw8472228645029834797 : True := trivial
theorem law_holds.tw8481075993509181622 : True := trivial
theorem law_holds.tw850272041215511910 : True := trivial
theorem law_holds.tw8549365171731915398 : True := trivial
theorem law_holds.tw8553002610548859549 : True := trivial
theorem law_holds.tw8570087061310353148 : True := trivial
theorem law_holds.tw8572072892066365893 : True := trivial
theorem law_holds.tw8634839017697508684 : True := trivial
theorem law_holds.tw8666519363043736892 : True := trivial
theorem law_holds.tw8715444014776630742 : True := trivial
theorem law_holds.tw8720880381367431298 : True := trivial
theorem law_holds.tw8790382262760724670 : True := trivial
theorem law_holds.tw8806649888931605024 : True := trivial
theorem law_holds.tw881140697980615281 : True := trivial
theorem law_holds.tw8829074647290719032 : True := trivial
theorem law_holds.tw8835965917227929528 : True := trivial
theorem law_holds.tw8854015012368427407 : True := trivial
theorem law_holds.tw8857742495270377987 : True := trivial
theorem law_holds.tw8860054118572591635 : True := trivial
theorem law_holds.tw8890443458166856008 : True := trivial
theorem law_holds.tw8957123355933967898 : True := trivial
theorem law_holds.tw8970147916757833333 : True := trivial
theorem law_holds.tw8984152853971343422 : True := trivial
theorem law_holds.tw8984712037535005518 : True := trivial
theorem law_holds.tw9032369906271771983 : True := trivial
theorem law_holds.tw907578622648922086 : True := trivial
theorem law_holds.tw9184033795430018204 : True := trivial
theorem law_holds.tw9187647767651647856 : True := trivial
theorem law_holds.tw9207643191828677137 : True := trivial
theorem law_holds.tw9255152265573255198 : True := trivial
theorem law_holds.tw9288214680346807717 : True := trivial
theorem law_holds.tw9403268196540146800 : True := trivial
theorem law_holds.tw9423440377400516374 : True := trivial
theorem law_holds.tw9456803100559308350 : True := trivial
theorem law_holds.tw9529696498207198238 : True := trivial
theorem law_holds.tw9552830710289189752 : True := trivial
theorem law_holds.tw9606376775287448836 : True := trivial
theorem law_holds.tw9634471323475708679 : True := trivial
theorem law_holds.tw9682718004065560343 : True := trivial
theorem law_holds.tw9758593294864014727 : True := trivial
theorem law_holds.tw9779807473162285230 : True := trivial
theorem law_holds.tw9843604407834444796 : True := trivial
theorem law_holds.tw9849722394096787677 : True := trivial
theorem law_holds.tw9871626496009991038 : True := trivial
theorem law_holds.tw9875236377963488844 : True := trivial
theorem law_holds.tw9887912731928775018 : True := trivial
theorem law_holds.tw9889521400790421688 : True := trivial
theorem law_holds.tw9992725586745946429 : True := trivial
set_option maxHeartbeats 2500000 in
set_option Elab.async true in
theorem law_holds : PySem.Challenge.rw_on0191_01.Holds := by
  w_on; o_law; k_head; (case hw => w_witness2)
  w_top off
  show WalkO V0 _ (XL V0 _) (kHook T0.heap_1 _ _).says _ _ _ _
  k_go0
  (all_goals try k_fold)
  k_steps
  unfold Held
  refine pool_cut (by assumption) ?_ ?_
  · k_steps
    all_goals
      unfold Held
      rename Fr _ _ _ _ => kF
      rename News _ _ _ _ => kN
      exact ⟨_, _, _, _, rfl, rfl, kF, kN, ⟨_, _, _, _, _, rfl, pool_pos _ _, fm0 (by decide), fm1 (by decide)⟩⟩
  intro v s' zr2
  (try k_extra "gf")
  obtain ⟨S, o, h8, tk8, rfl, rfl, F8, N8, hs⟩ := zr2
  (try k_extra "gu")
  k_steps
  unfold Held
  refine' use_all (law_result_spec _ _ _ ?zh) ?zB ?zF ?zX ?zN ?zT ?zk ?zd ?zu ?_
  (case zB => k_asm); (case zF => k_asm); (case zX => k_asm); (case zN => k_asm); (case zT => k_asm)
  (case zk => first | exact rfl | assumption); (case zd => ktr_room); (case zu => ktr_units); (case zh => assumption)
  k_whole
  intro r9 n9 h9 tk9 F9 N9 G9 p9
  (try k_extra "gf")
  obtain ⟨Tt, tr, rl, t0, o', G, rs, r, f, ks, kc, e9, f9, hoff, hsrc, hTt, hT, hn, hr0, hrk, hrT, hrl, hrL, hok, hsz⟩ := p9
  (try k_extra "gu")
  subst e9; subst f9
  (try dsimp only)
  k_steps
  unfold Held
  refine comp_newE (by assumption) rfl rfl (by decide) rfl (by decide) rfl ?_
  k_steps
  unfold Held
  rename News _ _ _ _ => N1
  refine ⟨_, _, kc, _, RowsK _ f.ses writtenE, rfl, ?_, by assumption, N1, ⟨rfl, [], f.ses, Paired.mono (fun _ _ => EntL.mono fun p hp => by k_mem) hrL.ents, .nil, rfl⟩, ⟨?_, ?_⟩, ?_⟩
  · exact Nat.le_trans hrL.len (Nat.le_trans hsz (by decide))
  · intro rr ys nx zr3
    (try k_extra "gf")
    obtain ⟨rfl, _⟩ := zr3
    (try k_extra "gu")
    k_mem
  · intro v rr ys nx I oI C oC D m₂ g h tk E' zr14 hC hx F2 N2 off ne
    (try k_extra "gf")
    obtain ⟨rfl, done, todo, hp1, hp2, he⟩ := zr14
    (try k_extra "gu")
    cases hp1 with
    | @cons _ e _ l9 h1 hp1 =>
      have hek : e.2.size < f.size := ses_size e (by rw [← he]; simp)
      have heo := ses_ok hok e (by rw [← he]; simp)
      k_steps
      unfold Held
      refine' use_read (law_written_spec _ 25 e.1 e.2 _ v (by omega) h1 heo.1 heo.2.1 heo.2.2 (by omega)) (by intro _ _ h; exact h.1) ?zB ?zF ?zX ?zN ?zT ?zk ?zs ?zd ?zu ?_
      (case zB => k_asm); (case zF => k_asm); (case zX => k_asm); (case zN => k_asm); (case zT => k_asm); (case zk => first | exact rfl | assumption); (case zs => exact fun p hp => by k_mem); (case zd => ktr_room); (case zu => ktr_units)
      intro r9 h9 tk9 F9 N9 K9 p9
      (try k_extra "gf")
      obtain ⟨_, t9, e9⟩ := p9
      (try k_extra "gu")
      subst e9
      k_steps
      unfold Held
      exact ⟨_, _, _, rfl, F9, N9, off, RowsK.step hp1 hp2 he⟩
  intro ys1 nx D1 h tk zr5 F2 N2 off1
  (try k_extra "gf")
  obtain ⟨rfl, done, todo, hp1, hp2, he⟩ := zr5
  (try k_extra "gu")
  cases hp1
  rw [List.append_nil] at he
  have hcat1 : catS (done.map fun e => catS (writtenE e)) = catS f.pcs := by rw [catS_map, he, ← written_ses]
  have hz1 : (catS f.pcs).length ≤ 4000 := Nat.le_trans (pcs_len hok) (by omega)
  k_steps
  refine join_N (ys := done.map fun e => catS (writtenE e)) N2 List.mem_cons_self hp2 (by rw [hcat1]; omega) fun t9 k9 => ?_
  rw [hcat1]
  have N2' := Mine.News.less N2 (fun p hp => List.mem_cons_of_mem _ hp)
  clear N2 off1
  k_steps
  unfold Held
  refine comp_newE (by assumption) rfl rfl (by decide) rfl (by decide) rfl ?_
  k_steps
  unfold Held
  rename News _ _ _ _ => N3
  refine ⟨_, _, kc, _, RowsK _ f.ses plainE, rfl, ?_, by assumption, N3, ⟨rfl, [], f.ses, Paired.mono (fun _ _ => EntL.mono fun p hp => by k_mem) hrL.ents, .nil, rfl⟩, ⟨?_, ?_⟩, ?_⟩
  · exact Nat.le_trans hrL.len (Nat.le_trans hsz (by decide))
  · intro rr ys nx zr3
    (try k_extra "gf")
    obtain ⟨rfl, _⟩ := zr3
    (try k_extra "gu")
    k_mem
  · intro v rr ys nx I oI C oC D m₂ g h tk E' zr14 hC hx F2 N2 off ne
    (try k_extra "gf")
    obtain ⟨rfl, done, todo, hp1, hp2, he⟩ := zr14
    (try k_extra "gu")
    cases hp1 with
    | @cons _ e _ l9 h1 hp1 =>
      have hek : e.2.size < f.size := ses_size e (by rw [← he]; simp)
      have heo := ses_ok hok e (by rw [← he]; simp)
      k_steps
      unfold Held
      refine' use_read (law_plain_spec _ 25 e.1 e.2 _ v (by omega) h1 heo.1 heo.2.1 heo.2.2 (by omega)) (by intro _ _ h; exact h.1) ?zB ?zF ?zX ?zN ?zT ?zk ?zs ?zd ?zu ?_
      (case zB => k_asm); (case zF => k_asm); (case zX => k_asm); (case zN => k_asm); (case zT => k_asm); (case zk => first | exact rfl | assumption); (case zs => exact fun p hp => by k_mem); (case zd => ktr_room); (case zu => ktr_units)
      intro r9 h9 tk9 F9 N9 K9 p9
      (try k_extra "gf")
      obtain ⟨_, t9, e9⟩ := p9
      (try k_extra "gu")
      subst e9
      k_steps
      unfold Held
      exact ⟨_, _, _, rfl, F9, N9, off, RowsK.step hp1 hp2 he⟩
  intro ys2 nx2 D2 h2 tk2 zr5 F4 N4 off2
  (try k_extra "gf")
  obtain ⟨rfl, done2, todo2, hp3, hp4, he2⟩ := zr5
  (try k_extra "gu")
  cases hp3
  rw [List.append_nil] at he2
  have hcat2 : catS (done2.map fun e => catS (plainE e)) = catS f.plainP := by rw [catS_map, he2, ← plain_ses]
  have hz2 : (catS f.plainP).length ≤ 4000 := Nat.le_trans (plain_len hok) (by omega)
  k_steps
  refine join_N (ys := done2.map fun e => catS (plainE e)) N4 List.mem_cons_self hp4 (by rw [hcat2]; omega) fun t9 k9 => ?_
  rw [hcat2]
  have N4' := Mine.News.less N4 (fun p hp => List.mem_cons_of_mem _ hp)
  clear N4 off2
  have heq1 : (catS f.plainP != catS f.plainP) = false := by simp
  have heq2 : (catS f.plainP == catS f.plainP) = true := by simp
  have heqT : (catS (dclP true ++ f.pcs) != (Str.ofString "<?xml version=\"1.0\" encoding=\"UTF-8\"?>\n" ++ catS f.pcs)) = false := decl_eq true f.pcs
  have heqF : (catS (dclP false ++ f.pcs) != (Str.ofString "" ++ catS f.pcs)) = false := decl_eq false f.pcs
  have hzt : (catS f.plainP).length ≤ 16777216 := by omega
  have hzx : ∀ b, (catS (dclP b ++ f.pcs)).length ≤ 16777216 := fun b => by
    rw [catS_append, len_app]
    have := dcl_len b
    omega
  k_steps
  unfold Held
  rename News _ _ _ _ => N6
  refine' use_wstr (written_text_spec _ _ _ _ _ _ _ _ _ _ _ _ _ _ _ _ _ _ _ _ _ _ ?hT hr0 ?hk hn hrk hrT hsz hzt ?mo ?md) ?zB ?zF ?zX N6 ?zT ?zk ?zd ?zu ?_
  (case mo => k_mem)
  (case md => k_mem)
  (case hk => exact rfl)
  (case hT => exact TreeIn.mono hT (fun p hp => by k_mem))
  (case zB => k_asm); (case zF => k_asm); (case zX => k_asm); (case zT => k_asm); (case zk => first | exact rfl | assumption); (case zd => ktr_room); (case zu => ktr_units)
  intro t9 h9 tk9 F9 N9
  clear N6
  k_steps
  unfold Held
  rename ((0 : Int) ≤ _) => hk0
  rename Fr _ _ _ _ => F6
  rename News _ _ _ _ => N6
  refine decl_cut hk0 F6 N6 ?_ ?_
  · k_steps
    · unfold Held
      exact ⟨_, _, _, declS_yes (by assumption) _, rfl, by k_asm, by k_asm⟩
    · unfold Held
      exact ⟨_, _, _, declS_no (by assumption) _, rfl, by k_asm, by k_asm⟩
  clear F6 N6
  intro t9 h9 tk9 F9 N9
  have hqk := decl_eqk hk0 f.pcs
  have hdl := declk_len hk0
  k_steps
  unfold Held
  rename News _ _ _ _ => N6
  refine' use_wstr (written_xml_spec _ _ _ _ _ _ _ _ _ _ _ _ _ _ _ _ _ _ _ _ _ _ ?hT hr0 ?hk hn hrk hrT hok hsz (hzx _) ?hm ?mo ?md) ?zB ?zF ?zX N6 ?zT ?zk ?zd ?zu ?_
  (case mo => k_mem)
  (case md => k_mem)
  (case hm => first | exact .inl rfl | exact .inr ⟨_, rfl⟩)
  (case hk => exact rfl)
  (case hT => exact TreeIn.mono hT (fun p hp => by k_mem))
  (case zB => k_asm); (case zF => k_asm); (case zX => k_asm); (case zT => k_asm); (case zk => first | exact rfl | assumption); (case zd => ktr_room); (case zu => ktr_units)
  intro t9 h9 tk9 F9 N9
  clear N6
  k_steps
  unfold Held
  rename Fr _ _ _ _ => F6
  rename News _ _ _ _ => N6
  refine str_cut (Str.ofString "") F6 N6 ?_ ?_
  · k_steps
    unfold Held
    exact ⟨_, _, _, rfl, rfl, by k_asm, by k_asm⟩
  clear F6 N6
  intro t9 h9 tk9 F9 N9
  k_steps
  unfold Held
  rename News _ _ _ _ => N6
  refine' use_wstr (written_xml_spec _ _ _ _ _ _ _ _ _ _ _ _ _ _ _ _ _ _ _ _ false _ ?hT hr0 ?hk hn hrk hrT hok hsz (hzx _) ?hm ?mo ?md) ?zB ?zF ?zX N6 ?zT ?zk ?zd ?zu ?_
  (case mo => k_mem)
  (case md => k_mem)
  (case hm => first | exact .inl rfl | exact .inr ⟨_, rfl⟩)
  (case hk => exact rfl)
  (case hT => exact TreeIn.mono hT (fun p hp => by k_mem))
  (case zB => k_asm); (case zF => k_asm); (case zX => k_asm); (case zT => k_asm); (case zk => first | exact rfl | assumption); (case zd => ktr_room); (case zu => ktr_units)
  intro t9 h9 tk9 F9 N9
  clear N6
  k_steps
  unfold Held
  rename News _ _ _ _ => N6
  refine' use_wstr (written_xml_spec _ _ _ _ _ _ _ _ _ _ _ _ _ _ _ _ _ _ _ _ true _ ?hT hr0 ?hk hn hrk hrT hok hsz (hzx _) ?hm ?mo ?md) ?zB ?zF ?zX N6 ?zT ?zk ?zd ?zu ?_
  (case mo => k_mem)
  (case md => k_mem)
  (case hm => first | exact .inl rfl | exact .inr ⟨_, rfl⟩)
  (case hk => exact rfl)
  (case hT => exact TreeIn.mono hT (fun p hp => by k_mem))
  (case zB => k_asm); (case zF => k_asm); (case zX => k_asm); (case zT => k_asm); (case zk => first | exact rfl | assumption); (case zd => ktr_room); (case zu => ktr_units)
  intro t9 h9 tk9 F9 N9
  clear N6
  k_steps
  unfold Held
  rename News _ _ _ _ => N6
  refine' use_wstr (written_text_spec _ _ _ _ _ _ _ _ _ _ _ _ _ _ _ _ _ _ _ _ _ _ ?hT hr0 ?hk hn hrk hrT hsz hzt ?mo ?md) ?zB ?zF ?zX N6 ?zT ?zk ?zd ?zu ?_
  (case mo => k_mem)
  (case md => k_mem)
  (case hk => exact rfl)
  (case hT => exact TreeIn.mono hT (fun p hp => by k_mem))
  (case zB => k_asm); (case zF => k_asm); (case zX => k_asm); (case zT => k_asm); (case zk => first | exact rfl | assumption); (case zd => ktr_room); (case zu => ktr_units)
  intro t9 h9 tk9 F9 N9
  clear N6
  (try clear hqk); (try clear hdl); (try clear heq1); (try clear heqT); (try clear heqF); (try clear hzt); (try clear hzx); (try clear hrL); (try clear hrl); (try clear hrT); (try clear hrk); (try clear hr0); (try clear hn); (try clear hT); (try clear hok); (try clear hsz); (try clear hz1); (try clear hz2); (try clear hTt); (try clear hsrc); (try clear hoff); (try clear hk0); (try clear he); (try clear he2); (try clear hcat1); (try clear hcat2); (try clear hp2); (try clear hp4)
  repeat (rename _ ∧ _ => z9; clear z9)
  repeat (rename Off _ _ => z9; clear z9)
  k_steps
local macro_rules | `(tactic| k_steps) => `(tactic| repeat' (first | (k_unfold; (try dsimp only)) | (k_end; wrow_close) | walk1 | (dsimp only; walk1) | (leave1; walk_say "STEP leave1"; try dsimp only) | fail "no step"))

end Mine
theorem PySem.Challenge.cw_on0191_01_holds : PySem.Challenge.rw_on0191_01.Holds := by
  exact Mine.law_holds
