import PyProof.Rows.All
import Wide.All
import OpenK.AllK
import Wide.FinOn
import PySem.Challenge.RW_pq0674_01
set_option Elab.async false
set_option linter.all false
set_option maxHeartbeats 1000000
set_option rowWalk.seconds 0

-- Head1
namespace Mine
section
open PySem PySem.W PyProof.Rows
set_option maxRecDepth 100000 in
set_option maxHeartbeats 8000000 in
open_top hd for PySem.Challenge.rw_pq0674_01
theorem top_off : True := by
  w_top off
  exact True.intro
end
end Mine

-- Tools
namespace Mine
section
open PySem PySem.W PyProof.Rows
set_option maxRecDepth 100000

theorem allObj_mono : ∀ {ws : List (Addr × String)} {k k' : List (Addr × Obj) → Prop}, (∀ its, k its → k' its) → AllObj ws k → AllObj ws k'
  | [], _, _, h, x => h _ x
  | _ :: _, _, _, h, x => fun o ho => allObj_mono (fun its => h _) (x o ho)

theorem unrEndW_mono {h₀ : Heap} {L : Addr} {s₁ : Shared} {its : List (Addr × Obj)} {r r' : (Str → Option Value) → List (Addr × Obj) → Prop} {s₂ : Shared}
    (hr : ∀ m n, r m n → r' m n) (h : UnrEndW h₀ L s₁ its r s₂) : UnrEndW h₀ L s₁ its r' s₂ :=
  let ⟨h', tk, m', news', e, F, N, off, x⟩ := h; ⟨h', tk, m', news', e, F, N, off, hr _ _ x⟩

theorem unrPostW_mono {h₀ : Heap} {L : Addr} {s₁ : Shared} {its : List (Addr × Obj)} {r r' : (Str → Option Value) → List (Addr × Obj) → Prop} {Q : Flow → Shared → Prop} {f : Flow} {s₂ : Shared}
    (hr : ∀ m n, r m n → r' m n) (h : UnrPostW h₀ L s₁ its r Q f s₂) : UnrPostW h₀ L s₁ its r' Q f s₂ := by
  cases f with
  | ret v => exact h
  | brk => exact h
  | next => exact unrEndW_mono hr h
  | cont => exact unrEndW_mono hr h

/-- a frame's map whose names x and y are forgotten -/
abbrev two (x y : Str) (u1 u2 : Option Value) (f : Str → Option Value) : Str → Option Value := fun z => if z = y then u2 else if z = x then u1 else f z

section
variable {prog : Program} {w : World} {A : Around} {E : Value → Shared → Prop} {s : Shared} {env : Env} {h₀ : Heap} {target : Expr} {body : List Stmt} {Q : Flow → Shared → Prop}

/-- a loop over enumerate(list) by an invariant over the ledger -/
theorem enum_inv {ws : List (Addr × String)} {keep : List (Addr × Obj)} {vs : List Value} {f : Str → Option Value} {x y : Str} (J : Nat → List (Addr × Obj) → Prop)
    (step : ∀ i v u1 u2 news, vs[i]? = some v → J i news → ∀ T t h tk, IsTup h T #[.int (i : Int) t, v] → Fr h₀ env.locals h (two x y u1 u2 f) →
      AllObj ws (fun its => News h₀ env.locals h (its ++ news) → wpAny (model prog w) A (assign target env (.ref T)) (fun _ s₂ => wpAny (model prog w) A (execs body env)
        (UnrPostW h₀ env.locals { s with heap := h, toks := tk } its (fun m' n' => SubL keep n' ∧ (∃ u1' u2', m' = two x y u1' u2' f) ∧ J (i + 1) n') Q) E s₂) E { s with heap := h, toks := tk }))
    (done : ∀ u1 u2 news h tk, J vs.length news → Fr h₀ env.locals h (two x y u1 u2 f) → News h₀ env.locals h news → Q .next { s with heap := h, toks := tk }) :
    ∀ n i u1 u2 news, i + n = vs.length → J i news → ItemsRest prog w A E h₀ env target body Q s ws keep (enumItems i (vs.drop i)) (two x y u1 u2 f) news := by
  intro n
  induction n with
  | zero =>
    intro i u1 u2 news hi hJ
    have e : vs.drop i = [] := List.drop_eq_nil_of_le (by omega)
    rw [e]
    have e2 : i = vs.length := by omega
    subst e2
    exact ItemsRest.zero fun h tk F N => done u1 u2 news h tk hJ F N
  | succ n ih =>
    intro i u1 u2 news hi hJ
    have hlt : i < vs.length := by omega
    rw [List.drop_eq_getElem_cons hlt]
    refine ItemsRest.pair fun T t h tk hT F => ?_
    refine allObj_mono (fun its hk N => wpAny_mono (hk N) (fun _ s₂ h₂ => wpAny_mono h₂ (fun f s₃ h₃ => ?_) fun _ _ e => e) fun _ _ e => e)
      (step i _ u1 u2 news (List.getElem?_eq_getElem hlt) hJ T t h tk hT F)
    refine unrPostW_mono (fun m' n' hx => ?_) h₃
    obtain ⟨hs, ⟨u1', u2', rfl⟩, hJ'⟩ := hx
    exact ⟨hs, ih (i + 1) u1' u2' n' (by omega) hJ'⟩

theorem enum_start {ws : List (Addr × String)} {keep : List (Addr × Obj)} {xs : List Itm} {f : Str → Option Value} (x y : Str) {news : List (Addr × Obj)} (hx : f x = none) (hy : f y = none)
    (h : ItemsRest prog w A E h₀ env target body Q s ws keep xs (two x y none none f) news) : ItemsRest prog w A E h₀ env target body Q s ws keep xs f news := by
  have e : two x y none none f = f := by
    funext z
    show (if z = y then none else if z = x then none else f z) = f z
    by_cases h1 : z = y
    · rw [if_pos h1, h1, hy]
    · rw [if_neg h1]
      by_cases h2 : z = x
      · rw [if_pos h2, h2, hx]
      · rw [if_neg h2]
  rw [← e]; exact h

theorem two_two (x y : Str) (u1 u2 : Option Value) (a b : Option Value) (f : Str → Option Value) :
    (fun z => if z = y then b else if z = x then a else two x y u1 u2 f z) = two x y a b f := by
  funext z
  by_cases h1 : z = y
  · simp [two, h1]
  · by_cases h2 : z = x
    · simp [two, h2]
    · simp [two, h1, h2]

theorem news_drop {h : Heap} {L : Addr} {news news' : List (Addr × Obj)} (N : News h₀ L h news') (hs : ∀ p ∈ news, p ∈ news') : News h₀ L h news := fun p hp => N p (hs p hp)
end
/-! small terms for order facts, in place of omega's long ones -/
theorem lt_up {a b : Nat} (h : a < b) : a < b + 1 := Nat.lt_succ_of_lt h
theorem lt_one {a : Nat} : a < a + 1 := Nat.lt_succ_self a
theorem lt_dn {a b : Nat} (h : a + 1 < b) : a < b := Nat.lt_of_succ_lt h
theorem ltT {a b m : Nat} (h : m < b) (k : a < m) : a < b := Nat.lt_trans k h
theorem andR {p q r : Prop} (k : q → r) (h : p ∧ q) : r := k h.2
theorem viaC {a b c : Nat} {P : Prop} (h : c < b ∧ P) (k : c < b ∧ P → a < b) : a < b := k h
theorem ltLit {a b l : Nat} (h : l < b) (k : Nat.ble a l = true) : a < b := Nat.lt_of_le_of_lt (Nat.le_of_ble_eq_true k) h
theorem ltLits {a b : Nat} (k : Nat.blt a b = true) : a < b := Nat.le_of_ble_eq_true k
theorem leLits {a b : Nat} (k : Nat.ble a b = true) : a ≤ b := Nat.le_of_ble_eq_true k
theorem leLit {a b l : Nat} (h : a ≤ l) (k : Nat.ble l b = true) : a ≤ b := Nat.le_trans h (Nat.le_of_ble_eq_true k)
theorem ltOf {a b l : Nat} (h : a ≤ l) (k : Nat.blt l b = true) : a < b := Nat.lt_of_le_of_lt h (Nat.le_of_ble_eq_true k)
theorem neLits {a b : Nat} (k : Nat.beq a b = false) : a ≠ b := Nat.ne_of_beq_eq_false k
theorem roomLe {d k K c : Nat} (h : d + K < c) (e : Nat.ble k K = true) : d + k < c := Nat.lt_of_le_of_lt (Nat.add_le_add_left (Nat.le_of_ble_eq_true e) d) h
theorem roomS {a i j c : Nat} (h : a + (i + j) < c) : a + i + j < c := Nat.add_assoc a i j ▸ h
/-- the goal as a letter, while facts are opened -/
theorem byG {p : Prop} (h : ∀ G : Prop, (p → G) → G) : p := h p id
theorem room0 {d K c : Nat} (h : d + K < c) : d < c := Nat.lt_of_le_of_lt (Nat.le_add_right d K) h
theorem intNn {a : Int} (h : 0 ≤ a) : 0 ≤ a + 1 := Int.le_trans h (Int.le_of_lt (Int.lt_succ a))
theorem intRoom {t k K c : Int} (h : t < K) (e : decide (K + k ≤ c) = true) : t + k < c := Int.lt_of_lt_of_le (Int.add_lt_add_right h k) (of_decide_eq_true e)
theorem intS {a i j c : Int} (h : a + (i + j) < c) : a + i + j < c := Int.add_assoc a i j ▸ h
theorem intLtLe {x K c : Int} (h : x < K) (e : decide (K ≤ c + 1) = true) : x ≤ c := Int.le_of_lt_add_one (Int.lt_of_lt_of_le h (of_decide_eq_true e))
theorem intLtLt {x K c : Int} (h : x < K) (e : decide (K ≤ c) = true) : x < c := Int.lt_of_lt_of_le h (of_decide_eq_true e)
theorem intLeLe {x K c : Int} (h : x ≤ K) (e : decide (K ≤ c) = true) : x ≤ c := Int.le_trans h (of_decide_eq_true e)
theorem intLeLt {x K c : Int} (h : x ≤ K) (e : decide (K < c) = true) : x < c := Int.lt_of_le_of_lt h (of_decide_eq_true e)
theorem intGeGe {x K c : Int} (h : K ≤ x) (e : decide (c ≤ K) = true) : c ≤ x := Int.le_trans (of_decide_eq_true e) h
theorem intAddLe {a x K c : Int} (h : x < K) (e : decide (a + K ≤ c + 1) = true) : a + x ≤ c := Int.le_of_lt_add_one (Int.lt_of_lt_of_le (Int.add_lt_add_left h a) (of_decide_eq_true e))
theorem intAddLt {a x K c : Int} (h : x < K) (e : decide (a + K ≤ c) = true) : a + x < c := Int.lt_of_lt_of_le (Int.add_lt_add_left h a) (of_decide_eq_true e)
theorem intAddGe {a x K c : Int} (h : K ≤ x) (e : decide (c ≤ a + K) = true) : c ≤ a + x := Int.le_trans (of_decide_eq_true e) (Int.add_le_add_left h a)
theorem intSubGe {a x K c : Int} (h : x < K) (e : decide (c ≤ a - K + 1) = true) : c ≤ a - x := by
  have := of_decide_eq_true e
  omega
theorem intSubLe {a x K c : Int} (h : K ≤ x) (e : decide (a - K ≤ c) = true) : a - x ≤ c := Int.le_trans (Int.sub_le_sub_left h a) (of_decide_eq_true e)

end

section
open PySem PySem.W PyProof.Rows
-- <shared>
local macro_rules | `(tactic| walk_at $s:str) => `(tactic| k_extra $s)
local macro_rules | `(tactic| k_all) => `(tactic| k_extra "mine all")
local macro_rules | `(tactic| k_mem) => `(tactic| k_extra "mine mem")
local macro_rules | `(tactic| omega) => `(tactic| k_extra "mine omega")
local macro_rules | `(tactic| k_room) => `(tactic| k_extra "mine room")
local macro_rules | `(tactic| walk_at "my tail1") => `(tactic| (intro g' L' h' FG' F' N' B' X' T'; (try dsimp only); (try k_lift B'); (try k_fold)))
local macro_rules | `(tactic| walk_at "my tail2") => `(tactic| (intro g' L' h' tk' cells' FG' F' N' Y' B' X' T' l1; (try k_lt l1); k_cells Y'; (try simp only [List.cons_append, List.nil_append] at N'); (try dsimp only); (try k_lift B'); (try k_fold)))
local macro_rules | `(tactic| walk_at "my tail3") => `(tactic| (intro g' L' h' FG' F' N' B' X' T' D'; (try dsimp only); (try k_lift B'); (try k_fold)))
local macro_rules | `(tactic| walk_at "my tail4") => `(tactic| (intro g' L' h' tk' cells' FG' F' N' Y' B' X' T' D' l1; (try k_lt l1); k_cells Y'; (try simp only [List.cons_append, List.nil_append] at N'); (try dsimp only); (try k_lift B'); (try k_fold)))
local macro_rules | `(tactic| k_ne) => `(tactic| k_extra "mine ne")
-- </shared>

-- Exc
section
open PySem PySem.W PyProof.Rows PySem.Spec PySem.Calls
open PySem.Builtin PySem.Builtin.ObjectAttr
theorem rows_exc : True := by
  k_with_none
  k_with "mine and" => (first | (with_reducible exact And.left) | ((with_reducible refine andR ?_); first | (with_reducible exact id) | k_extra "mine and"))
  k_with "mine lt1" => (first | (with_reducible assumption) | ((with_reducible refine' viaC ?zvh ?zvk); (case zvh => with_reducible assumption); (case zvk => k_extra "mine and")))
  k_with "mine lt2" => (first | k_extra "mine lt1" | ((with_reducible refine' ltLit ?zlh ?zlk); (case zlh => with_reducible assumption); (case zlk => exact rfl)))
  k_with "mine lt3" => (first | k_extra "mine lt2" | ((with_reducible refine' ltT ?zth ?ztk); (case zth => with_reducible assumption); (case ztk => first | k_extra "mine lt2" | ((with_reducible refine' ltT ?zuh ?zuk); (case zuh => with_reducible assumption); (case zuk => k_extra "mine lt2")))) | ((with_reducible refine lt_dn ?_); first | k_extra "mine lt1" | ((with_reducible refine lt_dn ?_); first | k_extra "mine lt1" | ((with_reducible refine lt_dn ?_); first | k_extra "mine lt1" | ((with_reducible refine lt_dn ?_); first | k_extra "mine lt1" | ((with_reducible refine lt_dn ?_); k_extra "mine lt1"))))))
  k_with "mine lt" => (first | (with_reducible exact lt_one) | ((with_reducible show _ < _ + _); (with_reducible refine lt_up ?_); k_extra "mine lt") | ((fail_if_success (with_reducible show _ < _ + _)); k_extra "mine lt3"))
  k_with "mine ne0" => (first | (with_reducible assumption) | (with_reducible exact Ne.symm (by with_reducible assumption)) | (exact neLits rfl) | ((with_reducible refine Nat.ne_of_gt ?_); k_extra "mine lt") | ((with_reducible refine Nat.ne_of_lt ?_); k_extra "mine lt"))
  k_with "mine ne" => ((try dsimp only); (first | k_extra "mine ne0" | k_extra "mine omegaF"))
  k_with "mine rm" => (first | (with_reducible exact room0 (by with_reducible assumption)) | ((with_reducible refine' roomLe ?zrh ?zrk); (case zrh => with_reducible assumption); (case zrk => exact rfl)) | ((with_reducible refine roomS ?_); k_extra "mine rm"))
  k_with "mine le" => (first | (exact leLits rfl) | ((with_reducible refine' leLit ?zmh ?zmk); (case zmh => with_reducible assumption); (case zmk => exact rfl)) | ((with_reducible refine Nat.le_of_lt ?_); k_extra "mine lt"))
  k_with "mine lg" => (first | (exact ltLits rfl) | k_extra "mine rm" | ((with_reducible refine' ltOf ?znh ?znk); (case znh => with_reducible assumption); (case znk => exact rfl)) | k_extra "mine lt")
  k_with "mine ill" => (first | (with_reducible assumption) | decide | ((with_reducible refine' intLtLt ?zi1h ?zi1k); (case zi1h => with_reducible assumption); (case zi1k => decide)) | ((with_reducible refine' intLeLt ?zi2h ?zi2k); (case zi2h => with_reducible assumption); (case zi2k => decide)) | ((with_reducible refine' intRoom ?zi3h ?zi3k); (case zi3h => with_reducible assumption); (case zi3k => decide)) | ((with_reducible refine' intAddLt ?zi4h ?zi4k); (case zi4h => with_reducible assumption); (case zi4k => decide)) | ((with_reducible refine intS ?_); k_extra "mine ill"))
  k_with "mine ile" => (first | (with_reducible assumption) | decide | ((with_reducible refine intNn ?_); k_extra "mine ile") | ((with_reducible refine' intLtLe ?zi5h ?zi5k); (case zi5h => with_reducible assumption); (case zi5k => decide)) | ((with_reducible refine' intLeLe ?zi6h ?zi6k); (case zi6h => with_reducible assumption); (case zi6k => decide)) | ((with_reducible refine' intGeGe ?zi7h ?zi7k); (case zi7h => with_reducible assumption); (case zi7k => decide)) | ((with_reducible refine' intAddLe ?zi8h ?zi8k); (case zi8h => with_reducible assumption); (case zi8k => decide)) | ((with_reducible refine' intAddGe ?zi9h ?zi9k); (case zi9h => with_reducible assumption); (case zi9k => decide)) | ((with_reducible refine' intSubGe ?zi10h ?zi10k); (case zi10h => with_reducible assumption); (case zi10k => decide)) | ((with_reducible refine' intSubLe ?zi11h ?zi11k); (case zi11h => with_reducible assumption); (case zi11k => decide)))
  k_with "mine omegaF" => (first | ((repeat ((with_reducible rename _ ∧ _ => kz); clear kz)); (repeat ((with_reducible rename _ ≠ _ => kz); clear kz)); omega (config := {})) | omega (config := {}))
  k_with "mine omega" => (first | (with_reducible assumption) | ((with_reducible show @Ne Nat _ _); k_extra "mine ne0") | ((with_reducible show @LT.lt Nat _ _ _); k_extra "mine lg") | ((with_reducible show @LE.le Nat _ _ _); k_extra "mine le") | ((with_reducible show @LT.lt Int _ _ _); k_extra "mine ill") | ((with_reducible show @LE.le Int _ _ _); k_extra "mine ile") | ((with_reducible refine' ⟨?zoa, ?zob⟩); (case zoa => k_extra "mine ile"); (case zob => k_extra "mine ile")) | k_extra "mine omegaF")
  exact True.intro

set_option maxRecDepth 100000

/-- an exception of a class of the text's own -/
abbrev excO (C t : Addr) (d : Option Addr) : Obj := { cls := .ref C, dict := d, data := .fields #[.ref t, .none, .none, .none, .bool false, .none] }

section
variable {prog : Program} {w : World} {A : Around} {R : Result → Shared → Prop} {E : Value → Shared → Prop} {s : Shared} {K : Frag} {h₀ : Heap} {L x C t : Addr} {m : Str → Option Value} {rest : List (Addr × Obj)}

theorem osaE {ox : Obj} {od : Option Obj} {name : Str} {tk : Tok} {v : Value} {cd : ClassData} (X : K.In s.heap) (I : InstAt s.heap x ox C od) (hc : clsIn K C = some cd)
    (hm : cd.mro = [.ref C, .type "Exception", .type "BaseException", .type "object"]) (ht : findIn K (.ref C) name = some none)
    (h : wpAny (model prog w) A.in1 (storeInOwnDict (.ref x) (.ref C) (.str name tk) name v false)
      (fun fin s' => match fin with | .done f => R (.ok f) s' | .again c' => c'.quiet = true ∧ codeAny (model prog w) A c' R s') (fun e s' => R (.error e) s') s) :
    codeAny (model prog w) A (.call (.builtin "object.__setattr__") ⟨[.ref x, .str name tk, v], []⟩) R s := by
  have SF := PySem.F.store_object
  have SE := PySem.F.store_Exception
  have sub : Looks (model prog w) s.heap (isInstance (.ref x) (.type "object")) true := I.type.andThen (looks_mroIn X (by unfold mroIn; rw [hc, Option.bind_some, hm]; rfl))
  refine codeAny_call_builtin SF.slot.plain SF.entry (@check_slot (model prog w) _ _ s "object.__setattr__" "object" "__setattr__" (.ref x) [.str name tk, v] [] _ SF.kind SF.split sub (SF.args (.ref x) (.str name tk) v) ?_)
  have hmm : Looks (model prog w) s.heap (mroOf (.ref C)) cd.mro := (looks_clsIn X hc).andThen .now
  rw [osa_eq, refuse_eq]
  refine wpAny_bind (wpAny_bind (I.type.here (wpAny_bind (hmm.here ?_))))
  rw [hm, refuseLoop_ref, SE.passes]
  refine wpAny_pure (wpAny_bind (I.type.here (wpAny_bind ((looks_findIn X ht).here (wpAny_bind ?_)))))
  exact wpAny_pure h

theorem storeIn {name : Str} {v : Value} {d : Addr} {es es' : List DictEntry} {n n' : Nat} {tk : Tok} {Q : Fin → Shared → Prop} (D : s.heap.get? d = some (dictOf es n)) (hr : es.any (·.refKey) = false)
    (e : (putL name (PyData.keyHash w.params name) (.str name s.toks) v es, putN name es n) = (es', n')) (hz : es'.length ≤ 1000)
    (h : Q (.done (.ret .none)) { s with heap := s.heap.update d (Obj.putName name (PyData.keyHash w.params name) (.str name s.toks) v), toks := s.toks + 1 }) :
    wpAny (model prog w) A (storeInDict d (.str name tk) name v) Q E s := by
  obtain ⟨e1, e2⟩ := Prod.mk.inj e
  have ho : Obj.putName name (PyData.keyHash w.params name) (.str name s.toks) v (dictOf es n) = dictOf es' n' := by rw [putName_dict, e1, e2]
  have D' : (s.heap.update d (Obj.putName name (PyData.keyHash w.params name) (.str name s.toks) v)).get? d = some (dictOf es' n') := ho ▸ Heap.get?_update_self _ D (ho ▸ rfl)
  refine wpAny_bind (wpAny_pure (wpAny_bind ?_))
  unfold nsSet
  refine wpAny_bind (wpAny_bind (wpAny_askSetting (wpAny_pure (wpAny_bind (wpAny_mkText (wpAny_bind (wpAny_loadPart D ?_)))))))
  dsimp only
  have c : (!es.toArray.any (·.key.isStr name) && es.toArray.any (·.refKey)) = false := by
    rw [← Array.any_toList, ← Array.any_toList]
    rw [show es.toArray.toList = es from rfl, hr, Bool.and_false]
  rw [aRefKeyMayBeTheName_at, c]
  refine wpAny_updatePart D ?_
  refine wpAny_bind (wpAny_lookBehind D' (pastItsLine_dict (by rw [List.size_toArray, sizeLine_eq]; omega)) ?_)
  exact wpAny_pure h

theorem exc_first {name : Str} {v : Value} {cd : ClassData} {Q : Unit → Shared → Prop} (F : Fr h₀ L s.heap m) (X₀ : K.In h₀) (N : News h₀ L s.heap ((x, excO C t none) :: rest)) (hne : ∀ p ∈ rest, p.1 ≠ x)
    (hc : clsIn K C = some cd) (hm : cd.mro = [.ref C, .type "Exception", .type "BaseException", .type "object"]) (hd : cd.hasDict = true)
    (hs : findIn K (.ref C) "__setattr__" = some (some (.builtin "object.__setattr__"))) (ht : findIn K (.ref C) name = some none)
    (h : ∀ dx h' tk, Fr h₀ L h' m → News h₀ L h' ((dx, dictOf [⟨PyData.keyHash w.params name, .str name (s.toks + 1), v⟩] 1) :: (x, excO C t (some dx)) :: rest) → (∀ p ∈ rest, p.1 < dx) → x < dx → Q () { s with heap := h', toks := tk }) :
    wpAny (model prog w) A (setAttr (.ref x) name v) Q E s := by
  have X := X₀.keeps F.keep
  have hx := (N _ (.head _)).1
  have I : InstAt s.heap x (excO C t none) C none := ⟨hx, rfl, rfl, trivial⟩
  refine set_plain X I hs ?_
  refine osaE (s := { s with toks := s.toks + 1 }) X I hc hm ht ?_
  refine wpAny_bind (wpAny_pure (wpAny_bind (wpAny_bind (wpAny_loadPart hx (wpAny_bind ?_)))))
  refine ((looks_clsIn (M := model prog w) X hc).here (s := { s with toks := s.toks + 1 }) ?_)
  rw [hd]
  have F1 := F.push { cls := .type "dict", data := .dict #[] }
  have N1 := News.push F N { cls := .type "dict", data := .dict #[] }
  have hlt : x < s.heap.objs.size := Heap.lt_size hx
  have hltR : ∀ p ∈ rest, p.1 < s.heap.objs.size := fun p hp => Heap.lt_size (N p (.tail _ hp)).1
  refine wpAny_bind (wpAny_alloc' ?_)
  have hx1 := (N1 _ (.tail _ (.head _))).1
  refine wpAny_bind (wpAny_update' hx1 ?_)
  obtain ⟨F2, N2⟩ := news_upd (d := x) (pre := [(s.heap.objs.size, { cls := .type "dict", data := .dict #[] })]) (post := rest) (o' := excO C t (some s.heap.objs.size)) (f := fun o => { o with dict := some s.heap.objs.size }) F1 N1
    (fun p hp => by rw [List.mem_singleton.mp hp]; exact Nat.ne_of_gt hlt) hne rfl rfl
  refine wpAny_pure ?_
  have D := (N2 _ (.head _)).1
  refine storeIn (es := []) (n := 0) D rfl (show (putL name (PyData.keyHash w.params name) (.str name (s.toks + 1)) v [], putN name [] 0) = ([⟨PyData.keyHash w.params name, .str name (s.toks + 1), v⟩], 1) from rfl) (Nat.le_of_ble_eq_true rfl) ?_
  obtain ⟨F3, N3⟩ := news_upd (d := s.heap.objs.size) (pre := []) (post := (x, excO C t (some s.heap.objs.size)) :: rest) (o' := dictOf [⟨PyData.keyHash w.params name, .str name (s.toks + 1), v⟩] 1)
    (f := Obj.putName name (PyData.keyHash w.params name) (.str name (s.toks + 1)) v) F2 N2 (fun p hp => nomatch hp) (fun p hp => by
      rcases List.mem_cons.mp hp with rfl | hp
      · exact Nat.ne_of_lt hlt
      · exact Nat.ne_of_lt (hltR p hp)) (by rw [putName_dict]; rfl) rfl
  exact h _ _ _ F3 N3 hltR hlt

theorem exc_more {name : Str} {v : Value} {cd : ClassData} {Q : Unit → Shared → Prop} {dx : Addr} {es es' : List DictEntry} {n n' : Nat} (F : Fr h₀ L s.heap m) (X₀ : K.In h₀) (N : News h₀ L s.heap ((dx, dictOf es n) :: (x, excO C t (some dx)) :: rest))
    (hne : ∀ p ∈ rest, p.1 < dx) (hxd : x < dx)
    (hc : clsIn K C = some cd) (hm : cd.mro = [.ref C, .type "Exception", .type "BaseException", .type "object"]) (hd : cd.hasDict = true)
    (hs : findIn K (.ref C) "__setattr__" = some (some (.builtin "object.__setattr__"))) (ht : findIn K (.ref C) name = some none)
    (hr : es.any (·.refKey) = false) (e : (putL name (PyData.keyHash w.params name) (.str name (s.toks + 1)) v es, putN name es n) = (es', n')) (hz : es'.length ≤ 1000)
    (h : ∀ h' tk, Fr h₀ L h' m → News h₀ L h' ((dx, dictOf es' n') :: (x, excO C t (some dx)) :: rest) → Q () { s with heap := h', toks := tk }) :
    wpAny (model prog w) A (setAttr (.ref x) name v) Q E s := by
  have X := X₀.keeps F.keep
  have D := (N _ (.head _)).1
  have hx := (N _ (.tail _ (.head _))).1
  have I : InstAt s.heap x (excO C t (some dx)) C (some (dictOf es n)) := ⟨hx, rfl, rfl, D⟩
  refine set_plain X I hs ?_
  refine osaE (s := { s with toks := s.toks + 1 }) X I hc hm ht ?_
  refine wpAny_bind (wpAny_pure (wpAny_bind (wpAny_bind (wpAny_loadPart hx (wpAny_bind ?_)))))
  refine ((looks_clsIn (M := model prog w) X hc).here (s := { s with toks := s.toks + 1 }) ?_)
  rw [hd]
  refine wpAny_pure (a := some dx) ?_
  refine storeIn (s := { s with toks := s.toks + 1 }) D hr e hz ?_
  obtain ⟨e1, e2⟩ := Prod.mk.inj e
  obtain ⟨F3, N3⟩ := news_upd (d := dx) (pre := []) (post := (x, excO C t (some dx)) :: rest) (o' := dictOf es' n')
    (f := Obj.putName name (PyData.keyHash w.params name) (.str name (s.toks + 1)) v) F N (fun p hp => nomatch hp) (fun p hp => by
      rcases List.mem_cons.mp hp with rfl | hp
      · exact Nat.ne_of_lt hxd
      · exact Nat.ne_of_lt (hne p hp)) (by rw [putName_dict, e1, e2]) rfl
  exact h _ _ F3 N3
end
end

-- Lua
section
open PySem PySem.W PyProof.Rows
set_option maxRecDepth 100000
theorem news_tl {h₀ h : Heap} {L : Addr} {q : Addr × Obj} {news : List (Addr × Obj)} (N : News h₀ L h (q :: news)) : News h₀ L h news := fun p hp => N p (List.mem_cons_of_mem _ hp)

theorem rows_lua : True := by
  k_with_none
  k_with "mine and" => (first | (with_reducible exact And.left) | ((with_reducible refine andR ?_); first | (with_reducible exact id) | k_extra "mine and"))
  k_with "mine lt1" => (first | (with_reducible assumption) | ((with_reducible refine' viaC ?zvh ?zvk); (case zvh => with_reducible assumption); (case zvk => k_extra "mine and")))
  k_with "mine lt2" => (first | k_extra "mine lt1" | ((with_reducible refine' ltLit ?zlh ?zlk); (case zlh => with_reducible assumption); (case zlk => exact rfl)))
  k_with "mine lt3" => (first | k_extra "mine lt2" | ((with_reducible refine' ltT ?zth ?ztk); (case zth => with_reducible assumption); (case ztk => first | k_extra "mine lt2" | ((with_reducible refine' ltT ?zuh ?zuk); (case zuh => with_reducible assumption); (case zuk => k_extra "mine lt2")))) | ((with_reducible refine lt_dn ?_); first | k_extra "mine lt1" | ((with_reducible refine lt_dn ?_); first | k_extra "mine lt1" | ((with_reducible refine lt_dn ?_); first | k_extra "mine lt1" | ((with_reducible refine lt_dn ?_); first | k_extra "mine lt1" | ((with_reducible refine lt_dn ?_); k_extra "mine lt1"))))))
  k_with "mine lt" => (first | (with_reducible exact lt_one) | ((with_reducible show _ < _ + _); (with_reducible refine lt_up ?_); k_extra "mine lt") | ((fail_if_success (with_reducible show _ < _ + _)); k_extra "mine lt3"))
  k_with "mine ne0" => (first | (with_reducible assumption) | (with_reducible exact Ne.symm (by with_reducible assumption)) | (exact neLits rfl) | ((with_reducible refine Nat.ne_of_gt ?_); k_extra "mine lt") | ((with_reducible refine Nat.ne_of_lt ?_); k_extra "mine lt"))
  k_with "mine ne" => ((try dsimp only); (first | k_extra "mine ne0" | k_extra "mine omegaF"))
  k_with "mine rm" => (first | (with_reducible exact room0 (by with_reducible assumption)) | ((with_reducible refine' roomLe ?zrh ?zrk); (case zrh => with_reducible assumption); (case zrk => exact rfl)) | ((with_reducible refine roomS ?_); k_extra "mine rm"))
  k_with "mine le" => (first | (exact leLits rfl) | ((with_reducible refine' leLit ?zmh ?zmk); (case zmh => with_reducible assumption); (case zmk => exact rfl)) | ((with_reducible refine Nat.le_of_lt ?_); k_extra "mine lt"))
  k_with "mine lg" => (first | (exact ltLits rfl) | k_extra "mine rm" | ((with_reducible refine' ltOf ?znh ?znk); (case znh => with_reducible assumption); (case znk => exact rfl)) | k_extra "mine lt")
  k_with "mine ill" => (first | (with_reducible assumption) | decide | ((with_reducible refine' intLtLt ?zi1h ?zi1k); (case zi1h => with_reducible assumption); (case zi1k => decide)) | ((with_reducible refine' intLeLt ?zi2h ?zi2k); (case zi2h => with_reducible assumption); (case zi2k => decide)) | ((with_reducible refine' intRoom ?zi3h ?zi3k); (case zi3h => with_reducible assumption); (case zi3k => decide)) | ((with_reducible refine' intAddLt ?zi4h ?zi4k); (case zi4h => with_reducible assumption); (case zi4k => decide)) | ((with_reducible refine intS ?_); k_extra "mine ill"))
  k_with "mine ile" => (first | (with_reducible assumption) | decide | ((with_reducible refine intNn ?_); k_extra "mine ile") | ((with_reducible refine' intLtLe ?zi5h ?zi5k); (case zi5h => with_reducible assumption); (case zi5k => decide)) | ((with_reducible refine' intLeLe ?zi6h ?zi6k); (case zi6h => with_reducible assumption); (case zi6k => decide)) | ((with_reducible refine' intGeGe ?zi7h ?zi7k); (case zi7h => with_reducible assumption); (case zi7k => decide)) | ((with_reducible refine' intAddLe ?zi8h ?zi8k); (case zi8h => with_reducible assumption); (case zi8k => decide)) | ((with_reducible refine' intAddGe ?zi9h ?zi9k); (case zi9h => with_reducible assumption); (case zi9k => decide)) | ((with_reducible refine' intSubGe ?zi10h ?zi10k); (case zi10h => with_reducible assumption); (case zi10k => decide)) | ((with_reducible refine' intSubLe ?zi11h ?zi11k); (case zi11h => with_reducible assumption); (case zi11k => decide)))
  k_with "mine omegaF" => (first | ((repeat ((with_reducible rename _ ∧ _ => kz); clear kz)); (repeat ((with_reducible rename _ ≠ _ => kz); clear kz)); omega (config := {})) | omega (config := {}))
  k_with "mine omega" => (first | (with_reducible assumption) | ((with_reducible show @Ne Nat _ _); k_extra "mine ne0") | ((with_reducible show @LT.lt Nat _ _ _); k_extra "mine lg") | ((with_reducible show @LE.le Nat _ _ _); k_extra "mine le") | ((with_reducible show @LT.lt Int _ _ _); k_extra "mine ill") | ((with_reducible show @LE.le Int _ _ _); k_extra "mine ile") | ((with_reducible refine' ⟨?zoa, ?zob⟩); (case zoa => k_extra "mine ile"); (case zob => k_extra "mine ile")) | k_extra "mine omegaF")
  k_with "mine all" => assumption
  k_with "mine mem" => assumption
  k_with "setAttr ref" => (k_here; k_dflt (refine' exc_first ?z107_lu_F ?z107_lu_X ?z107_lu_N ?z107_lu_e ?z107_lu_c ?z107_lu_m ?z107_lu_d ?z107_lu_s ?z107_lu_t ?_; (case z107_lu_F => k_asm); (case z107_lu_X => k_asm); (case z107_lu_N => k_asm); (case z107_lu_e => k_asm); (case z107_lu_c => k_is); (case z107_lu_m => rfl); (case z107_lu_d => rfl); (case z107_lu_s => k_is); (case z107_lu_t => k_is)); intro _ _ _ _ _ _ _)
  k_with "setAttr ref" => (k_here; k_dflt (refine' exc_more ?z108_lu_F ?z108_lu_X ?z108_lu_N ?z108_lu_e ?z108_lu_e2 ?z108_lu_c ?z108_lu_m ?z108_lu_d ?z108_lu_s ?z108_lu_t ?z108_lu_r ?z108_lu_p ?z108_lu_z ?_; (case z108_lu_F => k_asm); (case z108_lu_X => k_asm); (case z108_lu_N => first | k_asm | exact news_tl (by k_asm)); (case z108_lu_e => k_asm); (case z108_lu_e2 => k_asm); (case z108_lu_c => k_is); (case z108_lu_m => rfl); (case z108_lu_d => rfl); (case z108_lu_s => k_is); (case z108_lu_t => k_is); (case z108_lu_r => rfl); (case z108_lu_p => k_put); (case z108_lu_z => exact Nat.le_of_ble_eq_true rfl)); intro _ _ _ _)
  exact True.intro

theorem ns_some_of {K : Frag} {h : Heap} {N : Addr} {mg : Str → Option Value} {n : Str} {v : Value} (X : K.In h) (G : h.Ns N mg) (e : nsIn K N n = some (some v)) : mg n = some v := by
  obtain ⟨o, es, ep, ho, hd, _, hf⟩ := G
  unfold nsIn at e
  split at e
  · rename_i q
    have := X _ _ q
    rw [ho] at this
    cases this
    cases hd
    split at e
    · rename_i he
      cases e
      rw [← hf]
      unfold nsFind findBy
      rw [← Array.find?_toList, he]
      rfl
    · split at e <;> cases e
  · cases e

set_option maxHeartbeats 8000000 in
theorem lua_call {w : World} {p : Program} {loose : List Str} {mean : ExcName → Option Value} {mg mb : Str → Option Value}
    {dp un : Nat} {gd : Option (List Code)} {cn : Str} {cs : Scope} {a : Addr} {ccd : Value} {cl : List (Str × Addr)} {outer : List Env} {A₀ : Around} {base h₀ : Heap} {L : Addr} {m : Str → Option Value}
    {news : List (Addr × Obj)} {s : Shared} {Q E : Value → Shared → Prop} {v : Value}
    (B : Below A₀ base outer h₀) (F : Fr h₀ L s.heap m) (X : (hd.heap_39 w.params).In h₀) (N : News h₀ L s.heap news) (T : Top p loose mean mg mb h₀) (hck : cs.kind = .function)
    (hdp : dp + 3 < recursionLimit) (hu : un + 8 < cLine)
    (h : ∀ e t d h' tk, Fr h₀ L h' m → News h₀ L h' ((e, excO 55 t d) :: news) → (∀ q ∈ news, q.1 ≠ e) → Q (.ref e) { s with heap := h', toks := tk }) :
    wpAny (model PySem.Challenge.rw_pq0674_01.row.prog w) (ktrTop dp un gd cn cs L a ccd cl outer) (call (.ref 55) [v] []) Q E s := by
  revert X; k_fill; intro X
  obtain ⟨hp, g, d, tk, os⟩ := s
  have XH := X.keeps F.keep
  have hC : hp.get? 55 = some (excClassObj (Str.ofString "LuaError") (Str.ofString "LuaError") 55 54 [.type "Exception"] [.type "Exception", .type "BaseException", .type "object"] true [] [] false none none (some (.ref 39)) none (some (.str (Str.ofString "LuaError") 232)) (some (.str (Str.ofString "LuaError") 240)) (some (.bool true)) "Exception.__new__") := XH _ _ (by k_is)
  have hN : hp.Ns 54 (hp.nsMap 54) := .of_isNs (isNs_of_in XH (by kernel_rfl))
  have hI : hp.nsMap 54 (Str.ofString "__init__") = some (.ref 52) := ns_some_of XH hN (by k_is)
  have hFI : ∃ oI : Obj, hp.get? 52 = some oI ∧ oI.cls = .type "function" := ⟨_, XH _ _ (by k_is), rfl⟩
  obtain ⟨oI, hFI, hFc⟩ := hFI
  refine wpAny_call_exc_init PySem.F.excBase_Exception hC hN hI hFI hFc (fun h1 e hx => ?_)
  have hen : h₀.get? e = none := kts_none F.keep hx.new
  obtain ⟨t, he, htn, ht⟩ := hx.there
  have F1 := F.keeps hx.keeps
  have N1 : News h₀ L h1 ((e, excO 55 t none) :: news) := News.more F1 (fun p hp => ⟨hx.keeps _ _ (N p hp).1, (N p hp).2⟩) he (fun es n q => by cases q) hen
  have hne : ∀ q ∈ news, q.1 ≠ e := fun q hq z => by
    have := (N q hq).1
    rw [z, hx.new] at this
    cases this
  clear F N
  refine wpAny_call ?_
  k_dflt cell_enter
  k_steps
  exact h _ _ _ _ _ (by assumption) (news_tl (by assumption)) hne

theorem raise_made {M : Model} {A : Around} {E : Value → Shared → Prop} {env : Env} {nm q : Str} {C N : Addr} {bs bm : List Value} {hdct : Bool} {sn : List Str} {sub : List Value} {ab : Bool} {col : Option Bool} {dd : Option Addr} {k0 k1 k2 k3 k5 : Option Value} {newId : String}
    {s : Shared} {x : Sem Value} {Q : Flow → Shared → Prop} (hbase : bm.contains (.type "BaseException") = true) (hh : A.handled = none)
    (h : wpAny M A x (fun v s₁ => ∃ e t d, v = .ref e ∧ s₁.heap.get? C = some (excClassObj nm q C N bs bm hdct sn sub ab col dd k0 k1 k2 k3 k5 newId) ∧
      s₁.heap.get? e = some (excO C t d) ∧ E (.ref e) s₁) E s) :
    wpAny M A (raiseStmt env (some x) none) Q E s := by
  have hcB : (Value.ref C :: bm).contains (.type "BaseException") = true := by rw [List.contains_cons, hbase, Bool.or_true]
  unfold raiseStmt
  refine wpAny_bind (wpAny_mono h (fun v s₁ h₁ => ?_) fun _ _ x => x)
  obtain ⟨e, t, d, rfl, hC, he, hE⟩ := h₁
  obtain ⟨hp, g, dr, tk, os⟩ := s₁
  repeat (first | with_reducible refine wpAny_loadPart_at he ?_ | with_reducible refine wpAny_loadPart_at hC ?_ | (with_reducible refine wpAny_isSubtype_exc hC ?_; rw [hcB]) | wp_step)
  exact wpAny_raiseNew_none hh hE

/-- an exception of LuaError's is made and handed on -/
def RaiseAt (E : Value → Shared → Prop) (v : Value) (s₁ : Shared) : Prop :=
  ∃ e t d, v = .ref e ∧ (∃ nm q C N bs bm hdct sn sub ab col dd k0 k1 k2 k3 k5 newId, s₁.heap.get? C = some (excClassObj nm q C N bs bm hdct sn sub ab col dd k0 k1 k2 k3 k5 newId) ∧ bm.contains (.type "BaseException") = true ∧ s₁.heap.get? e = some (excO C t d)) ∧ E (.ref e) s₁

theorem raise_made' {M : Model} {A : Around} {E : Value → Shared → Prop} {env : Env} {s : Shared} {x : Sem Value} {Q : Flow → Shared → Prop} (hh : A.handled = none)
    (h : wpAny M A x (RaiseAt E) E s) : wpAny M A (raiseStmt env (some x) none) Q E s := by
  unfold raiseStmt
  refine wpAny_bind (wpAny_mono h (fun v s₁ h₁ => ?_) fun _ _ x => x)
  obtain ⟨e, t, d, rfl, ⟨nm, q, C, N, bs, bm, hdct, sn, sub, ab, col, dd, k0, k1, k2, k3, k5, newId, hC, hbase, he⟩, hE⟩ := h₁
  have hcB : (Value.ref C :: bm).contains (.type "BaseException") = true := by rw [List.contains_cons, hbase, Bool.or_true]
  obtain ⟨hp, g, dr, tk, os⟩ := s₁
  repeat (first | with_reducible refine wpAny_loadPart_at he ?_ | with_reducible refine wpAny_loadPart_at hC ?_ | (with_reducible refine wpAny_isSubtype_exc hC ?_; rw [hcB]) | wp_step)
  exact wpAny_raiseNew_none hh hE

theorem raise_exec {prog : Program} {w : World} {A : Around} {E : Value → Shared → Prop} {env : Env} {s : Shared} {ex : Expr} {pos : Pos} {Q : Flow → Shared → Prop} (hh : A.handled = none)
    (h : wpAny (model prog w) A (eval ex env) (RaiseAt E) E s) : wpAny (model prog w) A (exec (.Raise (some ex) none pos) env) Q E s := by
  rw [arm_exec_Raise]
  exact wpAny_bind (wpAny_standAt (raise_made' hh (wpAny_bind (wpAny_mono h (fun v s₃ h₃ => wpAny_bind (wpAny_standAt (wpAny_pure h₃))) fun _ _ x => x))))

theorem raiseAt_lua {w : World} {E : Value → Shared → Prop} {h₀ : Heap} {L : Addr} {m : Str → Option Value} {news : List (Addr × Obj)} {e t : Addr} {d : Option Addr} {s : Shared} (X : (hd.heap_39 w.params).In h₀) (F : Fr h₀ L s.heap m) (N : News h₀ L s.heap ((e, excO 55 t d) :: news))
    (hE : E (.ref e) s) : RaiseAt E (.ref e) s := by
  have XH := X.keeps F.keep
  obtain ⟨nm, qn, N', bs, bm, hdct, sn, sub, ab, col, dd, k0, k1, k2, k3, k5, newId, hC, hb, _⟩ := kts_cls (C := 55) (T := "BaseException") XH (by kernel_rfl)
  exact ⟨e, t, d, rfl, ⟨nm, qn, 55, N', bs, bm, hdct, sn, sub, ab, col, dd, k0, k1, k2, k3, k5, newId, hC, hb, (N _ (.head _)).1⟩, hE⟩

section
variable {M : Model} {A : Around} {E : Value → Shared → Prop} {s' : Shared} {base g g₂ : Heap} {outer : List Env} {L e : Addr} {m : Str → Option Value} {env : Env} {Q : Unit → Shared → Prop} {news : List (Addr × Obj)}

theorem mem_frames {b : Addr} (hf : env.frame = some L) (hm : b ∈ (env :: outer).filterMap (·.frame)) : b = L ∨ b ∈ outer.filterMap (·.frame) := by
  obtain ⟨en, he, hb⟩ := List.mem_filterMap.mp hm
  rcases List.mem_cons.mp he with rfl | he
  · exact .inl (Option.some.inj (hb.symm.trans hf))
  · exact .inr (List.mem_filterMap.mpr ⟨en, he, hb⟩)

/-- an exception that was just made leaves its frame -/
theorem leave_made {C t : Addr} {d : Option Addr} (K : Below A base outer g) (hf : env.frame = some L) (hk : env.scope.kind = .function) (F : Fr g L s'.heap m) (N : News g L s'.heap ((e, excO C t d) :: news)) (hne : ∀ q ∈ news, q.1 ≠ e)
    (hQ : ∀ h', RaisedSN base g outer e (.ref C) news h' → g.UpToSlots h' → Q () { s' with heap := h' }) :
    wpAny M (A.deeper env) (leaving env (.ref e)) Q E s' := by
  have K' := pushX K F hf hk
  have Ne := N _ (.head _)
  have hLe : L ≠ e := fun z => Ne.2.1 z.symm
  have heF : e ∉ (env :: outer).filterMap (·.frame) := fun hm => by
    rcases mem_frames hf hm with z | z
    · exact hLe z.symm
    · obtain ⟨_, o, ho, _⟩ := K.frames.mem z
      have q : g.get? e = none := Ne.2.2
      rw [q] at ho; cases ho
  let hid : List Addr := e :: (env :: outer).filterMap (·.frame)
  have st : base.StaysIn (hideAll s'.heap hid) := fun b o q => hideAll_get _ (K'.stays b o q) fun hm => by
    rcases List.mem_cons.mp hm with z | z
    · have q2 := K.stays b o q
      rw [z] at q2
      have q3 : g.get? e = none := Ne.2.2
      rw [q3] at q2; cases q2
    · rw [(K'.frames.mem z).1] at q; cases q
  have sg : ∀ b o, g.get? b = some o → b ∉ outer.filterMap (·.frame) → (hideAll s'.heap hid).get? b = some o := fun b o q nm => hideAll_get _ (F.keep b o q) fun hm => by
    rcases List.mem_cons.mp hm with z | z
    · have q3 : g.get? e = none := Ne.2.2
      rw [z, q3] at q; cases q
    · rcases mem_frames hf z with z | z
      · rw [z, kts_self F] at q; cases q
      · exact nm z
  have hl : ∀ q ∈ news, (hideAll s'.heap hid).get? q.1 = some q.2 ∧ g.get? q.1 = none ∧ base.get? q.1 = none := fun q hq => by
    have Nq := N q (.tail _ hq)
    refine ⟨hideAll_get _ Nq.1 fun hm => ?_, Nq.2.2, fresh_of_stays K.stays Nq.2.2⟩
    rcases List.mem_cons.mp hm with z | z
    · exact hne q hq z
    · rcases mem_frames hf z with z | z
      · exact Nq.2.1 z
      · obtain ⟨_, o, ho, _⟩ := K.frames.mem z
        rw [Nq.2.2] at ho; cases ho
  have hen : (hideAll s'.heap hid).get? e = none := hideAll_none _ (List.mem_cons_self ..)
  have hFr : s'.heap.FunFrames (hideAll s'.heap hid) (env :: outer) :=
    funFrames_hide K'.frames fun en hen b hb => List.mem_cons_of_mem _ (List.mem_filterMap.mpr ⟨en, hen, hb⟩)
  refine wpAny_leaving_firstW (a0 := .ref t) (oe := excO C t d) K'.stack hFr hf Ne.1 (fun b o q => of_hideAll _ q) hen rfl rfl rfl fun h' hL => ?_
  obtain ⟨k1, ⟨_, _, k2⟩, k3, k4⟩ := hL
  exact hQ h' ⟨_, .ref t, st, sg, hl, k1, hen, k2, k3⟩ ((Heap.UpToSlots.of_keeps F.keep).trans k4)

/-- a flying exception leaves the next frame -/
theorem leave_next {cls : Value} (K : Below A base outer g) (hf : env.frame = some L) (F : Fr g L g₂ m) (R : RaisedSN base g₂ (env :: outer) e cls news s'.heap) (hsm : g₂.UpToSlots s'.heap)
    (hQ : ∀ h', RaisedSN base g outer e cls news h' → g.UpToSlots h' → Q () { s' with heap := h' }) :
    wpAny M (A.deeper env) (leaving env (.ref e)) Q E s' := by
  obtain ⟨B, a0, hB, hBG, hl, hfl⟩ := R
  exact wpAny_leaves_onW (Around.frames_deeper K.stack) hf hfl fun h' x1 x2 =>
    hQ h' ⟨B, a0, hB, fun b o q nm => hBG b o (F.keep b o q) (fun hm => by
      rcases mem_frames hf hm with z | z
      · rw [z, kts_self F] at q; cases q
      · exact nm z), fun q hq => ⟨(hl q hq).1, kts_none F.keep (hl q hq).2.1, (hl q hq).2.2⟩, x1⟩ ((Heap.UpToSlots.of_keeps F.keep).trans (hsm.trans x2))
end
end

-- Does
section
open PySem PySem.W PyProof.Rows
theorem rows_does : True := by
  k_with_none
  k_with "mine and" => (first | (with_reducible exact And.left) | ((with_reducible refine andR ?_); first | (with_reducible exact id) | k_extra "mine and"))
  k_with "mine lt1" => (first | (with_reducible assumption) | ((with_reducible refine' viaC ?zvh ?zvk); (case zvh => with_reducible assumption); (case zvk => k_extra "mine and")))
  k_with "mine lt2" => (first | k_extra "mine lt1" | ((with_reducible refine' ltLit ?zlh ?zlk); (case zlh => with_reducible assumption); (case zlk => exact rfl)))
  k_with "mine lt3" => (first | k_extra "mine lt2" | ((with_reducible refine' ltT ?zth ?ztk); (case zth => with_reducible assumption); (case ztk => first | k_extra "mine lt2" | ((with_reducible refine' ltT ?zuh ?zuk); (case zuh => with_reducible assumption); (case zuk => k_extra "mine lt2")))) | ((with_reducible refine lt_dn ?_); first | k_extra "mine lt1" | ((with_reducible refine lt_dn ?_); first | k_extra "mine lt1" | ((with_reducible refine lt_dn ?_); first | k_extra "mine lt1" | ((with_reducible refine lt_dn ?_); first | k_extra "mine lt1" | ((with_reducible refine lt_dn ?_); k_extra "mine lt1"))))))
  k_with "mine lt" => (first | (with_reducible exact lt_one) | ((with_reducible show _ < _ + _); (with_reducible refine lt_up ?_); k_extra "mine lt") | ((fail_if_success (with_reducible show _ < _ + _)); k_extra "mine lt3"))
  k_with "mine ne0" => (first | (with_reducible assumption) | (with_reducible exact Ne.symm (by with_reducible assumption)) | (exact neLits rfl) | ((with_reducible refine Nat.ne_of_gt ?_); k_extra "mine lt") | ((with_reducible refine Nat.ne_of_lt ?_); k_extra "mine lt"))
  k_with "mine ne" => ((try dsimp only); (first | k_extra "mine ne0" | k_extra "mine omegaF"))
  k_with "mine rm" => (first | (with_reducible exact room0 (by with_reducible assumption)) | ((with_reducible refine' roomLe ?zrh ?zrk); (case zrh => with_reducible assumption); (case zrk => exact rfl)) | ((with_reducible refine roomS ?_); k_extra "mine rm"))
  k_with "mine le" => (first | (exact leLits rfl) | ((with_reducible refine' leLit ?zmh ?zmk); (case zmh => with_reducible assumption); (case zmk => exact rfl)) | ((with_reducible refine Nat.le_of_lt ?_); k_extra "mine lt"))
  k_with "mine lg" => (first | (exact ltLits rfl) | k_extra "mine rm" | ((with_reducible refine' ltOf ?znh ?znk); (case znh => with_reducible assumption); (case znk => exact rfl)) | k_extra "mine lt")
  k_with "mine ill" => (first | (with_reducible assumption) | decide | ((with_reducible refine' intLtLt ?zi1h ?zi1k); (case zi1h => with_reducible assumption); (case zi1k => decide)) | ((with_reducible refine' intLeLt ?zi2h ?zi2k); (case zi2h => with_reducible assumption); (case zi2k => decide)) | ((with_reducible refine' intRoom ?zi3h ?zi3k); (case zi3h => with_reducible assumption); (case zi3k => decide)) | ((with_reducible refine' intAddLt ?zi4h ?zi4k); (case zi4h => with_reducible assumption); (case zi4k => decide)) | ((with_reducible refine intS ?_); k_extra "mine ill"))
  k_with "mine ile" => (first | (with_reducible assumption) | decide | ((with_reducible refine intNn ?_); k_extra "mine ile") | ((with_reducible refine' intLtLe ?zi5h ?zi5k); (case zi5h => with_reducible assumption); (case zi5k => decide)) | ((with_reducible refine' intLeLe ?zi6h ?zi6k); (case zi6h => with_reducible assumption); (case zi6k => decide)) | ((with_reducible refine' intGeGe ?zi7h ?zi7k); (case zi7h => with_reducible assumption); (case zi7k => decide)) | ((with_reducible refine' intAddLe ?zi8h ?zi8k); (case zi8h => with_reducible assumption); (case zi8k => decide)) | ((with_reducible refine' intAddGe ?zi9h ?zi9k); (case zi9h => with_reducible assumption); (case zi9k => decide)) | ((with_reducible refine' intSubGe ?zi10h ?zi10k); (case zi10h => with_reducible assumption); (case zi10k => decide)) | ((with_reducible refine' intSubLe ?zi11h ?zi11k); (case zi11h => with_reducible assumption); (case zi11k => decide)))
  k_with "mine omegaF" => (first | ((repeat ((with_reducible rename _ ∧ _ => kz); clear kz)); (repeat ((with_reducible rename _ ≠ _ => kz); clear kz)); omega (config := {})) | omega (config := {}))
  k_with "mine omega" => (first | (with_reducible assumption) | ((with_reducible show @Ne Nat _ _); k_extra "mine ne0") | ((with_reducible show @LT.lt Nat _ _ _); k_extra "mine lg") | ((with_reducible show @LE.le Nat _ _ _); k_extra "mine le") | ((with_reducible show @LT.lt Int _ _ _); k_extra "mine ill") | ((with_reducible show @LE.le Int _ _ _); k_extra "mine ile") | ((with_reducible refine' ⟨?zoa, ?zob⟩); (case zoa => k_extra "mine ile"); (case zob => k_extra "mine ile")) | k_extra "mine omegaF")
  exact True.intro

set_option maxRecDepth 100000

/-- what a call does, from any frame: it hands back v and leaves the ledger news', or raises a LuaError and leaves the ledger news' -/
def Does (w : World) (p : Program) (loose : List Str) (mean : ExcName → Option Value) (mg mb : Str → Option Value) (f : Value) (args : List Value) (d : Nat) (news : List (Addr × Obj))
    (Ok : Value → List (Addr × Obj) → Prop) (Ex : List (Addr × Obj) → Prop) : Prop :=
  ∀ (dp un : Nat) (gd : Option (List Code)) (cn : Str) (cs : Scope) (a : Addr) (ccd : Value) (cl : List (Str × Addr)) (outer : List Env) (A₀ : Around) (base h₀ : Heap) (L : Addr) (m : Str → Option Value) (s : Shared) (Q E : Value → Shared → Prop),
    Below A₀ base outer h₀ → Fr h₀ L s.heap m → (hd.heap_39 w.params).In h₀ → News h₀ L s.heap news → Top p loose mean mg mb h₀ → cs.kind = .function → dp + d < recursionLimit → un + 16 * d < cLine →
    (∀ v news' h' tk, Ok v news' → Fr h₀ L h' m → News h₀ L h' news' → Q v { s with heap := h', toks := tk }) →
    (∀ e g h' tk news', Ex news' → Fr h₀ L g m → RaisedSN base g (envX cn cs L a ccd cl :: outer) e (.ref 55) news' h' → g.UpToSlots h' → E (.ref e) { s with heap := h', toks := tk }) →
    wpAny (model PySem.Challenge.rw_pq0674_01.row.prog w) (ktrTop dp un gd cn cs L a ccd cl outer) (call f args) Q E s

/-- a function's object -/
def FnO (o : Obj) : Prop := ∃ oc od fd sl, o = (⟨oc, od, .func fd, sl⟩ : Obj)

/-- the counter: one more is seen; past left it raises -/
def TickOk (w : World) (p : Program) (loose : List Str) (mean : ExcName → Option Value) (mg mb : Str → Option Value) (f sn : Addr) (left : Int) (ex : List (Addr × Obj)) : Prop :=
  ∀ (rest : List (Addr × Obj)) (ws : List Value) (n : Nat), (∀ q ∈ ex, q ∈ rest) → (∀ q ∈ rest, q.1 ≠ sn) → ws.length ≤ 1000 →
    Does w p loose mean mg mb (.ref f) [] 6 ((sn, W.listOf ws.toArray n) :: rest)
      (fun v nw => v = .none ∧ (ws.length : Int) + 1 ≤ left ∧ ∃ x n', nw = (sn, W.listOf (ws ++ [x]).toArray n') :: rest)
      (fun nw => left < (ws.length : Int) + 1 ∧ ∃ x n', nw = (sn, W.listOf (ws ++ [x]).toArray n') :: rest)

theorem len_any {prog : Program} {w : World} {A : Around} {E : Value → Shared → Prop} {s : Shared} {h₀ : Heap} {L D : Addr} {news : List (Addr × Obj)} {its : Array Value} {c : Nat} {Q : Value → Shared → Prop} (N : News h₀ L s.heap news) (hm : (D, W.listOf its c) ∈ news)
    (hf : its.size < 2 ^ 62) (h : Q (.int (its.size : Nat) (s.toks + 1)) { s with toks := s.toks + 1 + 1 }) :
    wpAny (model prog w) A (call (.builtin "len") [.ref D]) Q E s := KM.len_K N hm rfl hf h
end

-- C1
section
open PySem PySem.W PyProof.Rows
set_option maxRecDepth 100000
theorem rows_c1 : True := by
  k_with_none
  k_with "mine and" => (first | (with_reducible exact And.left) | ((with_reducible refine andR ?_); first | (with_reducible exact id) | k_extra "mine and"))
  k_with "mine lt1" => (first | (with_reducible assumption) | ((with_reducible refine' viaC ?zvh ?zvk); (case zvh => with_reducible assumption); (case zvk => k_extra "mine and")))
  k_with "mine lt2" => (first | k_extra "mine lt1" | ((with_reducible refine' ltLit ?zlh ?zlk); (case zlh => with_reducible assumption); (case zlk => exact rfl)))
  k_with "mine lt3" => (first | k_extra "mine lt2" | ((with_reducible refine' ltT ?zth ?ztk); (case zth => with_reducible assumption); (case ztk => first | k_extra "mine lt2" | ((with_reducible refine' ltT ?zuh ?zuk); (case zuh => with_reducible assumption); (case zuk => k_extra "mine lt2")))) | ((with_reducible refine lt_dn ?_); first | k_extra "mine lt1" | ((with_reducible refine lt_dn ?_); first | k_extra "mine lt1" | ((with_reducible refine lt_dn ?_); first | k_extra "mine lt1" | ((with_reducible refine lt_dn ?_); first | k_extra "mine lt1" | ((with_reducible refine lt_dn ?_); k_extra "mine lt1"))))))
  k_with "mine lt" => (first | (with_reducible exact lt_one) | ((with_reducible show _ < _ + _); (with_reducible refine lt_up ?_); k_extra "mine lt") | ((fail_if_success (with_reducible show _ < _ + _)); k_extra "mine lt3"))
  k_with "mine ne0" => (first | (with_reducible assumption) | (with_reducible exact Ne.symm (by with_reducible assumption)) | (exact neLits rfl) | ((with_reducible refine Nat.ne_of_gt ?_); k_extra "mine lt") | ((with_reducible refine Nat.ne_of_lt ?_); k_extra "mine lt"))
  k_with "mine ne" => ((try dsimp only); (first | k_extra "mine ne0" | k_extra "mine omegaF"))
  k_with "mine rm" => (first | (with_reducible exact room0 (by with_reducible assumption)) | ((with_reducible refine' roomLe ?zrh ?zrk); (case zrh => with_reducible assumption); (case zrk => exact rfl)) | ((with_reducible refine roomS ?_); k_extra "mine rm"))
  k_with "mine le" => (first | (exact leLits rfl) | ((with_reducible refine' leLit ?zmh ?zmk); (case zmh => with_reducible assumption); (case zmk => exact rfl)) | ((with_reducible refine Nat.le_of_lt ?_); k_extra "mine lt"))
  k_with "mine lg" => (first | (exact ltLits rfl) | k_extra "mine rm" | ((with_reducible refine' ltOf ?znh ?znk); (case znh => with_reducible assumption); (case znk => exact rfl)) | k_extra "mine lt")
  k_with "mine ill" => (first | (with_reducible assumption) | decide | ((with_reducible refine' intLtLt ?zi1h ?zi1k); (case zi1h => with_reducible assumption); (case zi1k => decide)) | ((with_reducible refine' intLeLt ?zi2h ?zi2k); (case zi2h => with_reducible assumption); (case zi2k => decide)) | ((with_reducible refine' intRoom ?zi3h ?zi3k); (case zi3h => with_reducible assumption); (case zi3k => decide)) | ((with_reducible refine' intAddLt ?zi4h ?zi4k); (case zi4h => with_reducible assumption); (case zi4k => decide)) | ((with_reducible refine intS ?_); k_extra "mine ill"))
  k_with "mine ile" => (first | (with_reducible assumption) | decide | ((with_reducible refine intNn ?_); k_extra "mine ile") | ((with_reducible refine' intLtLe ?zi5h ?zi5k); (case zi5h => with_reducible assumption); (case zi5k => decide)) | ((with_reducible refine' intLeLe ?zi6h ?zi6k); (case zi6h => with_reducible assumption); (case zi6k => decide)) | ((with_reducible refine' intGeGe ?zi7h ?zi7k); (case zi7h => with_reducible assumption); (case zi7k => decide)) | ((with_reducible refine' intAddLe ?zi8h ?zi8k); (case zi8h => with_reducible assumption); (case zi8k => decide)) | ((with_reducible refine' intAddGe ?zi9h ?zi9k); (case zi9h => with_reducible assumption); (case zi9k => decide)) | ((with_reducible refine' intSubGe ?zi10h ?zi10k); (case zi10h => with_reducible assumption); (case zi10k => decide)) | ((with_reducible refine' intSubLe ?zi11h ?zi11k); (case zi11h => with_reducible assumption); (case zi11k => decide)))
  k_with "mine omegaF" => (first | ((repeat ((with_reducible rename _ ∧ _ => kz); clear kz)); (repeat ((with_reducible rename _ ≠ _ => kz); clear kz)); omega (config := {})) | omega (config := {}))
  k_with "mine omega" => (first | (with_reducible assumption) | ((with_reducible show @Ne Nat _ _); k_extra "mine ne0") | ((with_reducible show @LT.lt Nat _ _ _); k_extra "mine lg") | ((with_reducible show @LE.le Nat _ _ _); k_extra "mine le") | ((with_reducible show @LT.lt Int _ _ _); k_extra "mine ill") | ((with_reducible show @LE.le Int _ _ _); k_extra "mine ile") | ((with_reducible refine' ⟨?zoa, ?zob⟩); (case zoa => k_extra "mine ile"); (case zob => k_extra "mine ile")) | k_extra "mine omegaF")
  k_with "mine all" => assumption
  k_with "mine mem" => assumption
  k_with "mine room" => ktr_room
  k_with "my enterC" => (refine' code_defC ?z4_k1 ?z4_k2 ?z4_k3 ?z4_k4 ?z4_k5 ?z4_kA ?z4_kF ?z4_kK ?z4_k6 ?z4_k7 ?z4_k8 ?z4_k9 ?z4_kB ?z4_kD ?_ ?z4_c2 ?z4_c3 ?z4_c4; (case z4_kA => exact rfl); (case z4_kF => exact rfl); (case z4_kK => assumption); (case z4_k1 => k_asm); (case z4_k2 => k_asm); (case z4_k3 => k_asm); (case z4_k4 => k_asm); (case z4_k5 => k_asm); (case z4_k6 => k_is); (case z4_k7 => k_is); (case z4_k8 => ktr_room); (case z4_k9 => exact BindsTo.of_eq rfl); (case z4_kB => exact rfl); (case z4_kD => decide +kernel); (case z4_c2 => exact rfl); (case z4_c3 => exact rfl); (case z4_c4 => exact rfl); k_whole; walk_at "my tail2")
  k_with "my enterN" => (refine' code_nest ?z5_k1 ?z5_k2 ?z5_k3 ?z5_k4 ?z5_k5 ?z5_kA ?z5_kF ?z5_kK ?z5_k6 ?z5_k7 ?z5_k8 ?z5_k9 ?z5_kB ?_ ?z5_c2 ?z5_c3 ?z5_c4 ?z5_c5; (case z5_kA => exact rfl); (case z5_kF => exact rfl); (case z5_kK => assumption); (case z5_k1 => k_asm); (case z5_k2 => k_asm); (case z5_k3 => k_asm); (case z5_k4 => k_asm); (case z5_k5 => k_asm); (case z5_k6 => k_mem); (case z5_k7 => exact codeRec_news (by k_asm) (by k_mem) (by assumption) (by assumption)); (case z5_k8 => ktr_room); (case z5_k9 => exact BindsTo.of_eq rfl); (case z5_c5 => decide); (case z5_kB => exact locs rfl); (case z5_c2 => exact rfl); (case z5_c3 => exact rfl); (case z5_c4 => exact rfl); k_whole; walk_at "my tail1")
  k_with "call builtin:len" => (k_here; k_dflt (refine' len_any (by k_asm) (by k_mem) ?z6_lenh ?_; (case z6_lenh => (simp only [Array.size_push, List.size_toArray, List.length_append, List.length_cons, List.length_nil]; omega))))
  k_with "exec Raise some none" => (k_here; k_dflt (refine raise_exec (by rfl) ?_))
  k_with "RaiseAt" => (k_dflt (refine' raiseAt_lua (by k_asm) (by k_asm) (by k_asm) ?_))
  k_with "leaving ref" => (k_here; k_dflt (refine' leave_made ?z9_lmK ?z9_lmf ?z9_lmk ?z9_lmF ?z9_lmN ?z9_lme ?_; (case z9_lmK => k_asm); (case z9_lmf => rfl); (case z9_lmk => rfl); (case z9_lmF => k_asm); (case z9_lmN => k_asm); (case z9_lme => k_asm)); intro _ _ _)
  k_with "call ref" => (k_here; k_dflt (refine' lua_call ?z10_lcB ?z10_lcF ?z10_lcX ?z10_lcN ?z10_lcT ?z10_lck ?z10_lcd ?z10_lcu ?_; (case z10_lcB => k_asm); (case z10_lcF => k_asm); (case z10_lcX => k_asm); (case z10_lcN => k_asm); (case z10_lcT => k_asm); (case z10_lck => rfl); (case z10_lcd => ktr_room); (case z10_lcu => ktr_units)); intro _ _ _ _ _ _ _ _)
  exact True.intro

set_option maxHeartbeats 8000000 in
theorem counter_spec {w : World} {p : Program} {loose : List Str} {mean : ExcName → Option Value} {mg mb : Str → Option Value}
    {dp un : Nat} {gd : Option (List Code)} {cn : Str} {cs : Scope} {a : Addr} {ccd : Value} {cl : List (Str × Addr)} {outer : List Env} {A₀ : Around} {base h₀ : Heap} {L : Addr} {m : Str → Option Value}
    {rest : List (Addr × Obj)} {s : Shared} {Q E : Value → Shared → Prop} {sn : Addr} {left : Int} {tl : Tok}
    (B : Below A₀ base outer h₀) (F : Fr h₀ L s.heap m) (X : (hd.heap_39 w.params).In h₀) (N : News h₀ L s.heap ((67, tabObj #[]) :: rest)) (T : Top p loose mean mg mb h₀) (hck : cs.kind = .function)
    (hC : CodeHd base 71 67) (hne : ∀ p ∈ rest, p.1 ≠ 67)
    (hdp : dp + 9 < recursionLimit) (hu : un + 100 < cLine)
    (h : ∀ f c' oc ex h' tk, Fr h₀ L h' m → News h₀ L h' (ex ++ (67, tabObj #[rawInt 47, rawInt 4, .ref c']) :: rest) → (∀ q ∈ ex, 67 < q.1 ∧ ∀ r ∈ rest, r.1 < q.1) → (c', oc) ∈ ex →
      (∃ vs t, oc.data = .fields vs ∧ vs[1]? = some (.str (Str.ofString "_law_counter.<locals>.count") t)) → TickOk w p loose mean mg mb f sn left ex → (∃ of, (f, of) ∈ ex ∧ FnO of) → Q (.ref f) { s with heap := h', toks := tk }) :
    wpAny (model PySem.Challenge.rw_pq0674_01.row.prog w) (ktrTop dp un gd cn cs L a ccd cl outer) (call (.ref 72) [.ref sn, .int left tl]) Q E s := by
  revert X; k_fill; intro X
  refine wpAny_call ?_
  k_dflt (walk_at "my enterC")
  k_steps
  rename_i gC LC hpC tkC FGC BC XC TC lC oA oB dA dB f1 c1 oc1 vs1 t1 ct1 dc1 hp1 tk1 d1 d2 l1 l2 hp2 F2 N2 kF kN _ _
  clear F N F2 N2
  refine h f1 c1 oc1 [_, _, _, _] _ _ kF kN ?_ (.tail _ (.head _)) ⟨_, _, d1, d2⟩ ?_ ⟨_, .head _, _, _, _, _, rfl⟩
  · have up : ∀ b : Nat, LC < b → (67 < b ∧ ∀ r ∈ rest, r.1 < b) := fun b hb => ⟨Nat.lt_trans lC.1 hb, fun r hr => Nat.lt_trans (ktn_ltOf lC.2 r hr) hb⟩
    have hc1 : LC < c1 := Nat.lt_trans (Nat.lt_succ_self _) l1.2.1
    intro q hq
    rcases List.mem_cons.mp hq with rfl | hq
    · exact up _ (Nat.lt_trans hc1 l2)
    rcases List.mem_cons.mp hq with rfl | hq
    · exact up _ hc1
    rcases List.mem_cons.mp hq with rfl | hq
    · exact up _ (Nat.lt_succ_of_lt (Nat.lt_succ_self _))
    · rw [List.mem_singleton.mp hq]
      exact up _ (Nat.lt_succ_self _)
  clear h kF kN
  intro rest ws n hex hsn hws
  unfold Does
  clear hck
  intro dp un gd cn cs a ccd cl outer A₀ base h₀ L m s Q E B F X N T hck hdp hu hok hexc
  have m1 := hex _ (.head _)
  have m2 := hex _ (.tail _ (.head _))
  have m3 := hex _ (.tail _ (.tail _ (.head _)))
  have m4 := hex _ (.tail _ (.tail _ (.tail _ (.head _))))
  refine wpAny_call ?_
  k_dflt (walk_at "my enterN")
  k_steps
  · refine hexc _ _ _ _ _ ?xa (by assumption) (by assumption) (by assumption)
    rename left < _ => hlt
    simp only [Array.size_push, List.size_toArray] at hlt
    exact ⟨by omega, _, _, by rw [List.push_toArray]⟩
  · refine hok _ _ _ _ ?xb (by assumption) (by assumption)
    rename ¬ left < _ => hlt
    simp only [Array.size_push, List.size_toArray] at hlt
    exact ⟨rfl, by omega, _, _, by rw [List.push_toArray]⟩
end

-- C2
section
open PySem PySem.W PyProof.Rows
set_option maxRecDepth 100000
theorem rows_c2 : True := by
  k_with_none
  k_with "mine and" => (first | (with_reducible exact And.left) | ((with_reducible refine andR ?_); first | (with_reducible exact id) | k_extra "mine and"))
  k_with "mine lt1" => (first | (with_reducible assumption) | ((with_reducible refine' viaC ?zvh ?zvk); (case zvh => with_reducible assumption); (case zvk => k_extra "mine and")))
  k_with "mine lt2" => (first | k_extra "mine lt1" | ((with_reducible refine' ltLit ?zlh ?zlk); (case zlh => with_reducible assumption); (case zlk => exact rfl)))
  k_with "mine lt3" => (first | k_extra "mine lt2" | ((with_reducible refine' ltT ?zth ?ztk); (case zth => with_reducible assumption); (case ztk => first | k_extra "mine lt2" | ((with_reducible refine' ltT ?zuh ?zuk); (case zuh => with_reducible assumption); (case zuk => k_extra "mine lt2")))) | ((with_reducible refine lt_dn ?_); first | k_extra "mine lt1" | ((with_reducible refine lt_dn ?_); first | k_extra "mine lt1" | ((with_reducible refine lt_dn ?_); first | k_extra "mine lt1" | ((with_reducible refine lt_dn ?_); first | k_extra "mine lt1" | ((with_reducible refine lt_dn ?_); k_extra "mine lt1"))))))
  k_with "mine lt" => (first | (with_reducible exact lt_one) | ((with_reducible show _ < _ + _); (with_reducible refine lt_up ?_); k_extra "mine lt") | ((fail_if_success (with_reducible show _ < _ + _)); k_extra "mine lt3"))
  k_with "mine ne0" => (first | (with_reducible assumption) | (with_reducible exact Ne.symm (by with_reducible assumption)) | (exact neLits rfl) | ((with_reducible refine Nat.ne_of_gt ?_); k_extra "mine lt") | ((with_reducible refine Nat.ne_of_lt ?_); k_extra "mine lt"))
  k_with "mine ne" => ((try dsimp only); (first | k_extra "mine ne0" | k_extra "mine omegaF"))
  k_with "mine rm" => (first | (with_reducible exact room0 (by with_reducible assumption)) | ((with_reducible refine' roomLe ?zrh ?zrk); (case zrh => with_reducible assumption); (case zrk => exact rfl)) | ((with_reducible refine roomS ?_); k_extra "mine rm"))
  k_with "mine le" => (first | (exact leLits rfl) | ((with_reducible refine' leLit ?zmh ?zmk); (case zmh => with_reducible assumption); (case zmk => exact rfl)) | ((with_reducible refine Nat.le_of_lt ?_); k_extra "mine lt"))
  k_with "mine lg" => (first | (exact ltLits rfl) | k_extra "mine rm" | ((with_reducible refine' ltOf ?znh ?znk); (case znh => with_reducible assumption); (case znk => exact rfl)) | k_extra "mine lt")
  k_with "mine ill" => (first | (with_reducible assumption) | decide | ((with_reducible refine' intLtLt ?zi1h ?zi1k); (case zi1h => with_reducible assumption); (case zi1k => decide)) | ((with_reducible refine' intLeLt ?zi2h ?zi2k); (case zi2h => with_reducible assumption); (case zi2k => decide)) | ((with_reducible refine' intRoom ?zi3h ?zi3k); (case zi3h => with_reducible assumption); (case zi3k => decide)) | ((with_reducible refine' intAddLt ?zi4h ?zi4k); (case zi4h => with_reducible assumption); (case zi4k => decide)) | ((with_reducible refine intS ?_); k_extra "mine ill"))
  k_with "mine ile" => (first | (with_reducible assumption) | decide | ((with_reducible refine intNn ?_); k_extra "mine ile") | ((with_reducible refine' intLtLe ?zi5h ?zi5k); (case zi5h => with_reducible assumption); (case zi5k => decide)) | ((with_reducible refine' intLeLe ?zi6h ?zi6k); (case zi6h => with_reducible assumption); (case zi6k => decide)) | ((with_reducible refine' intGeGe ?zi7h ?zi7k); (case zi7h => with_reducible assumption); (case zi7k => decide)) | ((with_reducible refine' intAddLe ?zi8h ?zi8k); (case zi8h => with_reducible assumption); (case zi8k => decide)) | ((with_reducible refine' intAddGe ?zi9h ?zi9k); (case zi9h => with_reducible assumption); (case zi9k => decide)) | ((with_reducible refine' intSubGe ?zi10h ?zi10k); (case zi10h => with_reducible assumption); (case zi10k => decide)) | ((with_reducible refine' intSubLe ?zi11h ?zi11k); (case zi11h => with_reducible assumption); (case zi11k => decide)))
  k_with "mine omegaF" => (first | ((repeat ((with_reducible rename _ ∧ _ => kz); clear kz)); (repeat ((with_reducible rename _ ≠ _ => kz); clear kz)); omega (config := {})) | omega (config := {}))
  k_with "mine omega" => (first | (with_reducible assumption) | ((with_reducible show @Ne Nat _ _); k_extra "mine ne0") | ((with_reducible show @LT.lt Nat _ _ _); k_extra "mine lg") | ((with_reducible show @LE.le Nat _ _ _); k_extra "mine le") | ((with_reducible show @LT.lt Int _ _ _); k_extra "mine ill") | ((with_reducible show @LE.le Int _ _ _); k_extra "mine ile") | ((with_reducible refine' ⟨?zoa, ?zob⟩); (case zoa => k_extra "mine ile"); (case zob => k_extra "mine ile")) | k_extra "mine omegaF")
  k_with "mine all" => assumption
  k_with "mine mem" => assumption
  k_with "mine room" => ktr_room
  k_with "my enterC" => (refine' code_defC ?z14_k1 ?z14_k2 ?z14_k3 ?z14_k4 ?z14_k5 ?z14_kA ?z14_kF ?z14_kK ?z14_k6 ?z14_k7 ?z14_k8 ?z14_k9 ?z14_kB ?z14_kD ?_ ?z14_c2 ?z14_c3 ?z14_c4; (case z14_kA => exact rfl); (case z14_kF => exact rfl); (case z14_kK => assumption); (case z14_k1 => k_asm); (case z14_k2 => k_asm); (case z14_k3 => k_asm); (case z14_k4 => k_asm); (case z14_k5 => k_asm); (case z14_k6 => k_is); (case z14_k7 => k_is); (case z14_k8 => ktr_room); (case z14_k9 => exact BindsTo.of_eq rfl); (case z14_kB => exact rfl); (case z14_kD => decide +kernel); (case z14_c2 => exact rfl); (case z14_c3 => exact rfl); (case z14_c4 => exact rfl); k_whole; walk_at "my tail2")
  k_with "my enterN" => (refine' code_nest ?z15_k1 ?z15_k2 ?z15_k3 ?z15_k4 ?z15_k5 ?z15_kA ?z15_kF ?z15_kK ?z15_k6 ?z15_k7 ?z15_k8 ?z15_k9 ?z15_kB ?_ ?z15_c2 ?z15_c3 ?z15_c4 ?z15_c5; (case z15_kA => exact rfl); (case z15_kF => exact rfl); (case z15_kK => assumption); (case z15_k1 => k_asm); (case z15_k2 => k_asm); (case z15_k3 => k_asm); (case z15_k4 => k_asm); (case z15_k5 => k_asm); (case z15_k6 => k_mem); (case z15_k7 => exact codeRec_news (by k_asm) (by k_mem) (by assumption) (by assumption)); (case z15_k8 => ktr_room); (case z15_k9 => exact BindsTo.of_eq rfl); (case z15_c5 => decide); (case z15_kB => exact locs rfl); (case z15_c2 => exact rfl); (case z15_c3 => exact rfl); (case z15_c4 => exact rfl); k_whole; walk_at "my tail1")
  k_with "call builtin:len" => (k_here; k_dflt (refine' len_any (by k_asm) (by k_mem) ?z16_lenh ?_; (case z16_lenh => (simp only [Array.size_push, List.size_toArray, List.length_append, List.length_cons, List.length_nil]; omega))))
  k_with "exec Raise some none" => (k_here; k_dflt (refine raise_exec (by rfl) ?_))
  k_with "RaiseAt" => (k_dflt (refine' raiseAt_lua (by k_asm) (by k_asm) (by k_asm) ?_))
  k_with "leaving ref" => (k_here; k_dflt (refine' leave_made ?z19_lmK ?z19_lmf ?z19_lmk ?z19_lmF ?z19_lmN ?z19_lme ?_; (case z19_lmK => k_asm); (case z19_lmf => rfl); (case z19_lmk => rfl); (case z19_lmF => k_asm); (case z19_lmN => k_asm); (case z19_lme => k_asm)); intro _ _ _)
  k_with "call ref" => (k_here; k_dflt (refine' lua_call ?z20_lcB ?z20_lcF ?z20_lcX ?z20_lcN ?z20_lcT ?z20_lck ?z20_lcd ?z20_lcu ?_; (case z20_lcB => k_asm); (case z20_lcF => k_asm); (case z20_lcX => k_asm); (case z20_lcN => k_asm); (case z20_lcT => k_asm); (case z20_lck => rfl); (case z20_lcd => ktr_room); (case z20_lcu => ktr_units)); intro _ _ _ _ _ _ _ _)
  exact True.intro

set_option maxHeartbeats 8000000 in
theorem counter_hit {w : World} {p : Program} {loose : List Str} {mean : ExcName → Option Value} {mg mb : Str → Option Value}
    {dp un : Nat} {gd : Option (List Code)} {cn : Str} {cs : Scope} {a : Addr} {ccd : Value} {cl : List (Str × Addr)} {outer : List Env} {A₀ : Around} {base h₀ : Heap} {L : Addr} {m : Str → Option Value}
    {rest : List (Addr × Obj)} {s : Shared} {Q E : Value → Shared → Prop} {sn c0 : Addr} {oc0 : Obj} {vs0 : Array Value} {t0 : Tok} {left : Int} {tl : Tok}
    (B : Below A₀ base outer h₀) (F : Fr h₀ L s.heap m) (X : (hd.heap_39 w.params).In h₀) (N : News h₀ L s.heap ((67, tabObj #[rawInt 47, rawInt 4, .ref c0]) :: rest)) (T : Top p loose mean mg mb h₀) (hck : cs.kind = .function)
    (hC : CodeHd base 71 67) (hm0 : (c0, oc0) ∈ rest) (hd0 : oc0.data = .fields vs0) (hv0 : vs0[1]? = some (.str (Str.ofString "_law_counter.<locals>.count") t0)) (hne : ∀ p ∈ rest, p.1 ≠ 67)
    (hdp : dp + 9 < recursionLimit) (hu : un + 100 < cLine)
    (h : ∀ f ex h' tk, Fr h₀ L h' m → News h₀ L h' (ex ++ (67, tabObj #[rawInt 47, rawInt 4, .ref c0]) :: rest) → (∀ q ∈ ex, 67 < q.1 ∧ ∀ r ∈ rest, r.1 < q.1) →
      TickOk w p loose mean mg mb f sn left ((c0, oc0) :: ex) → (∃ of, (f, of) ∈ ex ∧ FnO of) → Q (.ref f) { s with heap := h', toks := tk }) :
    wpAny (model PySem.Challenge.rw_pq0674_01.row.prog w) (ktrTop dp un gd cn cs L a ccd cl outer) (call (.ref 72) [.ref sn, .int left tl]) Q E s := by
  revert X; k_fill; intro X
  refine wpAny_call ?_
  k_dflt (walk_at "my enterC")
  k_steps
  rename_i gC LC hpC tkC FGC BC XC TC lC oA oB dA dB f1 ct1 dc1 hp1 tk1 l1 hp2 F2 N2 kF kN _ _
  clear F N F2 N2
  refine h f1 [_, _, _] _ _ kF kN ?_ ?_ ⟨_, .head _, _, _, _, _, rfl⟩
  · have up : ∀ b : Nat, LC < b → (67 < b ∧ ∀ r ∈ rest, r.1 < b) := fun b hb => ⟨Nat.lt_trans lC.1 hb, fun r hr => Nat.lt_trans (ktn_ltOf lC.2 r hr) hb⟩
    intro q hq
    rcases List.mem_cons.mp hq with rfl | hq
    · exact up _ (Nat.lt_trans (Nat.lt_succ_self _) l1.2.1)
    rcases List.mem_cons.mp hq with rfl | hq
    · exact up _ (Nat.lt_succ_of_lt (Nat.lt_succ_self _))
    · rw [List.mem_singleton.mp hq]
      exact up _ (Nat.lt_succ_self _)
  clear h kF kN
  intro rest ws n hex hsn hws
  unfold Does
  clear hck
  intro dp un gd cn cs a ccd cl outer A₀ base h₀ L m s Q E B F X N T hck hdp hu hok hexc
  have m1 := hex _ (.tail _ (.head _))
  have m2 := hex _ (.head _)
  have m3 := hex _ (.tail _ (.tail _ (.head _)))
  have m4 := hex _ (.tail _ (.tail _ (.tail _ (.head _))))
  refine wpAny_call ?_
  k_dflt (walk_at "my enterN")
  k_steps
  · refine hexc _ _ _ _ _ ?xa (by assumption) (by assumption) (by assumption)
    rename left < _ => hlt
    simp only [Array.size_push, List.size_toArray] at hlt
    exact ⟨by omega, _, _, by rw [List.push_toArray]⟩
  · refine hok _ _ _ _ ?xb (by assumption) (by assumption)
    rename ¬ left < _ => hlt
    simp only [Array.size_push, List.size_toArray] at hlt
    exact ⟨rfl, by omega, _, _, by rw [List.push_toArray]⟩
end

-- M1
section
open PySem PySem.W PyProof.Rows
set_option maxRecDepth 100000
theorem rows_m1 : True := by
  k_with_none
  k_with "mine and" => (first | (with_reducible exact And.left) | ((with_reducible refine andR ?_); first | (with_reducible exact id) | k_extra "mine and"))
  k_with "mine lt1" => (first | (with_reducible assumption) | ((with_reducible refine' viaC ?zvh ?zvk); (case zvh => with_reducible assumption); (case zvk => k_extra "mine and")))
  k_with "mine lt2" => (first | k_extra "mine lt1" | ((with_reducible refine' ltLit ?zlh ?zlk); (case zlh => with_reducible assumption); (case zlk => exact rfl)))
  k_with "mine lt3" => (first | k_extra "mine lt2" | ((with_reducible refine' ltT ?zth ?ztk); (case zth => with_reducible assumption); (case ztk => first | k_extra "mine lt2" | ((with_reducible refine' ltT ?zuh ?zuk); (case zuh => with_reducible assumption); (case zuk => k_extra "mine lt2")))) | ((with_reducible refine lt_dn ?_); first | k_extra "mine lt1" | ((with_reducible refine lt_dn ?_); first | k_extra "mine lt1" | ((with_reducible refine lt_dn ?_); first | k_extra "mine lt1" | ((with_reducible refine lt_dn ?_); first | k_extra "mine lt1" | ((with_reducible refine lt_dn ?_); k_extra "mine lt1"))))))
  k_with "mine lt" => (first | (with_reducible exact lt_one) | ((with_reducible show _ < _ + _); (with_reducible refine lt_up ?_); k_extra "mine lt") | ((fail_if_success (with_reducible show _ < _ + _)); k_extra "mine lt3"))
  k_with "mine ne0" => (first | (with_reducible assumption) | (with_reducible exact Ne.symm (by with_reducible assumption)) | (exact neLits rfl) | ((with_reducible refine Nat.ne_of_gt ?_); k_extra "mine lt") | ((with_reducible refine Nat.ne_of_lt ?_); k_extra "mine lt"))
  k_with "mine ne" => ((try dsimp only); (first | k_extra "mine ne0" | k_extra "mine omegaF"))
  k_with "mine rm" => (first | (with_reducible exact room0 (by with_reducible assumption)) | ((with_reducible refine' roomLe ?zrh ?zrk); (case zrh => with_reducible assumption); (case zrk => exact rfl)) | ((with_reducible refine roomS ?_); k_extra "mine rm"))
  k_with "mine le" => (first | (exact leLits rfl) | ((with_reducible refine' leLit ?zmh ?zmk); (case zmh => with_reducible assumption); (case zmk => exact rfl)) | ((with_reducible refine Nat.le_of_lt ?_); k_extra "mine lt"))
  k_with "mine lg" => (first | (exact ltLits rfl) | k_extra "mine rm" | ((with_reducible refine' ltOf ?znh ?znk); (case znh => with_reducible assumption); (case znk => exact rfl)) | k_extra "mine lt")
  k_with "mine ill" => (first | (with_reducible assumption) | decide | ((with_reducible refine' intLtLt ?zi1h ?zi1k); (case zi1h => with_reducible assumption); (case zi1k => decide)) | ((with_reducible refine' intLeLt ?zi2h ?zi2k); (case zi2h => with_reducible assumption); (case zi2k => decide)) | ((with_reducible refine' intRoom ?zi3h ?zi3k); (case zi3h => with_reducible assumption); (case zi3k => decide)) | ((with_reducible refine' intAddLt ?zi4h ?zi4k); (case zi4h => with_reducible assumption); (case zi4k => decide)) | ((with_reducible refine intS ?_); k_extra "mine ill"))
  k_with "mine ile" => (first | (with_reducible assumption) | decide | ((with_reducible refine intNn ?_); k_extra "mine ile") | ((with_reducible refine' intLtLe ?zi5h ?zi5k); (case zi5h => with_reducible assumption); (case zi5k => decide)) | ((with_reducible refine' intLeLe ?zi6h ?zi6k); (case zi6h => with_reducible assumption); (case zi6k => decide)) | ((with_reducible refine' intGeGe ?zi7h ?zi7k); (case zi7h => with_reducible assumption); (case zi7k => decide)) | ((with_reducible refine' intAddLe ?zi8h ?zi8k); (case zi8h => with_reducible assumption); (case zi8k => decide)) | ((with_reducible refine' intAddGe ?zi9h ?zi9k); (case zi9h => with_reducible assumption); (case zi9k => decide)) | ((with_reducible refine' intSubGe ?zi10h ?zi10k); (case zi10h => with_reducible assumption); (case zi10k => decide)) | ((with_reducible refine' intSubLe ?zi11h ?zi11k); (case zi11h => with_reducible assumption); (case zi11k => decide)))
  k_with "mine omegaF" => (first | ((repeat ((with_reducible rename _ ∧ _ => kz); clear kz)); (repeat ((with_reducible rename _ ≠ _ => kz); clear kz)); omega (config := {})) | omega (config := {}))
  k_with "mine omega" => (first | (with_reducible assumption) | ((with_reducible show @Ne Nat _ _); k_extra "mine ne0") | ((with_reducible show @LT.lt Nat _ _ _); k_extra "mine lg") | ((with_reducible show @LE.le Nat _ _ _); k_extra "mine le") | ((with_reducible show @LT.lt Int _ _ _); k_extra "mine ill") | ((with_reducible show @LE.le Int _ _ _); k_extra "mine ile") | ((with_reducible refine' ⟨?zoa, ?zob⟩); (case zoa => k_extra "mine ile"); (case zob => k_extra "mine ile")) | k_extra "mine omegaF")
  k_with "mine all" => assumption
  k_with "mine mem" => assumption
  k_with "exec For Tuple Call cons nil" => (k_here; k_dflt (refine For_turns (by k_asm) ?_))
  k_with "call type:enumerate" => fail "mine"
  k_with "call builtin:dict.get" => (k_here; k_dflt (refine kdg_get1 (knd := intKind _ _) (by k_asm) (by k_mem) (by assumption) (by assumption) (intKind_is _ _ _ _) _ rfl ?_))
  k_with "setItem ref int" => (k_here; k_dflt (refine' kda_set (knd := intKind _ _) ?z114_F ?z114_N ?z114_U ?z114_d (intKind_is _ _ _ _) ?z114_z ?_; (case z114_F => k_asm); (case z114_N => k_asm); (case z114_U => k_updF); (case z114_d => assumption); (case z114_z => rw [sizeLine_eq]; omega)); intro _ _ _; intro N'; (try dsimp only at N'); revert N'; intro _; intro _)
  exact True.intro

/-- one move: what stands beside is put there -/
def mv1 (way : Int) (kvs : List (Int × Value)) (g : Int) : List (Int × Value) := stored kvs g ((valueAt kvs (g + way)).getD .none)
def mvs (way : Int) (kvs : List (Int × Value)) (gs : List Int) : List (Int × Value) := gs.foldl (mv1 way) kvs

theorem off2 {I bk : Nat} {o o1 o2 : Obj} {rest : List (Addr × Obj)} (hb : bk < I) (hr : ∀ p ∈ rest, p.1 < I) :
    ∀ p ∈ (bk, o) :: rest, ∀ q ∈ [((I + 1 : Nat), o1), (I, o2)], p.1 ≠ q.1 := by
  intro p hp q hq
  have h1 : @LT.lt Nat _ p.1 I := by
    rcases List.mem_cons.mp hp with rfl | hp
    · exact hb
    · exact hr p hp
  have h2 : @LE.le Nat _ I q.1 := by
    rcases List.mem_cons.mp hq with rfl | hq
    · exact Nat.le_succ _
    · rw [List.mem_singleton.mp hq]; exact Nat.le_refl _
  exact Nat.ne_of_lt (Nat.lt_of_lt_of_le h1 h2)

set_option maxHeartbeats 8000000 in
theorem moved_spec {w : World} {p : Program} {loose : List Str} {mean : ExcName → Option Value} {mg mb : Str → Option Value}
    {dp un : Nat} {gd : Option (List Code)} {cn : Str} {cs : Scope} {a : Addr} {ccd : Value} {cl : List (Str × Addr)} {outer : List Env} {A₀ : Around} {base h₀ : Heap} {L : Addr} {m : Str → Option Value}
    {rest : List (Addr × Obj)} {s : Shared} {Q E : Value → Shared → Prop} {bk gl : Addr} {ob : Obj} {kvs : List (Int × Value)} {vs : List Value} {gs : List Int} {way left : Int} {tw tl : Tok} {ng : Nat}
    (B : Below A₀ base outer h₀) (F : Fr h₀ L s.heap m) (X : (hd.heap_39 w.params).In h₀) (N : News h₀ L s.heap ((bk, ob) :: rest)) (T : Top p loose mean mg mb h₀) (hck : cs.kind = .function)
    (hne : ∀ p ∈ rest, p.1 ≠ bk) (hO : ob.IsDictOf (intKind PySem.Challenge.rw_pq0674_01.row.prog w) kvs) (hG : (gl, W.listOf vs.toArray ng) ∈ rest) (hI : IntsAre vs gs) (hlen : kvs.length + gs.length ≤ 1000) (hlo : (bk == sysModules) = false)
    (hl0 : 0 ≤ left) (hl1 : left ≤ 1000)
    (hdp : dp + 1 < recursionLimit) (hu : un + 8 < cLine)
    (h : ∀ b ob' h' tk, b = decide ((gs.length : Int) ≤ left) → ob'.IsDictOf (intKind PySem.Challenge.rw_pq0674_01.row.prog w) (mvs way kvs (gs.take left.toNat)) → Fr h₀ L h' m → News h₀ L h' ((bk, ob') :: rest) → Q (.bool b) { s with heap := h', toks := tk }) :
    wpAny (model PySem.Challenge.rw_pq0674_01.row.prog w) (ktrTop dp un gd cn cs L a ccd cl outer) (call (.ref 86) [.ref bk, .ref gl, .int way tw, .int left tl]) Q E s := by
  revert X; k_fill; intro X
  refine wpAny_call ?_
  k_dflt cell_enter
  k_steps
  any_goals (rename_i g1 L1 h1 FG1 F1 N1 B1 X1 T1)
  (refine ktu_enum (by rfl) F1 N1 (List.Mem.tail _ hG) (by rfl) (by rfl) rfl ?_)
  intro I hIlt
  have hvl : vs.length = gs.length := hI.length
  refine enum_start (Str.ofString "at") (Str.ofString "goal") (by rfl) (by rfl) ?_
  refine enum_inv (fun i nw => ∃ kvs' ob', nw = (bk, ob') :: rest ∧ ob'.IsDictOf (intKind PySem.Challenge.rw_pq0674_01.row.prog w) kvs' ∧ (i : Int) ≤ left ∧
    mvs way kvs' ((gs.drop i).take (left.toNat - i)) = mvs way kvs (gs.take left.toNat) ∧ kvs'.length + (gs.length - i) ≤ 1000) ?step ?done vs.length 0 none none _ (by omega) ⟨kvs, ob, rfl, hO, by omega, by simp, by omega⟩
  case step =>
    clear F1 N1
    rintro i v u1 u2 news hv ⟨kvs', ob', rfl, hO', hil, heq, hkl⟩ T t h9 tk9 hT F9
    refine AllObj.cons fun o1 hc1 => AllObj.cons fun o2 hc2 => AllObj.nil fun N9 => ?_
    have hi : i < gs.length := by
      have := (List.getElem?_eq_some_iff.mp hv).1
      omega
    obtain ⟨tg, hg⟩ := hI.get i gs[i] (by simp [hi])
    have hvg : v = .int gs[i] tg := by rw [hg] at hv; exact (Option.some.inj hv).symm
    subst hvg
    dsimp only [List.cons_append, List.nil_append] at N9
    have hbI := ltN (hIlt _ (List.mem_cons_self ..))
    have hrI : ∀ p ∈ rest, p.1 < I := fun p hp => hIlt p (List.mem_cons_of_mem _ hp)
    k_steps
    · have e1 : mvs way kvs (gs.take left.toNat) = kvs' := by
        rw [← heq, show left.toNat - i = 0 by omega]; rfl
      have e2 : decide ((gs.length : Int) ≤ left) = false := decide_eq_false (by omega)
      exact h _ ob' _ _ e2.symm (e1 ▸ hO') (by assumption) (news_drop (by assumption) fun p hp => List.mem_cons_of_mem _ (List.mem_cons_of_mem _ hp))
    · refine ⟨_, _, _, (bk, _) :: rest, rfl, by assumption, by assumption, off2 hbI hrI, ⟨List.Mem.tail _ hG, trivial⟩, ⟨_, _, two_two _ _ _ _ _ _ _⟩, _, _, rfl, by assumption, by omega, ?_, ?_⟩
      · rw [← heq, show left.toNat - i = (left.toNat - (i + 1)) + 1 by omega, List.drop_eq_getElem_cons hi, List.take_succ_cons]
        rfl
      · have := stored_length_le kvs' gs[i] ((valueAt kvs' (gs[i] + way)).getD .none)
        omega
  case done =>
    rintro u1 u2 news h9 tk9 ⟨kvs', ob', rfl, hO', hil, heq, hkl⟩ F9 N9
    have e1 : mvs way kvs (gs.take left.toNat) = kvs' := by
      rw [← heq, show List.drop vs.length gs = [] from List.drop_eq_nil_of_le (by omega), List.take_nil]; rfl
    k_steps
    exact h _ ob' _ _ (decide_eq_true (by omega)).symm (e1 ▸ hO') (by assumption) (by assumption)
end

-- S1
section
open PySem PySem.W PyProof.Rows
set_option maxRecDepth 100000
theorem rows_s1 : True := by
  k_with_none
  k_with "mine and" => (first | (with_reducible exact And.left) | ((with_reducible refine andR ?_); first | (with_reducible exact id) | k_extra "mine and"))
  k_with "mine lt1" => (first | (with_reducible assumption) | ((with_reducible refine' viaC ?zvh ?zvk); (case zvh => with_reducible assumption); (case zvk => k_extra "mine and")))
  k_with "mine lt2" => (first | k_extra "mine lt1" | ((with_reducible refine' ltLit ?zlh ?zlk); (case zlh => with_reducible assumption); (case zlk => exact rfl)))
  k_with "mine lt3" => (first | k_extra "mine lt2" | ((with_reducible refine' ltT ?zth ?ztk); (case zth => with_reducible assumption); (case ztk => first | k_extra "mine lt2" | ((with_reducible refine' ltT ?zuh ?zuk); (case zuh => with_reducible assumption); (case zuk => k_extra "mine lt2")))) | ((with_reducible refine lt_dn ?_); first | k_extra "mine lt1" | ((with_reducible refine lt_dn ?_); first | k_extra "mine lt1" | ((with_reducible refine lt_dn ?_); first | k_extra "mine lt1" | ((with_reducible refine lt_dn ?_); first | k_extra "mine lt1" | ((with_reducible refine lt_dn ?_); k_extra "mine lt1"))))))
  k_with "mine lt" => (first | (with_reducible exact lt_one) | ((with_reducible show _ < _ + _); (with_reducible refine lt_up ?_); k_extra "mine lt") | ((fail_if_success (with_reducible show _ < _ + _)); k_extra "mine lt3"))
  k_with "mine ne0" => (first | (with_reducible assumption) | (with_reducible exact Ne.symm (by with_reducible assumption)) | (exact neLits rfl) | ((with_reducible refine Nat.ne_of_gt ?_); k_extra "mine lt") | ((with_reducible refine Nat.ne_of_lt ?_); k_extra "mine lt"))
  k_with "mine ne" => ((try dsimp only); (first | k_extra "mine ne0" | k_extra "mine omegaF"))
  k_with "mine rm" => (first | (with_reducible exact room0 (by with_reducible assumption)) | ((with_reducible refine' roomLe ?zrh ?zrk); (case zrh => with_reducible assumption); (case zrk => exact rfl)) | ((with_reducible refine roomS ?_); k_extra "mine rm"))
  k_with "mine le" => (first | (exact leLits rfl) | ((with_reducible refine' leLit ?zmh ?zmk); (case zmh => with_reducible assumption); (case zmk => exact rfl)) | ((with_reducible refine Nat.le_of_lt ?_); k_extra "mine lt"))
  k_with "mine lg" => (first | (exact ltLits rfl) | k_extra "mine rm" | ((with_reducible refine' ltOf ?znh ?znk); (case znh => with_reducible assumption); (case znk => exact rfl)) | k_extra "mine lt")
  k_with "mine ill" => (first | (with_reducible assumption) | decide | ((with_reducible refine' intLtLt ?zi1h ?zi1k); (case zi1h => with_reducible assumption); (case zi1k => decide)) | ((with_reducible refine' intLeLt ?zi2h ?zi2k); (case zi2h => with_reducible assumption); (case zi2k => decide)) | ((with_reducible refine' intRoom ?zi3h ?zi3k); (case zi3h => with_reducible assumption); (case zi3k => decide)) | ((with_reducible refine' intAddLt ?zi4h ?zi4k); (case zi4h => with_reducible assumption); (case zi4k => decide)) | ((with_reducible refine intS ?_); k_extra "mine ill"))
  k_with "mine ile" => (first | (with_reducible assumption) | decide | ((with_reducible refine intNn ?_); k_extra "mine ile") | ((with_reducible refine' intLtLe ?zi5h ?zi5k); (case zi5h => with_reducible assumption); (case zi5k => decide)) | ((with_reducible refine' intLeLe ?zi6h ?zi6k); (case zi6h => with_reducible assumption); (case zi6k => decide)) | ((with_reducible refine' intGeGe ?zi7h ?zi7k); (case zi7h => with_reducible assumption); (case zi7k => decide)) | ((with_reducible refine' intAddLe ?zi8h ?zi8k); (case zi8h => with_reducible assumption); (case zi8k => decide)) | ((with_reducible refine' intAddGe ?zi9h ?zi9k); (case zi9h => with_reducible assumption); (case zi9k => decide)) | ((with_reducible refine' intSubGe ?zi10h ?zi10k); (case zi10h => with_reducible assumption); (case zi10k => decide)) | ((with_reducible refine' intSubLe ?zi11h ?zi11k); (case zi11h => with_reducible assumption); (case zi11k => decide)))
  k_with "mine omegaF" => (first | ((repeat ((with_reducible rename _ ∧ _ => kz); clear kz)); (repeat ((with_reducible rename _ ≠ _ => kz); clear kz)); omega (config := {})) | omega (config := {}))
  k_with "mine omega" => (first | (with_reducible assumption) | ((with_reducible show @Ne Nat _ _); k_extra "mine ne0") | ((with_reducible show @LT.lt Nat _ _ _); k_extra "mine lg") | ((with_reducible show @LE.le Nat _ _ _); k_extra "mine le") | ((with_reducible show @LT.lt Int _ _ _); k_extra "mine ill") | ((with_reducible show @LE.le Int _ _ _); k_extra "mine ile") | ((with_reducible refine' ⟨?zoa, ?zob⟩); (case zoa => k_extra "mine ile"); (case zob => k_extra "mine ile")) | k_extra "mine omegaF")
  k_with "mine all" => assumption
  k_with "mine mem" => assumption
  exact True.intro

set_option maxHeartbeats 8000000 in
theorem struck_spec {w : World} {p : Program} {loose : List Str} {mean : ExcName → Option Value} {mg mb : Str → Option Value}
    {dp un : Nat} {gd : Option (List Code)} {cn : Str} {cs : Scope} {a : Addr} {ccd : Value} {cl : List (Str × Addr)} {outer : List Env} {A₀ : Around} {base h₀ : Heap} {L : Addr} {m : Str → Option Value}
    {rest : List (Addr × Obj)} {s : Shared} {Q E : Value → Shared → Prop} {an D : Addr} {ws : List Value} {ns : List Int} {t many : Int} {tkt tkm : Tok} {n nD : Nat}
    (B : Below A₀ base outer h₀) (F : Fr h₀ L s.heap m) (X : (hd.heap_39 w.params).In h₀) (N : News h₀ L s.heap ((an, W.listOf #[.ref D, .int t tkt] n) :: rest)) (T : Top p loose mean mg mb h₀) (hck : cs.kind = .function)
    (hne : ∀ p ∈ rest, p.1 ≠ an) (hD : (D, W.listOf ws.toArray nD) ∈ rest) (hI : IntsAre ws ns) (hlen : ns.length ≤ 63) (ht0 : 0 ≤ t) (ht : t < 1000) (hm0 : 0 < many) (hm : many ≤ 1000)
    (hdp : dp + 1 < recursionLimit) (hu : un + 8 < cLine)
    (h : ∀ k t1 t2 h' tk, 0 ≤ k → k < many → Fr h₀ L h' m → News h₀ L h' ((an, W.listOf #[.ref D, .int (t+1) t1] n) :: rest) → Q (.int k t2) { s with heap := h', toks := tk }) :
    wpAny (model PySem.Challenge.rw_pq0674_01.row.prog w) (ktrTop dp un gd cn cs L a ccd cl outer) (call (.ref 65) [.ref an, .int many tkm]) Q E s := by
  revert X; k_fill; intro X
  have hsz : ws.toArray.size = ns.length := by simp [hI.length]
  refine wpAny_call ?_
  k_dflt cell_enter
  k_steps
  all_goals exact h _ _ _ _ _ (Int.fmod_nonneg_of_pos _ hm0) (Int.fmod_lt_of_pos _ hm0) (by assumption) (by assumption)
end

-- Get
section
open PySem PySem.W PyProof.Rows PySem.Spec PySem.Calls
open PySem.Builtin PySem.Builtin.ObjectAttr
theorem rows_get : True := by
  k_with_none
  k_with "mine and" => (first | (with_reducible exact And.left) | ((with_reducible refine andR ?_); first | (with_reducible exact id) | k_extra "mine and"))
  k_with "mine lt1" => (first | (with_reducible assumption) | ((with_reducible refine' viaC ?zvh ?zvk); (case zvh => with_reducible assumption); (case zvk => k_extra "mine and")))
  k_with "mine lt2" => (first | k_extra "mine lt1" | ((with_reducible refine' ltLit ?zlh ?zlk); (case zlh => with_reducible assumption); (case zlk => exact rfl)))
  k_with "mine lt3" => (first | k_extra "mine lt2" | ((with_reducible refine' ltT ?zth ?ztk); (case zth => with_reducible assumption); (case ztk => first | k_extra "mine lt2" | ((with_reducible refine' ltT ?zuh ?zuk); (case zuh => with_reducible assumption); (case zuk => k_extra "mine lt2")))) | ((with_reducible refine lt_dn ?_); first | k_extra "mine lt1" | ((with_reducible refine lt_dn ?_); first | k_extra "mine lt1" | ((with_reducible refine lt_dn ?_); first | k_extra "mine lt1" | ((with_reducible refine lt_dn ?_); first | k_extra "mine lt1" | ((with_reducible refine lt_dn ?_); k_extra "mine lt1"))))))
  k_with "mine lt" => (first | (with_reducible exact lt_one) | ((with_reducible show _ < _ + _); (with_reducible refine lt_up ?_); k_extra "mine lt") | ((fail_if_success (with_reducible show _ < _ + _)); k_extra "mine lt3"))
  k_with "mine ne0" => (first | (with_reducible assumption) | (with_reducible exact Ne.symm (by with_reducible assumption)) | (exact neLits rfl) | ((with_reducible refine Nat.ne_of_gt ?_); k_extra "mine lt") | ((with_reducible refine Nat.ne_of_lt ?_); k_extra "mine lt"))
  k_with "mine ne" => ((try dsimp only); (first | k_extra "mine ne0" | k_extra "mine omegaF"))
  k_with "mine rm" => (first | (with_reducible exact room0 (by with_reducible assumption)) | ((with_reducible refine' roomLe ?zrh ?zrk); (case zrh => with_reducible assumption); (case zrk => exact rfl)) | ((with_reducible refine roomS ?_); k_extra "mine rm"))
  k_with "mine le" => (first | (exact leLits rfl) | ((with_reducible refine' leLit ?zmh ?zmk); (case zmh => with_reducible assumption); (case zmk => exact rfl)) | ((with_reducible refine Nat.le_of_lt ?_); k_extra "mine lt"))
  k_with "mine lg" => (first | (exact ltLits rfl) | k_extra "mine rm" | ((with_reducible refine' ltOf ?znh ?znk); (case znh => with_reducible assumption); (case znk => exact rfl)) | k_extra "mine lt")
  k_with "mine ill" => (first | (with_reducible assumption) | decide | ((with_reducible refine' intLtLt ?zi1h ?zi1k); (case zi1h => with_reducible assumption); (case zi1k => decide)) | ((with_reducible refine' intLeLt ?zi2h ?zi2k); (case zi2h => with_reducible assumption); (case zi2k => decide)) | ((with_reducible refine' intRoom ?zi3h ?zi3k); (case zi3h => with_reducible assumption); (case zi3k => decide)) | ((with_reducible refine' intAddLt ?zi4h ?zi4k); (case zi4h => with_reducible assumption); (case zi4k => decide)) | ((with_reducible refine intS ?_); k_extra "mine ill"))
  k_with "mine ile" => (first | (with_reducible assumption) | decide | ((with_reducible refine intNn ?_); k_extra "mine ile") | ((with_reducible refine' intLtLe ?zi5h ?zi5k); (case zi5h => with_reducible assumption); (case zi5k => decide)) | ((with_reducible refine' intLeLe ?zi6h ?zi6k); (case zi6h => with_reducible assumption); (case zi6k => decide)) | ((with_reducible refine' intGeGe ?zi7h ?zi7k); (case zi7h => with_reducible assumption); (case zi7k => decide)) | ((with_reducible refine' intAddLe ?zi8h ?zi8k); (case zi8h => with_reducible assumption); (case zi8k => decide)) | ((with_reducible refine' intAddGe ?zi9h ?zi9k); (case zi9h => with_reducible assumption); (case zi9k => decide)) | ((with_reducible refine' intSubGe ?zi10h ?zi10k); (case zi10h => with_reducible assumption); (case zi10k => decide)) | ((with_reducible refine' intSubLe ?zi11h ?zi11k); (case zi11h => with_reducible assumption); (case zi11k => decide)))
  k_with "mine omegaF" => (first | ((repeat ((with_reducible rename _ ∧ _ => kz); clear kz)); (repeat ((with_reducible rename _ ≠ _ => kz); clear kz)); omega (config := {})) | omega (config := {}))
  k_with "mine omega" => (first | (with_reducible assumption) | ((with_reducible show @Ne Nat _ _); k_extra "mine ne0") | ((with_reducible show @LT.lt Nat _ _ _); k_extra "mine lg") | ((with_reducible show @LE.le Nat _ _ _); k_extra "mine le") | ((with_reducible show @LT.lt Int _ _ _); k_extra "mine ill") | ((with_reducible show @LE.le Int _ _ _); k_extra "mine ile") | ((with_reducible refine' ⟨?zoa, ?zob⟩); (case zoa => k_extra "mine ile"); (case zob => k_extra "mine ile")) | k_extra "mine omegaF")
  exact True.intro

set_option maxRecDepth 100000

theorem slot_mdget : Slot "method_descriptor" "__get__" "method_descriptor.__get__" :=
  .of (owner := "method_descriptor") (n := "__get__") (by rw [typeLookup_type, builtinLookup_eq_fast]; kernel_rfl) (by decide +kernel) (by decide +kernel) (by decide +kernel)
    (by first | exact .inl (by decide +kernel) | exact .inr (by decide +kernel)) (by rw [isSubtype_type]; kernel_rfl)
theorem entry_mdget : entryFor table "method_descriptor.__get__" = some Builtin.«method_descriptor.__get__» := entryFor_of_tree (by kernel_rfl)
theorem args_mdget (a b c : Value) : argsOk "method_descriptor.__get__" ⟨[a, b, c], []⟩ := by unfold argsOk; kernel_rfl
theorem look_dget : typeLookup (.type "dict") "get" = pure (some (.builtin "dict.get")) := by rw [typeLookup_type, builtinLookup_eq_fast]; kernel_rfl
theorem spec_dget : specialOf (.builtin "dict.get") "__get__" = pure (some (.builtin "method_descriptor.__get__")) := by unfold specialOf; rw [PySem.F.type_dict_get]; show typeLookup _ _ = _; rw [typeLookup_type, builtinLookup_eq_fast]; kernel_rfl
theorem spec_dset : specialOf (.builtin "dict.get") "__set__" = pure none := by unfold specialOf; rw [PySem.F.type_dict_get]; show typeLookup _ _ = _; rw [typeLookup_type, builtinLookup_eq_fast]; kernel_rfl
theorem spec_ddel : specialOf (.builtin "dict.get") "__delete__" = pure none := by unfold specialOf; rw [PySem.F.type_dict_get]; show typeLookup _ _ = _; rw [typeLookup_type, builtinLookup_eq_fast]; kernel_rfl

/-- the bound method dict.get of a dict -/
abbrev getO (d : Addr) : Obj := { cls := .type "builtin_function_or_method", data := .fields #[.builtin "dict.get", .ref d] }

section
variable {prog : Program} {w : World} {A : Around} {E : Value → Shared → Prop} {s : Shared} {h₀ : Heap} {L d : Addr} {m : Str → Option Value} {news : List (Addr × Obj)} {o : Obj} {kvs : List (Int × Value)}

theorem run_mdget {P : Fin → Shared → Prop} (hT : s.TypeIs (.ref d) "dict") (h : P (.done (.ret (.ref s.heap.objs.size))) { s with heap := s.heap.push (getO d) }) :
    wpAny (model prog w) A (Builtin.«method_descriptor.__get__» ⟨[.builtin "dict.get", .ref d, .type "dict"], []⟩) P E s := by
  unfold Builtin.«method_descriptor.__get__»
  refine wpAny_bind (wpAny_of_eq (a := (.builtin "dict.get", some (.ref d), some (.type "dict"))) (by first | rfl | kernel_rfl) ?_)
  dsimp only
  rw [show Manifest.toldItsClass.contains "dict.get" = false by decide +kernel]
  obtain ⟨hp, g, dr, tk, os⟩ := s
  have hS : isSubtype (.type "dict") (.type "dict") = pure true := by rw [isSubtype_type]; kernel_rfl
  rw [if_neg Bool.false_ne_true]
  refine wpAny_bind ?_
  refine wpAny_bind (m := PySem.isInstance (.ref d) (.type "dict")) ?_
  refine wpAny_isInstance (T := "dict") (b := true) hT hS ?_
  rw [if_neg (by simp)]
  exact wpAny_pure (wpAny_bind (wpAny_newObj_type (wpAny_pure h)))

theorem run_dga {P : Fin → Shared → Prop} {u : Tok} (hT : s.TypeIs (.ref d) "dict") (hnd : ∃ ob, s.heap.get? d = some ob ∧ ob.dict = none ∧ ∃ es n, ob.data = .dict es n)
    (h : P (.done (.ret (.ref s.heap.objs.size))) { s with heap := s.heap.push (getO d) }) :
    wpAny (model prog w) A (Builtin.«object.__getattribute__» ⟨[.ref d, .str (Str.ofString "get") u], []⟩) P E s := by
  obtain ⟨hp, g, dr, tk, os⟩ := s
  obtain ⟨⟨oc, od, odt, osl⟩, hob, hobd, es, n, hobD⟩ := hnd
  dsimp only at hobd hobD
  subst hobd hobD
  have hoc : oc = .type "dict" := by
    obtain ⟨o2, h2, h3⟩ := hT
    rw [hob] at h2
    cases h2
    exact h3
  subst hoc
  have f5 : (["__module__", "__name__", "__qualname__", "__doc__", "__annotations__"] : List Str).contains (Str.ofString "get") = false := by decide +kernel
  have f1 := look_dget
  have f2 := spec_dget
  have f3 := spec_dset
  have f4 := spec_ddel
  unfold Builtin.«object.__getattribute__»
  repeat (any_goals (first | assumption | wp_step))
  exact codeAny_call_builtin slot_mdget.plain entry_mdget (slot_mdget.check _ _ _ _ _ _ _ _ PySem.F.type_dict_get (args_mdget _ _ _) (run_mdget hT (wpAny_pure h)))

theorem run_getattr {ex : Bool} {o : Obj} {es : Array DictEntry} {k : Nat} {Q : Value → Shared → Prop} (hx : s.heap.get? d = some o) (hc : o.cls = .type "dict") (hdat : o.data = .dict es k) (hd : o.dict = none)
    (h : ∀ tk, Q (.ref s.heap.objs.size) { s with heap := s.heap.push (getO d), toks := tk }) :
    wpAny (model prog w) A (getAttr (.ref d) (Str.ofString "get") ex) Q E s := by
  obtain ⟨c, dct, dat, sl⟩ := o
  simp only at hc hdat hd
  subst hc hdat hd
  obtain ⟨hp, g, dr, tk, os⟩ := s
  have hT : ∀ tk', (⟨hp, g, dr, tk', os⟩ : Shared).TypeIs (.ref d) "dict" := fun _ => ⟨_, hx, rfl⟩
  have f1 := sub_AttributeError
  have f3 := PySem.F.slot_dict_getattribute.lookup
  have f4 := PySem.F.slot_dict_getattribute.bind (.ref d)
  have f5 := am_dict_getattr_none
  unfold getAttr getAttrBy
  repeat (any_goals (first | assumption | exact hT _ | ((with_reducible show wpAny _ _ (call (Value.builtin "dict.__getattribute__") _ _) _ _ _); fail_if_success skip) | wp_step))
  rw [if_neg (by cases ex <;> decide)]
  unfold boundAndCalled
  repeat (any_goals (first | assumption | exact hT _ | wp_step))
  exact codeAny_call_builtin PySem.F.slot_dict_getattribute.plain am_entry_dict_getattribute (PySem.F.slot_dict_getattribute.check _ _ _ _ _ _ _ _ (hT _) (PySem.F.args_dict_getattribute_2 _ _)
    (run_dga (hT _) ⟨_, hx, rfl, _, _, rfl⟩ (wpAny_pure (h _))))

/-- `book.get` -/
theorem getattr_get {ex : Bool} {Q : Value → Shared → Prop} (F : Fr h₀ L s.heap m) (N : News h₀ L s.heap news) (hm : (d, o) ∈ news) (hO : o.IsDictOf (intKind prog w) kvs)
    (h : ∀ x h' tk, Fr h₀ L h' m → News h₀ L h' ((x, getO d) :: news) → (∀ p ∈ news, p.1 < x) → Q (.ref x) { s with heap := h', toks := tk }) :
    wpAny (model prog w) A (getAttr (.ref d) (Str.ofString "get") ex) Q E s := by
  obtain ⟨es, k, hE, hdat, _⟩ := hO
  exact run_getattr (N.get hm) hE.1 hdat hE.2.1 fun tk => h _ _ _ (F.push _) (News.push F N _) fun p hp => Heap.lt_size (N p hp).1

theorem dget_sig : ∃ sg, Manifest.signature? "dict.get" = some sg ∧ ∀ (f : String) (a b : Value), f = "dict.get" → Bind.checkArgs "dict.get" { sg with full := f } ⟨[a, b], []⟩ = pure () := by
  rw [signature?_of (id := "dict.get") (n := ['t', 'e', 'g']) (o := ['t', 'c', 'i', 'd']) (by kernel_rfl) PySem.F.owner_dict]
  refine ⟨(Manifest.sig_dict.lookup (String.ofList ['t', 'e', 'g'].reverse)).get (by decide +kernel), (Option.some_get _).symm, ?_⟩
  intro f a b hf
  subst hf
  kernel_rfl

theorem check_dget {P : Unit → Shared → Prop} {v : Value} (ho : s.heap.get? d = some o) (hc : o.cls = .type "dict") (hdat : ∃ es n, o.data = .dict es n) (h : P () s) : wpAny (model prog w) A (checkBoundCall "dict.get" ⟨[.ref d, v], []⟩) P E s := by
  obtain ⟨sg, e1, e2⟩ := dget_sig
  obtain ⟨es, n, hdat⟩ := hdat
  obtain ⟨hp, g, dr, tk, os⟩ := s
  have hT : (⟨hp, g, dr, tk, os⟩ : Shared).TypeIs (.ref d) "dict" := ⟨_, ho, hc⟩
  have hS : isSubtype (.type "dict") (.type "module") = pure false := by rw [isSubtype_type]; kernel_rfl
  unfold checkBoundCall
  rw [e1, show builtinKind "dict.get" = some .method by kernel_rfl]
  dsimp only
  rw [if_neg (by decide)]
  refine wpAny_bind (wpAny_isInstance (T := "dict") (b := false) hT hS ?_)
  rw [if_neg (by decide +kernel)]
  refine wpAny_bind (ks_wpAny_isType_inst ho (fun c q => by rw [hdat] at q; cases q) ?_)
  rw [if_neg (by decide)]
  refine wpAny_bind (wpAny_typeOf hT ?_)
  exact wpAny_of_eq (e2 _ _ _ (by decide +kernel)) h

/-- a call of the bound method -/
theorem call_getO {x : Addr} {kk : Int} {tt : Tok} {Q : Value → Shared → Prop} (N : News h₀ L s.heap news) (hx : (x, getO d) ∈ news) (hm : (d, o) ∈ news) (hO : o.IsDictOf (intKind prog w) kvs) (lo : (d == sysModules) = false)
    (h : Q ((valueAt kvs kk).getD .none) { s with toks := s.toks + 1 }) : wpAny (model prog w) A (call (.ref x) [.int kk tt]) Q E s := by
  obtain ⟨es, k, hE, hdat, hK⟩ := hO
  have hO : o.IsDictOf (intKind prog w) kvs := ⟨es, k, hE, hdat, hK⟩
  refine wpAny_call (codeAny_of_tree ?_)
  show wpAny _ A.in1 (callAny (.ref x) ⟨[.int kk tt], []⟩) _ _ s
  simp only [callAny]
  refine wpAny_bind (wpAny_load (N.get hx) ?_)
  simp only [getO, show (Value.type "builtin_function_or_method" == Value.type "method" || Value.type "builtin_function_or_method" == Value.type "builtin_function_or_method" || Value.type "builtin_function_or_method" == Value.type "method-wrapper") = true by decide, if_true]
  refine KFB.if_so (by decide) ?_
  refine wpAny_bind (check_dget (N.get hm) hE.1 ⟨es, k, hdat⟩ ?_)
  refine wpAny_bind (wpAny_pure (wpAny_pure ?_))
  refine ⟨Code.quiet_builtin _ (by decide +kernel), ?_⟩
  have hD := kda_dict N hm hO
  refine codeAny_builtin PySem.F.entry_dict_get ?_
  show wpAny _ _ (dictGet d (.int kk tt) >>= _) _ _ s
  refine wpAny_bind (wpAny_dictGet_of (intKind_is _ _ _ _) hD.mapOf ?_)
  cases hf : valueAt kvs kk with
  | some v =>
    rw [hf] at h
    exact wpAny_pure h
  | none =>
    rw [hf] at h
    show wpAny _ _ (Builtin.Dict.missed d (.int kk tt) >>= _) _ _ _
    exact wpAny_bind (wpAny_missed_other lo (wpAny_pure h))

theorem callWith_getO {x : Addr} {pos : Pos} {args : List (Bool × Sem Value)} {first : List Value} {Q : Value → Shared → Prop} (hplain : args.any (·.1) = false)
    (h : wpAny (model prog w) A (evalArgs (.ref x) true args []) (fun v s₁ => s₁.heap.get? x = some (getO d) ∧ wpAny (model prog w) A (call (.ref x) (first ++ v.pos) v.kw) Q E s₁) E s) : wpAny (model prog w) A (callWith pos (.ref x) first args []) Q E s := by
  unfold callWith
  refine wpAny_bind (wpAny_holding (wpAny_mono h (fun v s₁ h₁ => wpAny_bind (wpAny_standAt ?_)) fun _ _ x => x))
  obtain ⟨ho, hcall⟩ := h₁
  simp only [hplain, List.any_nil, Bool.or_false]
  refine wpAny_bind (m := keeperOf (.ref x)) ?_
  unfold keeperOf
  refine wpAny_bind (wpAny_load ho ?_)
  simp only [getO, show (Value.type "builtin_function_or_method" != Value.type "method") = true by decide, show (Value.type "builtin_function_or_method" == Value.type "builtin_function_or_method" || Value.type "builtin_function_or_method" == Value.type "method-wrapper") = true by decide, if_true]
  refine wpAny_pure ?_
  exact wpAny_bind (wpAny_mono hcall (fun r s₂ hr => wpAny_bind (wpAny_holding (wpAny_point (wpAny_pure hr)))) fun _ _ x => x)
end
end

-- Ok
section
open PySem PySem.W PyProof.Rows PySem.Calls
theorem rows_ok : True := by
  k_with_none
  k_with "mine and" => (first | (with_reducible exact And.left) | ((with_reducible refine andR ?_); first | (with_reducible exact id) | k_extra "mine and"))
  k_with "mine lt1" => (first | (with_reducible assumption) | ((with_reducible refine' viaC ?zvh ?zvk); (case zvh => with_reducible assumption); (case zvk => k_extra "mine and")))
  k_with "mine lt2" => (first | k_extra "mine lt1" | ((with_reducible refine' ltLit ?zlh ?zlk); (case zlh => with_reducible assumption); (case zlk => exact rfl)))
  k_with "mine lt3" => (first | k_extra "mine lt2" | ((with_reducible refine' ltT ?zth ?ztk); (case zth => with_reducible assumption); (case ztk => first | k_extra "mine lt2" | ((with_reducible refine' ltT ?zuh ?zuk); (case zuh => with_reducible assumption); (case zuk => k_extra "mine lt2")))) | ((with_reducible refine lt_dn ?_); first | k_extra "mine lt1" | ((with_reducible refine lt_dn ?_); first | k_extra "mine lt1" | ((with_reducible refine lt_dn ?_); first | k_extra "mine lt1" | ((with_reducible refine lt_dn ?_); first | k_extra "mine lt1" | ((with_reducible refine lt_dn ?_); k_extra "mine lt1"))))))
  k_with "mine lt" => (first | (with_reducible exact lt_one) | ((with_reducible show _ < _ + _); (with_reducible refine lt_up ?_); k_extra "mine lt") | ((fail_if_success (with_reducible show _ < _ + _)); k_extra "mine lt3"))
  k_with "mine ne0" => (first | (with_reducible assumption) | (with_reducible exact Ne.symm (by with_reducible assumption)) | (exact neLits rfl) | ((with_reducible refine Nat.ne_of_gt ?_); k_extra "mine lt") | ((with_reducible refine Nat.ne_of_lt ?_); k_extra "mine lt"))
  k_with "mine ne" => ((try dsimp only); (first | k_extra "mine ne0" | k_extra "mine omegaF"))
  k_with "mine rm" => (first | (with_reducible exact room0 (by with_reducible assumption)) | ((with_reducible refine' roomLe ?zrh ?zrk); (case zrh => with_reducible assumption); (case zrk => exact rfl)) | ((with_reducible refine roomS ?_); k_extra "mine rm"))
  k_with "mine le" => (first | (exact leLits rfl) | ((with_reducible refine' leLit ?zmh ?zmk); (case zmh => with_reducible assumption); (case zmk => exact rfl)) | ((with_reducible refine Nat.le_of_lt ?_); k_extra "mine lt"))
  k_with "mine lg" => (first | (exact ltLits rfl) | k_extra "mine rm" | ((with_reducible refine' ltOf ?znh ?znk); (case znh => with_reducible assumption); (case znk => exact rfl)) | k_extra "mine lt")
  k_with "mine ill" => (first | (with_reducible assumption) | decide | ((with_reducible refine' intLtLt ?zi1h ?zi1k); (case zi1h => with_reducible assumption); (case zi1k => decide)) | ((with_reducible refine' intLeLt ?zi2h ?zi2k); (case zi2h => with_reducible assumption); (case zi2k => decide)) | ((with_reducible refine' intRoom ?zi3h ?zi3k); (case zi3h => with_reducible assumption); (case zi3k => decide)) | ((with_reducible refine' intAddLt ?zi4h ?zi4k); (case zi4h => with_reducible assumption); (case zi4k => decide)) | ((with_reducible refine intS ?_); k_extra "mine ill"))
  k_with "mine ile" => (first | (with_reducible assumption) | decide | ((with_reducible refine intNn ?_); k_extra "mine ile") | ((with_reducible refine' intLtLe ?zi5h ?zi5k); (case zi5h => with_reducible assumption); (case zi5k => decide)) | ((with_reducible refine' intLeLe ?zi6h ?zi6k); (case zi6h => with_reducible assumption); (case zi6k => decide)) | ((with_reducible refine' intGeGe ?zi7h ?zi7k); (case zi7h => with_reducible assumption); (case zi7k => decide)) | ((with_reducible refine' intAddLe ?zi8h ?zi8k); (case zi8h => with_reducible assumption); (case zi8k => decide)) | ((with_reducible refine' intAddGe ?zi9h ?zi9k); (case zi9h => with_reducible assumption); (case zi9k => decide)) | ((with_reducible refine' intSubGe ?zi10h ?zi10k); (case zi10h => with_reducible assumption); (case zi10k => decide)) | ((with_reducible refine' intSubLe ?zi11h ?zi11k); (case zi11h => with_reducible assumption); (case zi11k => decide)))
  k_with "mine omegaF" => (first | ((repeat ((with_reducible rename _ ∧ _ => kz); clear kz)); (repeat ((with_reducible rename _ ≠ _ => kz); clear kz)); omega (config := {})) | omega (config := {}))
  k_with "mine omega" => (first | (with_reducible assumption) | ((with_reducible show @Ne Nat _ _); k_extra "mine ne0") | ((with_reducible show @LT.lt Nat _ _ _); k_extra "mine lg") | ((with_reducible show @LE.le Nat _ _ _); k_extra "mine le") | ((with_reducible show @LT.lt Int _ _ _); k_extra "mine ill") | ((with_reducible show @LE.le Int _ _ _); k_extra "mine ile") | ((with_reducible refine' ⟨?zoa, ?zob⟩); (case zoa => k_extra "mine ile"); (case zob => k_extra "mine ile")) | k_extra "mine omegaF")
  exact True.intro

set_option maxRecDepth 100000

/-- a callable whose call needs no class's __call__ -/
def KeptAt (q : Addr) (h : Heap) : Prop := ∃ k, (k = Keeper.frame ∨ k = Keeper.machine ∨ k = Keeper.boundFrame) ∧ ∀ M, Looks M h (keeperOf (.ref q)) k
def Keeps (o : Obj) : Prop := FnO o ∨ ∃ d, o = getO d

theorem keeps_get (d : Addr) : Keeps (getO d) := .inr ⟨d, rfl⟩

theorem KeptAt.of {h₀ h : Heap} {L q : Addr} {o : Obj} {news : List (Addr × Obj)} (N : News h₀ L h news) (hm : (q, o) ∈ news) (ho : Keeps o) : KeptAt q h := by
  have e := (N _ hm).1
  rcases ho with ⟨oc, od, fd, sl, rfl⟩ | ⟨d, rfl⟩
  · exact ⟨.frame, .inl rfl, fun M => (Looks.ld (part := none) e).andThen .now⟩
  · exact ⟨.machine, .inr (.inl rfl), fun M => (Looks.ld (part := none) e).andThen .now⟩

section
variable {M : Model} {A : Around} {E : Value → Shared → Prop} {s : Shared} {env : Env} {pos : Pos} {first : List Value} {Q : Value → Shared → Prop} {q : Addr}
theorem callWith_kept {e : Expr} {rest : List Expr} (_X : KeptAt q s.heap) (h : wpAny M A (spliced (backTo pos (starEach (e :: rest) env))) (fun vs s₁ => KeptAt q s₁.heap ∧ wpAny M A (call (.ref q) (first ++ vs)) Q E s₁) E s)
    (he : starEach (e :: rest) env = (false, eval e env) :: starEach rest env := by rfl) (hplain : (backTo pos (starEach rest env)).any (·.1) = false := by rfl) :
    wpAny M A (callWith pos (.ref q) first (backTo pos (starEach (e :: rest) env)) []) Q E s := by
  rw [he] at h ⊢
  exact callWith_of (by show ((false || (backTo pos (starEach rest env)).any (·.1)) || false) = false; rw [hplain]; rfl) (fun h X => let ⟨k, a, b⟩ := X; ⟨k, a, b M⟩) (evalArgs_plain h)
theorem callWith_kept0 (X : KeptAt q s.heap) (h : wpAny M A (call (.ref q) (first ++ [])) Q E s) : wpAny M A (callWith pos (.ref q) first (backTo pos (starEach [] env)) []) Q E s :=
  callWith_of (P := KeptAt q) rfl (fun h X => let ⟨k, a, b⟩ := X; ⟨k, a, b M⟩) (evalArgs_nil3 ⟨X, h⟩)
end

/-- the put closure: one store into the dict -/
def PutOk (w : World) (p : Program) (loose : List Str) (mean : ExcName → Option Value) (mg mb : Str → Option Value) (f bk : Addr) (ex : List (Addr × Obj)) : Prop :=
  ∀ (rest : List (Addr × Obj)) (ob : Obj) (kvs : List (Int × Value)) (k : Int) (t : Tok) (v : Value), (∀ q ∈ ex, q ∈ rest) → (∀ q ∈ rest, q.1 ≠ bk) →
    ob.IsDictOf (intKind PySem.Challenge.rw_pq0674_01.row.prog w) kvs → kvs.length ≤ 2000 →
    Does w p loose mean mg mb (.ref f) [.int k t, v] 6 ((bk, ob) :: rest)
      (fun r nw => r = .none ∧ ∃ ob', ob'.IsDictOf (intKind PySem.Challenge.rw_pq0674_01.row.prog w) (stored kvs k v) ∧ nw = (bk, ob') :: rest)
      (fun _ => False)

theorem news_perm {h₀ h : Heap} {L : Addr} {x y : Addr × Obj} {rest : List (Addr × Obj)} (N : News h₀ L h (x :: y :: rest)) : News h₀ L h (y :: x :: rest) := fun p hp => N p (by
  rcases List.mem_cons.mp hp with rfl | hp
  · exact .tail _ (.head _)
  rcases List.mem_cons.mp hp with rfl | hp
  · exact .head _
  · exact .tail _ (.tail _ hp))

theorem raised_mono {base g : Heap} {outer : List Env} {e : Addr} {cls : Value} {news news' : List (Addr × Obj)} {h : Heap} (hs : ∀ p ∈ news', p ∈ news) (R : RaisedSN base g outer e cls news h) : RaisedSN base g outer e cls news' h := by
  obtain ⟨B, a0, hB, hBG, hl, hfl⟩ := R
  exact ⟨B, a0, hB, hBG, fun p hp => hl p (hs p hp), hfl⟩

/-- a frame's map whose name y is bound anew -/
abbrev one (y : Str) (v : Option Value) (f : Str → Option Value) : Str → Option Value := fun z => if z = y then v else f z
theorem one_one (y : Str) (a b : Option Value) (f : Str → Option Value) : (fun z => if z = y then b else one y a f z) = one y b f := by
  funext z
  by_cases h1 : z = y
  · simp [h1]
  · simp [one, h1]

section
variable {prog : Program} {w : World} {A : Around} {E : Value → Shared → Prop} {s : Shared} {env : Env} {h₀ : Heap} {L : Addr} {Q : Flow → Shared → Prop}

/-- here the walk is to stop -/
def Halt (P : Prop) : Prop := P
theorem halt {P : Prop} (h : Halt P) : P := h

theorem while_one {test : Expr} {body : List Stmt} {pos : Pos} {m₀ : Str → Option Value} {news : List (Addr × Obj)} (y : Str) (J : Nat → Option Value → List (Addr × Obj) → Prop) (n₀ : Nat) {v₀ : Value}
    (F : Fr h₀ L s.heap m₀) (N : News h₀ L s.heap news) (hy : m₀ y = some v₀) (hJ : J n₀ (some v₀) news)
    (turn : ∀ n v news₁ h₁ tk₁, Fr h₀ L h₁ (one y v m₀) → News h₀ L h₁ news₁ → J n v news₁ →
      wpAny (model prog w) A (isTrue test env (eval test env)) (fun b s₂ =>
        if b = true then wpAny (model prog w) A (execs body env) (WhileStep2 h₀ L s (fun n' m' nx => ∃ v', m' = one y v' m₀ ∧ J n' v' nx) Q n) E s₂ else Q .next s₂) E { s with heap := h₁, toks := tk₁ })
    (hE : PassesOwn (model prog w) A env E) :
    wpAny (model prog w) A (exec (.While test body [] pos) env) Q E s := by
  have e0 : m₀ = one y (some v₀) m₀ := by
    funext z
    by_cases h1 : z = y
    · simp [one, h1, hy]
    · simp [one, h1]
  refine While_inv2 (fun n m nx => ∃ v, m = one y v m₀ ∧ J n v nx) F N ⟨_, e0, hJ⟩ ?_ hE
  rintro n m₁ nx h tk F₁ N₁ ⟨v, rfl, hJ₁⟩
  exact turn n v nx h tk F₁ N₁ hJ₁
end
end

-- Ins
section
open PySem PySem.W PyProof.Rows PySem.Calls
set_option maxRecDepth 100000

/-- the goals of an insertion: at + n down to at + 1 -/
def downs (at_ : Int) (n : Nat) : List Int := (List.range n).map fun i => at_ + ((n - i : Nat) : Int)
theorem downs_length (a : Int) (n : Nat) : (downs a n).length = n := by simp [downs]
theorem downs_get (a : Int) (n i : Nat) (h : i < n) : (downs a n)[i]'(by rw [downs_length]; exact h) = a + ((n - i : Nat) : Int) := by simp [downs]
theorem mvs_take (way : Int) (kvs : List (Int × Value)) (gs : List Int) (i : Nat) (h : i < gs.length) : mvs way kvs (gs.take (i + 1)) = mv1 way (mvs way kvs (gs.take i)) gs[i] := by
  rw [List.take_succ_eq_append_getElem h, mvs, List.foldl_append]; rfl
theorem mvs_len (way : Int) : ∀ (gs : List Int) (kvs : List (Int × Value)), (mvs way kvs gs).length ≤ kvs.length + gs.length
  | [], kvs => by simp [mvs]
  | g :: gs, kvs => by
    have h1 := mvs_len way gs (mv1 way kvs g)
    have h2 := stored_length_le kvs g ((valueAt kvs (g + way)).getD .none)
    have h3 : mvs way kvs (g :: gs) = mvs way (mv1 way kvs g) gs := rfl
    rw [h3, List.length_cons]
    have h4 : mv1 way kvs g = stored kvs g ((valueAt kvs (g + way)).getD .none) := rfl
    rw [h4] at h1
    rw [h4]
    omega

/-- a call of the get: the dict's bound method -/
theorem get_call {prog : Program} {w : World} {A : Around} {E : Value → Shared → Prop} {s : Shared} {h₀ : Heap} {L d : Addr} {news : List (Addr × Obj)} {o : Obj} {kvs : List (Int × Value)} {x : Addr} {kk : Int} {tt : Tok} {Q : Value → Shared → Prop} (N : News h₀ L s.heap news) (hx : (x, getO d) ∈ news) (hm : (d, o) ∈ news) (hO : o.IsDictOf (intKind prog w) kvs) (lo : (d == sysModules) = false)
    (h : ∀ v, v = (valueAt kvs kk).getD .none → Q v { s with toks := s.toks + 1 }) : wpAny (model prog w) A (call (.ref x) [.int kk tt]) Q E s := call_getO N hx hm hO lo (h _ rfl)

section
variable {w : World} {p : Program} {loose : List Str} {mean : ExcName → Option Value} {mg mb : Str → Option Value}
    {dp un : Nat} {gd : Option (List Code)} {cn : Str} {cs : Scope} {a : Addr} {ccd : Value} {cl : List (Str × Addr)} {outer : List Env} {A₀ : Around} {base h₀ : Heap} {L : Addr} {m : Str → Option Value}
    {rest : List (Addr × Obj)} {s : Shared} {Q E : Value → Shared → Prop}
/-- a call of the put closure -/
theorem put_call {pf bk sn : Addr} {ob os : Obj} {exP : List (Addr × Obj)} {kvs : List (Int × Value)} {k : Int} {t : Tok} {v : Value}
    (B : Below A₀ base outer h₀) (F : Fr h₀ L s.heap m) (X : (hd.heap_39 w.params).In h₀) (N : News h₀ L s.heap ((bk, ob) :: (sn, os) :: rest)) (T : Top p loose mean mg mb h₀) (hck : cs.kind = .function) (hdp : dp + 6 < recursionLimit) (hu : un + 96 < cLine)
    (hP : PutOk w p loose mean mg mb pf bk exP) (hx : ∀ q ∈ exP, q ∈ rest) (hbr : ∀ q ∈ rest, q.1 ≠ bk) (hbs : sn ≠ bk) (hO : ob.IsDictOf (intKind PySem.Challenge.rw_pq0674_01.row.prog w) kvs) (hl : kvs.length ≤ 2000)
    (h : ∀ ob' h' tk, Fr h₀ L h' m → News h₀ L h' ((bk, ob') :: (sn, os) :: rest) → ob'.IsDictOf (intKind PySem.Challenge.rw_pq0674_01.row.prog w) (stored kvs k v) → Q .none { s with heap := h', toks := tk }) :
    wpAny (model PySem.Challenge.rw_pq0674_01.row.prog w) (ktrTop dp un gd cn cs L a ccd cl outer) (call (.ref pf) [.int k t, v]) Q E s := by
  refine hP ((sn, os) :: rest) ob kvs k t v (fun q hq => .tail _ (hx q hq)) (fun q hq => ?_) hO hl dp un gd cn cs a ccd cl outer A₀ base h₀ L m s Q E B F X N T hck hdp hu ?_ ?_
  · rcases List.mem_cons.mp hq with rfl | hq
    · exact hbs
    · exact hbr q hq
  · rintro _ _ h' tk ⟨rfl, ob', ho, rfl⟩ F' N'
    exact h ob' h' tk F' N' ho
  · rintro _ _ _ _ _ hf
    exact hf.elim

/-- a call of the counter -/
theorem tick_call {tf bk sn : Addr} {ob : Obj} {ws : List Value} {c : Nat} {exT : List (Addr × Obj)} {left : Int}
    (B : Below A₀ base outer h₀) (F : Fr h₀ L s.heap m) (X : (hd.heap_39 w.params).In h₀) (N : News h₀ L s.heap ((bk, ob) :: (sn, W.listOf ws.toArray c) :: rest)) (T : Top p loose mean mg mb h₀) (hck : cs.kind = .function) (hdp : dp + 6 < recursionLimit) (hu : un + 96 < cLine)
    (hT : TickOk w p loose mean mg mb tf sn left exT) (hx : ∀ q ∈ exT, q ∈ rest) (hsr : ∀ q ∈ rest, q.1 ≠ sn) (hbs : bk ≠ sn) (hl : ws.length ≤ 1000)
    (h : ∀ x c' h' tk, (ws.length : Int) + 1 ≤ left → Fr h₀ L h' m → News h₀ L h' ((bk, ob) :: (sn, W.listOf (ws ++ [x]).toArray c') :: rest) → Q .none { s with heap := h', toks := tk })
    (hE : ∀ e g h' tk x c', left < (ws.length : Int) + 1 → Fr h₀ L g m → RaisedSN base g (envX cn cs L a ccd cl :: outer) e (.ref 55) ((bk, ob) :: (sn, W.listOf (ws ++ [x]).toArray c') :: rest) h' → g.UpToSlots h' → E (.ref e) { s with heap := h', toks := tk }) :
    wpAny (model PySem.Challenge.rw_pq0674_01.row.prog w) (ktrTop dp un gd cn cs L a ccd cl outer) (call (.ref tf) []) Q E s := by
  refine hT ((bk, ob) :: rest) ws c (fun q hq => .tail _ (hx q hq)) (fun q hq => ?_) hl dp un gd cn cs a ccd cl outer A₀ base h₀ L m s Q E B F X (news_perm N) T hck hdp hu ?_ ?_
  · rcases List.mem_cons.mp hq with rfl | hq
    · exact hbs
    · exact hsr q hq
  · rintro _ _ h' tk ⟨rfl, hle, x, c', rfl⟩ F' N'
    exact h x c' h' tk hle F' (news_perm N')
  · rintro e g h' tk _ ⟨hlt, x, c', rfl⟩ F' R U
    exact hE e g h' tk x c' hlt F' (raised_mono (fun p hp => by
      rcases List.mem_cons.mp hp with rfl | hp
      · exact .tail _ (.head _)
      rcases List.mem_cons.mp hp with rfl | hp
      · exact .head _
      · exact .tail _ (.tail _ hp)) R) U
end

theorem rows_ins : True := by
  k_with_none
  k_with "mine and" => (first | (with_reducible exact And.left) | ((with_reducible refine andR ?_); first | (with_reducible exact id) | k_extra "mine and"))
  k_with "mine lt1" => (first | (with_reducible assumption) | ((with_reducible refine' viaC ?zvh ?zvk); (case zvh => with_reducible assumption); (case zvk => k_extra "mine and")))
  k_with "mine lt2" => (first | k_extra "mine lt1" | ((with_reducible refine' ltLit ?zlh ?zlk); (case zlh => with_reducible assumption); (case zlk => exact rfl)))
  k_with "mine lt3" => (first | k_extra "mine lt2" | ((with_reducible refine' ltT ?zth ?ztk); (case zth => with_reducible assumption); (case ztk => first | k_extra "mine lt2" | ((with_reducible refine' ltT ?zuh ?zuk); (case zuh => with_reducible assumption); (case zuk => k_extra "mine lt2")))) | ((with_reducible refine lt_dn ?_); first | k_extra "mine lt1" | ((with_reducible refine lt_dn ?_); first | k_extra "mine lt1" | ((with_reducible refine lt_dn ?_); first | k_extra "mine lt1" | ((with_reducible refine lt_dn ?_); first | k_extra "mine lt1" | ((with_reducible refine lt_dn ?_); k_extra "mine lt1"))))))
  k_with "mine lt" => (first | (with_reducible exact lt_one) | ((with_reducible show _ < _ + _); (with_reducible refine lt_up ?_); k_extra "mine lt") | ((fail_if_success (with_reducible show _ < _ + _)); k_extra "mine lt3"))
  k_with "mine ne0" => (first | (with_reducible assumption) | (with_reducible exact Ne.symm (by with_reducible assumption)) | (exact neLits rfl) | ((with_reducible refine Nat.ne_of_gt ?_); k_extra "mine lt") | ((with_reducible refine Nat.ne_of_lt ?_); k_extra "mine lt"))
  k_with "mine ne" => ((try dsimp only); (first | k_extra "mine ne0" | k_extra "mine omegaF"))
  k_with "mine rm" => (first | (with_reducible exact room0 (by with_reducible assumption)) | ((with_reducible refine' roomLe ?zrh ?zrk); (case zrh => with_reducible assumption); (case zrk => exact rfl)) | ((with_reducible refine roomS ?_); k_extra "mine rm"))
  k_with "mine le" => (first | (exact leLits rfl) | ((with_reducible refine' leLit ?zmh ?zmk); (case zmh => with_reducible assumption); (case zmk => exact rfl)) | ((with_reducible refine Nat.le_of_lt ?_); k_extra "mine lt"))
  k_with "mine lg" => (first | (exact ltLits rfl) | k_extra "mine rm" | ((with_reducible refine' ltOf ?znh ?znk); (case znh => with_reducible assumption); (case znk => exact rfl)) | k_extra "mine lt")
  k_with "mine ill" => (first | (with_reducible assumption) | decide | ((with_reducible refine' intLtLt ?zi1h ?zi1k); (case zi1h => with_reducible assumption); (case zi1k => decide)) | ((with_reducible refine' intLeLt ?zi2h ?zi2k); (case zi2h => with_reducible assumption); (case zi2k => decide)) | ((with_reducible refine' intRoom ?zi3h ?zi3k); (case zi3h => with_reducible assumption); (case zi3k => decide)) | ((with_reducible refine' intAddLt ?zi4h ?zi4k); (case zi4h => with_reducible assumption); (case zi4k => decide)) | ((with_reducible refine intS ?_); k_extra "mine ill"))
  k_with "mine ile" => (first | (with_reducible assumption) | decide | ((with_reducible refine intNn ?_); k_extra "mine ile") | ((with_reducible refine' intLtLe ?zi5h ?zi5k); (case zi5h => with_reducible assumption); (case zi5k => decide)) | ((with_reducible refine' intLeLe ?zi6h ?zi6k); (case zi6h => with_reducible assumption); (case zi6k => decide)) | ((with_reducible refine' intGeGe ?zi7h ?zi7k); (case zi7h => with_reducible assumption); (case zi7k => decide)) | ((with_reducible refine' intAddLe ?zi8h ?zi8k); (case zi8h => with_reducible assumption); (case zi8k => decide)) | ((with_reducible refine' intAddGe ?zi9h ?zi9k); (case zi9h => with_reducible assumption); (case zi9k => decide)) | ((with_reducible refine' intSubGe ?zi10h ?zi10k); (case zi10h => with_reducible assumption); (case zi10k => decide)) | ((with_reducible refine' intSubLe ?zi11h ?zi11k); (case zi11h => with_reducible assumption); (case zi11k => decide)))
  k_with "mine omegaF" => (first | ((repeat ((with_reducible rename _ ∧ _ => kz); clear kz)); (repeat ((with_reducible rename _ ≠ _ => kz); clear kz)); omega (config := {})) | omega (config := {}))
  k_with "mine omega" => (first | (with_reducible assumption) | ((with_reducible show @Ne Nat _ _); k_extra "mine ne0") | ((with_reducible show @LT.lt Nat _ _ _); k_extra "mine lg") | ((with_reducible show @LE.le Nat _ _ _); k_extra "mine le") | ((with_reducible show @LT.lt Int _ _ _); k_extra "mine ill") | ((with_reducible show @LE.le Int _ _ _); k_extra "mine ile") | ((with_reducible refine' ⟨?zoa, ?zob⟩); (case zoa => k_extra "mine ile"); (case zob => k_extra "mine ile")) | k_extra "mine omegaF")
  k_with "mine all" => assumption
  k_with "mine mem" => first | assumption | exact .tail _ (.tail _ (by assumption)) | exact .head _ | exact .tail _ (.head _)
  k_with "mine room" => ktr_room
  k_with "callWith ref" => (k_here; k_dflt (first | (refine' callWith_kept ?z24_lk1 ?_; (case z24_lk1 => exact KeptAt.of (by k_asm) (.tail _ (.tail _ (by assumption))) (by assumption)); k_whole) | (refine' callWith_kept0 ?z24_lk2 ?_; (case z24_lk2 => exact KeptAt.of (by k_asm) (.tail _ (.tail _ (by assumption))) (by assumption)); k_whole; try dsimp only [List.nil_append, List.cons_append])))
  k_with "And" => ((with_reducible show KeptAt _ _ ∧ _); refine ⟨KeptAt.of (by k_asm) (.tail _ (.tail _ (by assumption))) (by assumption), ?_⟩; try dsimp only [List.nil_append, List.cons_append])
  k_with "KeptAt" => exact KeptAt.of (by assumption) (.tail _ (.tail _ (by assumption))) (by assumption)
  k_with "call ref" => (k_here; first | ((with_reducible show wpAny _ _ (call _ [Value.int _ _]) _ _ _); k_dflt (refine' get_call ?z27_gcN ?z27_gcx ?z27_gcm ?z27_gcO ?z27_gclo ?_; (case z27_gcN => k_asm); (case z27_gcx => exact .tail _ (.tail _ (by assumption))); (case z27_gcm => exact .head _); (case z27_gcO => assumption); (case z27_gclo => assumption)); intro _ _) | ((with_reducible show wpAny _ _ (call _ [Value.int _ _, _]) _ _ _); k_dflt (refine' put_call ?z27_pcB ?z27_pcF ?z27_pcX ?z27_pcN ?z27_pcT ?z27_pck ?z27_pcd ?z27_pcu ?z27_pcP ?z27_pcx ?z27_pcb ?z27_pcs ?z27_pcO ?z27_pcl ?_; (case z27_pcB => k_asm); (case z27_pcF => k_asm); (case z27_pcX => k_asm); (case z27_pcN => k_asm); (case z27_pcT => k_asm); (case z27_pck => rfl); (case z27_pcd => ktr_room); (case z27_pcu => ktr_units); (case z27_pcP => assumption); (case z27_pcx => assumption); (case z27_pcb => assumption); (case z27_pcs => assumption); (case z27_pcO => assumption); (case z27_pcl => omega)); intro _ _ _ _ _ _) | ((with_reducible show wpAny _ _ (call _ []) _ _ _); k_dflt (refine' tick_call ?z27_tcB ?z27_tcF ?z27_tcX ?z27_tcN ?z27_tcT ?z27_tck ?z27_tcd ?z27_tcu ?z27_tcP ?z27_tcx ?z27_tcb ?z27_tcs ?z27_tcl ?_ ?z27_tcE; (case z27_tcB => k_asm); (case z27_tcF => k_asm); (case z27_tcX => k_asm); (case z27_tcN => k_asm); (case z27_tcT => k_asm); (case z27_tck => rfl); (case z27_tcd => ktr_room); (case z27_tcu => ktr_units); (case z27_tcP => assumption); (case z27_tcx => assumption); (case z27_tcb => assumption); (case z27_tcs => assumption); (case z27_tcl => omega))))
  k_with "my enterD" => (refine' code_def ?z28_k1 ?z28_k2 ?z28_k3 ?z28_k4 ?z28_k5 ?z28_kA ?z28_kF ?z28_kK ?z28_k6 ?z28_k7 ?z28_k8 ?z28_k9 ?z28_kB ?_ ?z28_c2 ?z28_c3 ?z28_c4 ?z28_c5; (case z28_kA => exact rfl); (case z28_kF => exact rfl); (case z28_kK => assumption); (case z28_k1 => k_asm); (case z28_k2 => k_asm); (case z28_k3 => k_asm); (case z28_k4 => k_asm); (case z28_k5 => k_asm); (case z28_k6 => k_is); (case z28_k7 => k_is); (case z28_k8 => ktr_room); (case z28_k9 => first | exact binds_K (by k_in) rfl (by k_is) rfl rfl rfl | exact BindsTo.of_eq rfl); (case z28_c5 => decide); (case z28_kB => exact locs rfl); (case z28_c2 => exact rfl); (case z28_c3 => exact rfl); (case z28_c4 => exact rfl); k_whole; walk_at "my tail1")
  k_with "exec While Compare" => (k_here; k_dflt (refine halt ?_))
  exact True.intro

set_option maxHeartbeats 8000000 in
theorem insert_spec {w : World} {p : Program} {loose : List Str} {mean : ExcName → Option Value} {mg mb : Str → Option Value} {g pf tf bk sn : Addr} {opf otf ob : Obj} {rest exP exT : List (Addr × Obj)} {kvs : List (Int × Value)} {border at_ left value : Int} {tb ta tv : Tok} {n c0 : Nat}
    (hP : PutOk w p loose mean mg mb pf bk exP) (hT : TickOk w p loose mean mg mb tf sn left exT) (hxP : ∀ q ∈ exP, q ∈ rest) (hxT : ∀ q ∈ exT, q ∈ rest) (hg : (g, getO bk) ∈ rest) (hp : (pf, opf) ∈ rest) (hpk : Keeps opf) (ht : (tf, otf) ∈ rest) (htk : Keeps otf)
    (hbr : ∀ q ∈ rest, q.1 ≠ bk) (hsr : ∀ q ∈ rest, q.1 ≠ sn) (hbs : bk ≠ sn) (hO : ob.IsDictOf (intKind PySem.Challenge.rw_pq0674_01.row.prog w) kvs) (hlen : kvs.length ≤ 100) (hn : n = (max (border + 1) at_ - at_).toNat) (hn2 : n ≤ 500) (hlo : (bk == sysModules) = false) (hl0 : 0 ≤ left) (hl1 : left ≤ 500) :
    Does w p loose mean mg mb (.ref 22) [.ref g, .ref pf, .int border tb, .int at_ ta, .int value tv, .ref tf] 10 ((bk, ob) :: (sn, W.listOf #[] c0) :: rest)
      (fun v nw => v = .none ∧ (n : Int) ≤ left ∧ ∃ ob' ws' c', ob'.IsDictOf (intKind PySem.Challenge.rw_pq0674_01.row.prog w) (stored (mvs (-1) kvs (downs at_ n)) at_ (.int value tv)) ∧ ws'.length = n ∧ nw = (bk, ob') :: (sn, W.listOf (List.toArray ws') c') :: rest)
      (fun nw => left < n ∧ ∃ ob' ws' c', ob'.IsDictOf (intKind PySem.Challenge.rw_pq0674_01.row.prog w) (mvs (-1) kvs ((downs at_ n).take left.toNat)) ∧ (ws'.length : Int) = left + 1 ∧ nw = (bk, ob') :: (sn, W.listOf (List.toArray ws') c') :: rest) := by
  have hgk := keeps_get bk
  have hsb : sn ≠ bk := fun z => hbs z.symm
  unfold Does
  intro dp un gd cn cs a ccd cl outer A₀ base h₀ L m s Q E B F X N T hck hdp hu hok hexc
  revert X; k_fill; intro X
  refine wpAny_call ?_
  k_dflt (walk_at "my enterD")
  k_steps
  rename_i g1 L1 h1 FG1 B1 X1 T1 tk1 h2 tk2 h3 F1 N1
  unfold Halt
  have hmx : (if at_ > border + 1 then at_ else border + 1) = at_ + (n : Int) := by
    rw [hn]; split <;> omega
  refine while_one (Str.ofString "slot") (fun r v nx => ∃ t kvs' ob' ws' c', v = some (.int (at_ + (r : Int)) t) ∧ r ≤ n ∧ nx = (bk, ob') :: (sn, W.listOf (List.toArray ws') c') :: rest ∧ ob'.IsDictOf (intKind PySem.Challenge.rw_pq0674_01.row.prog w) kvs' ∧ ws'.length = n - r ∧ ((n - r : Nat) : Int) ≤ left ∧ kvs' = mvs (-1) kvs ((downs at_ n).take (n - r))) n F1 N1 rfl ?_ ?_ ?_
  · exact ⟨_, kvs, ob, [], c0, by rw [hmx], Nat.le_refl _, rfl, hO, by simp, by simp [hl0], by simp [mvs]⟩
  · rintro r v nx h4 tk4 F4 N4 ⟨t, kvs', ob', ws', c', rfl, hr, rfl, hO', hws, hle, hkv⟩
    clear F1 N1 hO
    have hk2 : kvs'.length ≤ 2000 := by
      rw [hkv]
      have := mvs_len (-1) ((downs at_ n).take (n - r)) kvs
      rw [List.length_take, downs_length] at this
      omega
    have hw2 : ws'.length ≤ 1000 := by omega
    k_steps
    · rename_i hgt x c5 hp5 tk5 hle5 v6 hv6 ob6 hp6 tk6 hO6 hp7 F6 N6
      refine ⟨_, _, _, _, r - 1, rfl, F6, N6, by omega, _, one_one _ _ _ _, _, _, ob6, _, _, (congrArg some (congrArg (Value.int · _) (show _ = at_ + ((r - 1 : Nat) : Int) by omega))), by omega, rfl, hO6, ?_, ?_, ?_⟩
      · rw [List.length_append, hws]; show n - r + 1 = _; omega
      · omega
      · have hi : n - r < (downs at_ n).length := by rw [downs_length]; omega
        rw [show n - (r - 1) = (n - r) + 1 by omega, mvs_take _ _ _ _ hi, downs_get _ _ _ (by omega), ← hkv, hv6, show n - (n - r) = r by omega]
        rfl
    · rename_i hgt e gg hp5 tk5 x c5 hlt F5 R5 U5
      refine leave_next B1 rfl F5 R5 U5 fun h6 R6 U6 => ?_
      refine hexc e g1 h6 _ _ ?_ FG1 R6 U6
      have hm : left.toNat = n - r := by omega
      refine ⟨by omega, ob', _, _, ?_, ?_, rfl⟩
      · rw [hm, ← hkv]; exact hO'
      · rw [List.length_append, hws]; show ((n - r + 1 : Nat) : Int) = _; omega
    · rename_i hgt ob6 hp6 tk6 F6 N6 hO6 kF kN _ _
      have hr0 : n - r = n := by omega
      refine hok _ _ _ _ ⟨rfl, by omega, ob6, ws', _, ?_, by omega, rfl⟩ kF kN
      rw [show downs at_ n = (downs at_ n).take (n - r) by rw [hr0, List.take_of_length_le]; rw [downs_length]; exact Nat.le_refl _, ← hkv]
      exact hO6
  · first | passes_own | with_unfolding_all passes_own
end

-- Rem
section
open PySem PySem.W PyProof.Rows PySem.Calls
set_option maxRecDepth 100000

/-- the goals of a removal: at up to at + n - 1 -/
def ups (at_ : Int) (n : Nat) : List Int := (List.range n).map fun i => at_ + ((i : Nat) : Int)
theorem ups_length (a : Int) (n : Nat) : (ups a n).length = n := by simp [ups]
theorem ups_get (a : Int) (n i : Nat) (h : i < n) : (ups a n)[i]'(by rw [ups_length]; exact h) = a + ((i : Nat) : Int) := by simp [ups]

theorem rows_rem : True := by
  k_with_none
  k_with "mine and" => (first | (with_reducible exact And.left) | ((with_reducible refine andR ?_); first | (with_reducible exact id) | k_extra "mine and"))
  k_with "mine lt1" => (first | (with_reducible assumption) | ((with_reducible refine' viaC ?zvh ?zvk); (case zvh => with_reducible assumption); (case zvk => k_extra "mine and")))
  k_with "mine lt2" => (first | k_extra "mine lt1" | ((with_reducible refine' ltLit ?zlh ?zlk); (case zlh => with_reducible assumption); (case zlk => exact rfl)))
  k_with "mine lt3" => (first | k_extra "mine lt2" | ((with_reducible refine' ltT ?zth ?ztk); (case zth => with_reducible assumption); (case ztk => first | k_extra "mine lt2" | ((with_reducible refine' ltT ?zuh ?zuk); (case zuh => with_reducible assumption); (case zuk => k_extra "mine lt2")))) | ((with_reducible refine lt_dn ?_); first | k_extra "mine lt1" | ((with_reducible refine lt_dn ?_); first | k_extra "mine lt1" | ((with_reducible refine lt_dn ?_); first | k_extra "mine lt1" | ((with_reducible refine lt_dn ?_); first | k_extra "mine lt1" | ((with_reducible refine lt_dn ?_); k_extra "mine lt1"))))))
  k_with "mine lt" => (first | (with_reducible exact lt_one) | ((with_reducible show _ < _ + _); (with_reducible refine lt_up ?_); k_extra "mine lt") | ((fail_if_success (with_reducible show _ < _ + _)); k_extra "mine lt3"))
  k_with "mine ne0" => (first | (with_reducible assumption) | (with_reducible exact Ne.symm (by with_reducible assumption)) | (exact neLits rfl) | ((with_reducible refine Nat.ne_of_gt ?_); k_extra "mine lt") | ((with_reducible refine Nat.ne_of_lt ?_); k_extra "mine lt"))
  k_with "mine ne" => ((try dsimp only); (first | k_extra "mine ne0" | k_extra "mine omegaF"))
  k_with "mine rm" => (first | (with_reducible exact room0 (by with_reducible assumption)) | ((with_reducible refine' roomLe ?zrh ?zrk); (case zrh => with_reducible assumption); (case zrk => exact rfl)) | ((with_reducible refine roomS ?_); k_extra "mine rm"))
  k_with "mine le" => (first | (exact leLits rfl) | ((with_reducible refine' leLit ?zmh ?zmk); (case zmh => with_reducible assumption); (case zmk => exact rfl)) | ((with_reducible refine Nat.le_of_lt ?_); k_extra "mine lt"))
  k_with "mine lg" => (first | (exact ltLits rfl) | k_extra "mine rm" | ((with_reducible refine' ltOf ?znh ?znk); (case znh => with_reducible assumption); (case znk => exact rfl)) | k_extra "mine lt")
  k_with "mine ill" => (first | (with_reducible assumption) | decide | ((with_reducible refine' intLtLt ?zi1h ?zi1k); (case zi1h => with_reducible assumption); (case zi1k => decide)) | ((with_reducible refine' intLeLt ?zi2h ?zi2k); (case zi2h => with_reducible assumption); (case zi2k => decide)) | ((with_reducible refine' intRoom ?zi3h ?zi3k); (case zi3h => with_reducible assumption); (case zi3k => decide)) | ((with_reducible refine' intAddLt ?zi4h ?zi4k); (case zi4h => with_reducible assumption); (case zi4k => decide)) | ((with_reducible refine intS ?_); k_extra "mine ill"))
  k_with "mine ile" => (first | (with_reducible assumption) | decide | ((with_reducible refine intNn ?_); k_extra "mine ile") | ((with_reducible refine' intLtLe ?zi5h ?zi5k); (case zi5h => with_reducible assumption); (case zi5k => decide)) | ((with_reducible refine' intLeLe ?zi6h ?zi6k); (case zi6h => with_reducible assumption); (case zi6k => decide)) | ((with_reducible refine' intGeGe ?zi7h ?zi7k); (case zi7h => with_reducible assumption); (case zi7k => decide)) | ((with_reducible refine' intAddLe ?zi8h ?zi8k); (case zi8h => with_reducible assumption); (case zi8k => decide)) | ((with_reducible refine' intAddGe ?zi9h ?zi9k); (case zi9h => with_reducible assumption); (case zi9k => decide)) | ((with_reducible refine' intSubGe ?zi10h ?zi10k); (case zi10h => with_reducible assumption); (case zi10k => decide)) | ((with_reducible refine' intSubLe ?zi11h ?zi11k); (case zi11h => with_reducible assumption); (case zi11k => decide)))
  k_with "mine omegaF" => (first | ((repeat ((with_reducible rename _ ∧ _ => kz); clear kz)); (repeat ((with_reducible rename _ ≠ _ => kz); clear kz)); omega (config := {})) | omega (config := {}))
  k_with "mine omega" => (first | (with_reducible assumption) | ((with_reducible show @Ne Nat _ _); k_extra "mine ne0") | ((with_reducible show @LT.lt Nat _ _ _); k_extra "mine lg") | ((with_reducible show @LE.le Nat _ _ _); k_extra "mine le") | ((with_reducible show @LT.lt Int _ _ _); k_extra "mine ill") | ((with_reducible show @LE.le Int _ _ _); k_extra "mine ile") | ((with_reducible refine' ⟨?zoa, ?zob⟩); (case zoa => k_extra "mine ile"); (case zob => k_extra "mine ile")) | k_extra "mine omegaF")
  k_with "mine all" => assumption
  k_with "mine mem" => first | assumption | exact .tail _ (.tail _ (by assumption)) | exact .head _ | exact .tail _ (.head _)
  k_with "mine room" => ktr_room
  k_with "callWith ref" => (k_here; k_dflt (first | (refine' callWith_kept ?z147_lk1 ?_; (case z147_lk1 => exact KeptAt.of (by k_asm) (.tail _ (.tail _ (by assumption))) (by assumption)); k_whole) | (refine' callWith_kept0 ?z147_lk2 ?_; (case z147_lk2 => exact KeptAt.of (by k_asm) (.tail _ (.tail _ (by assumption))) (by assumption)); k_whole; try dsimp only [List.nil_append, List.cons_append])))
  k_with "And" => ((with_reducible show KeptAt _ _ ∧ _); refine ⟨KeptAt.of (by k_asm) (.tail _ (.tail _ (by assumption))) (by assumption), ?_⟩; try dsimp only [List.nil_append, List.cons_append])
  k_with "KeptAt" => exact KeptAt.of (by assumption) (.tail _ (.tail _ (by assumption))) (by assumption)
  k_with "call ref" => (k_here; first | ((with_reducible show wpAny _ _ (call _ [Value.int _ _]) _ _ _); k_dflt (refine' get_call ?z150_gcN ?z150_gcx ?z150_gcm ?z150_gcO ?z150_gclo ?_; (case z150_gcN => k_asm); (case z150_gcx => exact .tail _ (.tail _ (by assumption))); (case z150_gcm => exact .head _); (case z150_gcO => assumption); (case z150_gclo => assumption)); intro _ _) | ((with_reducible show wpAny _ _ (call _ [Value.int _ _, _]) _ _ _); k_dflt (refine' put_call ?z150_pcB ?z150_pcF ?z150_pcX ?z150_pcN ?z150_pcT ?z150_pck ?z150_pcd ?z150_pcu ?z150_pcP ?z150_pcx ?z150_pcb ?z150_pcs ?z150_pcO ?z150_pcl ?_; (case z150_pcB => k_asm); (case z150_pcF => k_asm); (case z150_pcX => k_asm); (case z150_pcN => k_asm); (case z150_pcT => k_asm); (case z150_pck => rfl); (case z150_pcd => ktr_room); (case z150_pcu => ktr_units); (case z150_pcP => assumption); (case z150_pcx => assumption); (case z150_pcb => assumption); (case z150_pcs => assumption); (case z150_pcO => assumption); (case z150_pcl => omega)); intro _ _ _ _ _ _) | ((with_reducible show wpAny _ _ (call _ []) _ _ _); k_dflt (refine' tick_call ?z150_tcB ?z150_tcF ?z150_tcX ?z150_tcN ?z150_tcT ?z150_tck ?z150_tcd ?z150_tcu ?z150_tcP ?z150_tcx ?z150_tcb ?z150_tcs ?z150_tcl ?_ ?z150_tcE; (case z150_tcB => k_asm); (case z150_tcF => k_asm); (case z150_tcX => k_asm); (case z150_tcN => k_asm); (case z150_tcT => k_asm); (case z150_tck => rfl); (case z150_tcd => ktr_room); (case z150_tcu => ktr_units); (case z150_tcP => assumption); (case z150_tcx => assumption); (case z150_tcb => assumption); (case z150_tcs => assumption); (case z150_tcl => omega))))
  k_with "my enterD" => (refine' code_def ?z151_k1 ?z151_k2 ?z151_k3 ?z151_k4 ?z151_k5 ?z151_kA ?z151_kF ?z151_kK ?z151_k6 ?z151_k7 ?z151_k8 ?z151_k9 ?z151_kB ?_ ?z151_c2 ?z151_c3 ?z151_c4 ?z151_c5; (case z151_kA => exact rfl); (case z151_kF => exact rfl); (case z151_kK => assumption); (case z151_k1 => k_asm); (case z151_k2 => k_asm); (case z151_k3 => k_asm); (case z151_k4 => k_asm); (case z151_k5 => k_asm); (case z151_k6 => k_is); (case z151_k7 => k_is); (case z151_k8 => ktr_room); (case z151_k9 => first | exact binds_K (by k_in) rfl (by k_is) rfl rfl rfl | exact BindsTo.of_eq rfl); (case z151_c5 => decide); (case z151_kB => exact locs rfl); (case z151_c2 => exact rfl); (case z151_c3 => exact rfl); (case z151_c4 => exact rfl); k_whole; walk_at "my tail1")
  k_with "exec While Compare" => (k_here; k_dflt (refine halt ?_))
  exact True.intro

set_option maxHeartbeats 8000000 in
theorem remove_spec {w : World} {p : Program} {loose : List Str} {mean : ExcName → Option Value} {mg mb : Str → Option Value} {g pf tf bk sn : Addr} {opf otf ob : Obj} {rest exP exT : List (Addr × Obj)} {kvs : List (Int × Value)} {border at_ left : Int} {tb ta : Tok} {n c0 : Nat}
    (hP : PutOk w p loose mean mg mb pf bk exP) (hT : TickOk w p loose mean mg mb tf sn left exT) (hxP : ∀ q ∈ exP, q ∈ rest) (hxT : ∀ q ∈ exT, q ∈ rest) (hg : (g, getO bk) ∈ rest) (hp : (pf, opf) ∈ rest) (hpk : Keeps opf) (ht : (tf, otf) ∈ rest) (htk : Keeps otf)
    (hbr : ∀ q ∈ rest, q.1 ≠ bk) (hsr : ∀ q ∈ rest, q.1 ≠ sn) (hbs : bk ≠ sn) (hO : ob.IsDictOf (intKind PySem.Challenge.rw_pq0674_01.row.prog w) kvs) (hlen : kvs.length ≤ 100) (hn2 : n ≤ 500) (hlo : (bk == sysModules) = false) (hl0 : 0 ≤ left) (hl1 : left ≤ 500)
    (hat1 : 1 ≤ at_) (hn : at_ + (n : Int) = border) :
    Does w p loose mean mg mb (.ref 30) [.ref g, .ref pf, .int border tb, .int at_ ta, .ref tf] 10 ((bk, ob) :: (sn, W.listOf #[] c0) :: rest)
      (fun v nw => ∃ D ob' ws' c', v = .ref D ∧ (n : Int) ≤ left ∧ (bk < D ∧ sn < D ∧ AllLt D rest) ∧ ob'.IsDictOf (intKind PySem.Challenge.rw_pq0674_01.row.prog w) (stored (mvs 1 kvs (ups at_ n)) border .none) ∧ ws'.length = n ∧ nw = (D, { cls := .type "tuple", data := .seq #[.bool true, (valueAt kvs at_).getD .none] }) :: (bk, ob') :: (sn, W.listOf (List.toArray ws') c') :: rest)
      (fun nw => left < n ∧ ∃ ob' ws' c', ob'.IsDictOf (intKind PySem.Challenge.rw_pq0674_01.row.prog w) (mvs 1 kvs ((ups at_ n).take left.toNat)) ∧ (ws'.length : Int) = left + 1 ∧ nw = (bk, ob') :: (sn, W.listOf (List.toArray ws') c') :: rest) := by
  have hgk := keeps_get bk
  have hsb : sn ≠ bk := fun z => hbs z.symm
  unfold Does
  intro dp un gd cn cs a ccd cl outer A₀ base h₀ L m s Q E B F X N T hck hdp hu hok hexc
  revert X; k_fill; intro X
  refine wpAny_call ?_
  k_dflt (walk_at "my enterD")
  k_steps
  rename_i g1 L1 h1 FG1 B1 X1 T1 tk1 tk2 v0 hv0 h3 F1 N1
  unfold Halt
  refine while_one (Str.ofString "at") (fun r v nx => ∃ t kvs' ob' ws' c', v = some (.int (at_ + ((n - r : Nat) : Int)) t) ∧ r ≤ n ∧ nx = (bk, ob') :: (sn, W.listOf (List.toArray ws') c') :: rest ∧ ob'.IsDictOf (intKind PySem.Challenge.rw_pq0674_01.row.prog w) kvs' ∧ ws'.length = n - r ∧ ((n - r : Nat) : Int) ≤ left ∧ kvs' = mvs 1 kvs ((ups at_ n).take (n - r))) n (v₀ := .int at_ ta) F1 N1 rfl ?_ ?_ ?_
  · exact ⟨ta, kvs, ob, [], c0, by simp, Nat.le_refl _, rfl, hO, by simp, by simp [hl0], by simp [mvs]⟩
  · rintro r v nx h4 tk4 F4 N4 ⟨t, kvs', ob', ws', c', rfl, hr, rfl, hO', hws, hle, hkv⟩
    clear F1 N1 hO
    have hk2 : kvs'.length ≤ 2000 := by
      rw [hkv]
      have := mvs_len 1 ((ups at_ n).take (n - r)) kvs
      rw [List.length_take, ups_length] at this
      omega
    have hw2 : ws'.length ≤ 1000 := by omega
    k_steps
    · rename_i hgt x c5 hp5 tk5 hle5 v6 hv6 ob6 hp6 tk6 hO6 hp7 F6 N6
      refine ⟨_, _, _, _, r - 1, rfl, F6, N6, by omega, _, one_one _ _ _ _, _, _, ob6, _, _, (congrArg some (congrArg (Value.int · _) (show _ = at_ + ((n - (r - 1) : Nat) : Int) by omega))), by omega, rfl, hO6, ?_, ?_, ?_⟩
      · rw [List.length_append, hws]; show n - r + 1 = _; omega
      · omega
      · have hi : n - r < (ups at_ n).length := by rw [ups_length]; omega
        rw [show n - (r - 1) = (n - r) + 1 by omega, mvs_take _ _ _ _ hi, ups_get _ _ _ (by omega), ← hkv, hv6]
        rfl
    · rename_i hgt e gg hp5 tk5 x c5 hlt F5 R5 U5
      refine leave_next B1 rfl F5 R5 U5 fun h6 R6 U6 => ?_
      refine hexc e g1 h6 _ _ ?_ FG1 R6 U6
      have hm : left.toNat = n - r := by omega
      refine ⟨by omega, ob', _, _, ?_, ?_, rfl⟩
      · rw [hm, ← hkv]; exact hO'
      · rw [List.length_append, hws]; show ((n - r + 1 : Nat) : Int) = _; omega
    · rename_i hgt ob6 hp6 tk6 hO6 D6 hp7 F6 N6 l6 kF kN _ _
      have hr0 : n - r = n := by omega
      refine hok _ _ _ _ ⟨D6, ob6, ws', _, rfl, by omega, l6, ?_, by omega, by rw [← hv0]⟩ kF kN
      rw [show ups at_ n = (ups at_ n).take (n - r) by rw [hr0, List.take_of_length_le]; rw [ups_length]; exact Nat.le_refl _, ← hkv]
      exact hO6
  · first | passes_own | with_unfolding_all passes_own

set_option maxHeartbeats 8000000 in
theorem remove_not {w : World} {p : Program} {loose : List Str} {mean : ExcName → Option Value} {mg mb : Str → Option Value} {g pf tf : Addr} {news : List (Addr × Obj)} {border at_ : Int} {tb ta : Tok}
    (hn : at_ < 1 ∨ border < at_) :
    Does w p loose mean mg mb (.ref 30) [.ref g, .ref pf, .int border tb, .int at_ ta, .ref tf] 10 news
      (fun v nw => ∃ D, v = .ref D ∧ (∀ p ∈ news, p.1 < D) ∧ nw = (D, { cls := .type "tuple", data := .seq #[.bool false, .none] }) :: news)
      (fun _ => False) := by
  unfold Does
  intro dp un gd cn cs a ccd cl outer A₀ base h₀ L m s Q E B F X N T hck hdp hu hok hexc
  revert X; k_fill; intro X
  refine wpAny_call ?_
  k_dflt (walk_at "my enterD")
  k_steps
  all_goals
    rename_i l1 kF kN _ _
    exact hok _ _ _ _ ⟨_, rfl, l1, rfl⟩ kF kN
end

-- Turn
section
open PySem PySem.W PyProof.Rows PySem.Calls PySem.Spec
theorem rows_turn : True := by
  k_with_none
  k_with "mine and" => (first | (with_reducible exact And.left) | ((with_reducible refine andR ?_); first | (with_reducible exact id) | k_extra "mine and"))
  k_with "mine lt1" => (first | (with_reducible assumption) | ((with_reducible refine' viaC ?zvh ?zvk); (case zvh => with_reducible assumption); (case zvk => k_extra "mine and")))
  k_with "mine lt2" => (first | k_extra "mine lt1" | ((with_reducible refine' ltLit ?zlh ?zlk); (case zlh => with_reducible assumption); (case zlk => exact rfl)))
  k_with "mine lt3" => (first | k_extra "mine lt2" | ((with_reducible refine' ltT ?zth ?ztk); (case zth => with_reducible assumption); (case ztk => first | k_extra "mine lt2" | ((with_reducible refine' ltT ?zuh ?zuk); (case zuh => with_reducible assumption); (case zuk => k_extra "mine lt2")))) | ((with_reducible refine lt_dn ?_); first | k_extra "mine lt1" | ((with_reducible refine lt_dn ?_); first | k_extra "mine lt1" | ((with_reducible refine lt_dn ?_); first | k_extra "mine lt1" | ((with_reducible refine lt_dn ?_); first | k_extra "mine lt1" | ((with_reducible refine lt_dn ?_); k_extra "mine lt1"))))))
  k_with "mine lt" => (first | (with_reducible exact lt_one) | ((with_reducible show _ < _ + _); (with_reducible refine lt_up ?_); k_extra "mine lt") | ((fail_if_success (with_reducible show _ < _ + _)); k_extra "mine lt3"))
  k_with "mine ne0" => (first | (with_reducible assumption) | (with_reducible exact Ne.symm (by with_reducible assumption)) | (exact neLits rfl) | ((with_reducible refine Nat.ne_of_gt ?_); k_extra "mine lt") | ((with_reducible refine Nat.ne_of_lt ?_); k_extra "mine lt"))
  k_with "mine ne" => ((try dsimp only); (first | k_extra "mine ne0" | k_extra "mine omegaF"))
  k_with "mine rm" => (first | (with_reducible exact room0 (by with_reducible assumption)) | ((with_reducible refine' roomLe ?zrh ?zrk); (case zrh => with_reducible assumption); (case zrk => exact rfl)) | ((with_reducible refine roomS ?_); k_extra "mine rm"))
  k_with "mine le" => (first | (exact leLits rfl) | ((with_reducible refine' leLit ?zmh ?zmk); (case zmh => with_reducible assumption); (case zmk => exact rfl)) | ((with_reducible refine Nat.le_of_lt ?_); k_extra "mine lt"))
  k_with "mine lg" => (first | (exact ltLits rfl) | k_extra "mine rm" | ((with_reducible refine' ltOf ?znh ?znk); (case znh => with_reducible assumption); (case znk => exact rfl)) | k_extra "mine lt")
  k_with "mine ill" => (first | (with_reducible assumption) | decide | ((with_reducible refine' intLtLt ?zi1h ?zi1k); (case zi1h => with_reducible assumption); (case zi1k => decide)) | ((with_reducible refine' intLeLt ?zi2h ?zi2k); (case zi2h => with_reducible assumption); (case zi2k => decide)) | ((with_reducible refine' intRoom ?zi3h ?zi3k); (case zi3h => with_reducible assumption); (case zi3k => decide)) | ((with_reducible refine' intAddLt ?zi4h ?zi4k); (case zi4h => with_reducible assumption); (case zi4k => decide)) | ((with_reducible refine intS ?_); k_extra "mine ill"))
  k_with "mine ile" => (first | (with_reducible assumption) | decide | ((with_reducible refine intNn ?_); k_extra "mine ile") | ((with_reducible refine' intLtLe ?zi5h ?zi5k); (case zi5h => with_reducible assumption); (case zi5k => decide)) | ((with_reducible refine' intLeLe ?zi6h ?zi6k); (case zi6h => with_reducible assumption); (case zi6k => decide)) | ((with_reducible refine' intGeGe ?zi7h ?zi7k); (case zi7h => with_reducible assumption); (case zi7k => decide)) | ((with_reducible refine' intAddLe ?zi8h ?zi8k); (case zi8h => with_reducible assumption); (case zi8k => decide)) | ((with_reducible refine' intAddGe ?zi9h ?zi9k); (case zi9h => with_reducible assumption); (case zi9k => decide)) | ((with_reducible refine' intSubGe ?zi10h ?zi10k); (case zi10h => with_reducible assumption); (case zi10k => decide)) | ((with_reducible refine' intSubLe ?zi11h ?zi11k); (case zi11h => with_reducible assumption); (case zi11k => decide)))
  k_with "mine omegaF" => (first | ((repeat ((with_reducible rename _ ∧ _ => kz); clear kz)); (repeat ((with_reducible rename _ ≠ _ => kz); clear kz)); omega (config := {})) | omega (config := {}))
  k_with "mine omega" => (first | (with_reducible assumption) | ((with_reducible show @Ne Nat _ _); k_extra "mine ne0") | ((with_reducible show @LT.lt Nat _ _ _); k_extra "mine lg") | ((with_reducible show @LE.le Nat _ _ _); k_extra "mine le") | ((with_reducible show @LT.lt Int _ _ _); k_extra "mine ill") | ((with_reducible show @LE.le Int _ _ _); k_extra "mine ile") | ((with_reducible refine' ⟨?zoa, ?zob⟩); (case zoa => k_extra "mine ile"); (case zob => k_extra "mine ile")) | k_extra "mine omegaF")
  exact True.intro

set_option maxRecDepth 100000

section
variable {prog : Program} {w : World} {A₀ A : Around} {s : Shared} {base h₀ g₀ G g' hh : Heap} {outer : List Env} {env : Env} {L L' : Addr} {m m' : Str → Option Value} {news news' : List (Addr × Obj)} {K : Frag} {p : Program} {loose : List Str} {mean : ExcName → Option Value} {mg mb : Str → Option Value}
    {R : Result → Shared → Prop} {name qual : Str} {params : Arguments} {body : List Stmt} {scope : Scope} {dV kV doc pm cdv ct oc : Value} {an od : Option Addr} {osl : Array (Option Value)} {f : Addr} {args : Args} {binds : List (Str × Value)}

/-- the caller's ground again, behind a callee that caught -/
theorem back (B : Below A₀ base outer h₀) (F : Fr h₀ L s.heap m) (hf : env.frame = some L) (FG : Fr h₀ L G m) (st : h₀.StaysIn G)
    (T' : KtsTurn ((env :: outer).filterMap (·.frame)) G g') (F' : Fr g' L' hh m') (N' : News g' L' hh news') :
    ∃ h₀', KtsTurn (outer.filterMap (·.frame)) h₀ h₀' ∧ Fr h₀' L hh m ∧ News h₀' L hh news' ∧ Below A₀ base outer h₀' := by
  have nL₀ : h₀.get? L = none := kts_self F
  obtain ⟨oL, es, ep, hL, hLd, hLk, hLf⟩ := FG.ns
  obtain ⟨sl, hs⟩ := T'.up hL
  obtain ⟨T₁, S₁⟩ := kts_turn_at (h := hh) (fs := outer.filterMap (·.frame)) (g := h₀)
    (fun b hb => let ⟨_, o, ho', _⟩ := B.frames.mem hb; ⟨o, ho'⟩)
    (fun b o e nmem => F'.keep b o (T'.other b o (st b o e) (fun q => by
      rcases mem_frames hf q with z | z
      · rw [z, nL₀] at e; cases e
      · exact nmem z)))
    (fun b o e _ => by
      obtain ⟨sl', hs'⟩ := T'.up (st b o e)
      exact ⟨sl', F'.keep _ _ hs'⟩)
  have B₃ : Below A₀ base outer (ktsHeap hh (outer.filterMap (·.frame)) h₀) := by
    refine ⟨B.stack, fun b o e => T₁.other b o (B.stays b o e) (fun hm => ?_), B.frames.of_keeps fun b o e _ => ?_⟩
    · rw [(B.frames.mem hm).1] at e; cases e
    · obtain ⟨sl', hs'⟩ := T₁.up e
      exact ⟨_, hs', rfl⟩
  refine ⟨_, T₁, ⟨⟨_, es, ep, F'.keep _ _ hs, hLd, hLk, hLf⟩, S₁, by rw [T₁.size]; exact F.above⟩, fun p hp => ⟨(N' p hp).1, fun q => ?_, T₁.none_ _ ?_⟩, B₃⟩
  · have := (N' p hp).2.2
    rw [q, hs] at this; cases this
  · cases q : h₀.get? p.1 with
    | none => rfl
    | some o =>
      obtain ⟨sl', hs'⟩ := T'.up (st _ _ q)
      have := (N' p hp).2.2
      rw [hs'] at this; cases this

theorem leaveS_back (B : Below A₀ base outer h₀) (F : Fr h₀ L s.heap m) (N : News h₀ L s.heap news) (hA : A.frames = some (env :: outer)) (hf : env.frame = some L) (hke : env.scope.kind = .function)
    (XB : K.In base) (TB : Top p loose mean mg mb base) (D : KtsDicts (outer.filterMap (·.frame)) h₀) (T0 : KtsTurn (outer.filterMap (·.frame)) g₀ h₀) {v : Value} {s' : Shared}
    (hl : LeaveS ((env :: outer).filterMap (·.frame)) A₀ base outer K p loose mean mg mb g₀ h₀ L m (hideAll s.heap (news.map (·.1))) R v s') : R (.ok (.ret v)) s' := by
  obtain ⟨FG, BG, st, lv⟩ := groundX (R := R) B F N hA hf hke
  rcases hl with ⟨L', m', news', F', N', k⟩ | ⟨g', L', m', news', T', F', N', k⟩
  · exact lv v s' ⟨L', m', news', F', N', k⟩
  · obtain ⟨h₀', T₁, F₁, N₁, B₁⟩ := back (A₀ := A₀) B F hf FG st T' F' N'
    exact k h₀' (T0.trans T₁) F₁ N₁ B₁ (XB.keeps B₁.stays) (TB.keeps B₁.stays) (D.turn T₁)

theorem dicts_push (FG : Fr h₀ L G m) (hf : env.frame = some L) (st : h₀.StaysIn G) (D : KtsDicts (outer.filterMap (·.frame)) h₀) : KtsDicts ((env :: outer).filterMap (·.frame)) G := fun b hb => by
  rcases mem_frames hf hb with rfl | hb
  · obtain ⟨oL, es, ep, hL, hLd, _⟩ := FG.ns
    exact ⟨oL, es, ep, hL, hLd⟩
  · obtain ⟨o, es', n', ho', hd'⟩ := D b hb
    exact ⟨o, es', n', st b o ho', hd'⟩

/-- a call of a def that catches, from any frame -/
theorem code_turn (B : Below A₀ base outer h₀) (F : Fr h₀ L s.heap m) (X₀ : K.In h₀) (N : News h₀ L s.heap news) (T : Top p loose mean mg mb h₀) (XB : K.In base) (TB : Top p loose mean mg mb base) (D : KtsDicts (outer.filterMap (·.frame)) h₀)
    (T0 : KtsTurn (outer.filterMap (·.frame)) g₀ h₀) (hA : A.frames = some (env :: outer)) (hf : env.frame = some L) (hke : env.scope.kind = .function)
    (ho : K.lookup f = some ⟨oc, od, .func (fnOf name qual params body scope dV kV doc pm an cdv ct), osl⟩) (hcd : codeIn K cdv qual = true) (hroom : A.depth < recursionLimit)
    (hbind : BindsTo s (fnOf name qual params body scope dV kV doc pm an cdv ct) args binds) (hloc : ∀ y ∈ binds, scope.names.lookup y.1 = some .local)
    (h : ∀ g L' h₁, Fr h₀ L g m → Fr g L' h₁ (fun y => binds.reverse.lookup y) → News g L' h₁ news → Below A base (env :: outer) g → K.In g → Top p loose mean mg mb g → KtsDicts ((env :: outer).filterMap (·.frame)) g →
      wpAny (model prog w) (A.deeper (envOf qual scope L' f cdv)) (execs body (envOf qual scope L' f cdv))
        (fun fl s' => LeaveS ((env :: outer).filterMap (·.frame)) A₀ base outer K p loose mean mg mb g₀ h₀ L m g R (match fl with | .ret v => v | _ => .none) s')
        (fun e s' => wpAny (model prog w) (A.deeper (envOf qual scope L' f cdv)) (leaving (envOf qual scope L' f cdv) e) (fun _ s'' => R (.error e) s'') (fun e' s'' => R (.error e') s'') s')
        { s with heap := h₁, toks := s.toks + binds.length })
    (hco : scope.isCoroutine = false) (hgen : scope.isGenerator = false) (hk : scope.kind = .function)
    (hcell : ∀ x ∈ scope.names, x.2 ≠ .cell) : codeAny (model prog w) A (.call (.ref f) args) R s := by
  have X := X₀.keeps F.keep
  obtain ⟨FG, BG, st, _⟩ := groundX (R := R) B F N hA hf hke
  refine codeAny_call_def (fd := fnOf name qual params body scope dV kV doc pm an cdv ct) (body := body) (binds := binds) hroom (X _ _ ho) rfl (T.nolimit.keeps F.keep) (codeRec_of X hcd) rfl hbind hcell hloc (fun h₁ hns hk₁ => ?_) hco hgen hk
  refine wpAny_mono (h _ s.heap.objs.size h₁ FG ⟨hns, fun b o e => hk₁ b o (of_hideAll _ e), Nat.le_of_eq (hideAll_size _ _)⟩
    (fun p hp => ⟨hk₁ _ _ (N p hp).1, Nat.ne_of_lt (Heap.lt_size (N p hp).1), hideAll_none _ (List.mem_map_of_mem hp)⟩) BG (X₀.keeps st) (T.keeps st) (dicts_push FG hf st D)) (fun fl s' hl => ?_) fun _ _ y => y
  exact leaveS_back B F N hA hf hke XB TB D T0 hl

/-- a call of a def with cells whose callees catch -/
theorem code_turnC (B : Below A₀ base outer h₀) (F : Fr h₀ L s.heap m) (X₀ : K.In h₀) (N : News h₀ L s.heap news) (T : Top p loose mean mg mb h₀) (XB : K.In base) (TB : Top p loose mean mg mb base) (D : KtsDicts (outer.filterMap (·.frame)) h₀)
    (T0 : KtsTurn (outer.filterMap (·.frame)) g₀ h₀) (hA : A.frames = some (env :: outer)) (hf : env.frame = some L) (hke : env.scope.kind = .function)
    (ho : K.lookup f = some ⟨oc, od, .func (fnOf name qual params body scope dV kV doc pm an cdv ct), osl⟩) (hcd : codeIn K cdv qual = true) (hroom : A.depth < recursionLimit)
    (hbind : BindsTo s (fnOf name qual params body scope dV kV doc pm an cdv ct) args binds) (hkind : (binds.all fun y => scope.names.lookup y.1 == some .local || scope.names.lookup y.1 == some .cell) = true)
    (hnd : ((cellsFrom 0 scope.names []).map (·.1)).Nodup)
    (h : ∀ g L' h₁ tk cells, Fr h₀ L g m → Fr g L' h₁ (bindL (envOfC qual scope L' f cdv).kindOf binds fun _ => none) → News g L' h₁ (cells ++ news) →
      CellsAre (bindC (envOfC qual scope L' f cdv).kindOf binds fun _ => none) (cellsFrom (L' + 1) scope.names []) cells → Below A base (env :: outer) g → K.In g → Top p loose mean mg mb g → KtsDicts ((env :: outer).filterMap (·.frame)) g → (∀ p ∈ news, p.1 < L') →
      wpAny (model prog w) (A.deeper (envOfC qual scope L' f cdv)) (execs body (envOfC qual scope L' f cdv))
        (fun fl s' => LeaveS ((env :: outer).filterMap (·.frame)) A₀ base outer K p loose mean mg mb g₀ h₀ L m g R (match fl with | .ret v => v | _ => .none) s')
        (fun e s' => wpAny (model prog w) (A.deeper (envOfC qual scope L' f cdv)) (leaving (envOfC qual scope L' f cdv) e) (fun _ s'' => R (.error e) s'') (fun e' s'' => R (.error e') s'') s')
        { s with heap := h₁, toks := tk })
    (hco : scope.isCoroutine = false) (hgen : scope.isGenerator = false) (hk : scope.kind = .function) : codeAny (model prog w) A (.call (.ref f) args) R s := by
  have X := X₀.keeps F.keep
  obtain ⟨FG, BG, st, _⟩ := groundX (R := R) B F N hA hf hke
  refine codeAny_call_function hroom (X _ _ ho) rfl hco hgen rfl (codeRec_of X hcd) (hbind _ _ _ _ ?_)
  refine wpAny_newFunctionEnv_cells hk (kindsX hkind _) fun env' he s' x => ?_
  subst he
  refine ⟨(T.nolimit.keeps F.keep).keeps x.toInCall.keep, codeAny_func ?_⟩
  obtain ⟨h₁, tk, rfl, _⟩ := x.done
  have hk₁ := x.toInCall.keep
  obtain ⟨cells, NC, Y⟩ := Cl.news (h₀ := s.heap) (Nat.le_refl _) fun n c hm => ⟨x.cell n c (lookup_of_mem_nodup (cellsFrom_names scope.names 0 (s.heap.objs.size + 1) [] [] rfl ▸ hnd) hm), x.above n c hm⟩
  refine wpAny_mono (h _ s.heap.objs.size h₁ tk cells FG ⟨x.toInCall.ns, fun b o e => hk₁ b o (of_hideAll _ e), Nat.le_of_eq (hideAll_size _ _)⟩ (fun p hp => ?_) Y BG (X₀.keeps st) (T.keeps st) (dicts_push FG hf st D) (fun p hp => Heap.lt_size (N p hp).1)) (fun fl s' hl => ?_) fun _ _ y => y
  · rcases List.mem_append.mp hp with hp | hp
    · refine ⟨(NC p hp).1, (NC p hp).2.1, ?_⟩
      cases q : (hideAll s.heap (news.map (·.1))).get? p.1 with
      | none => rfl
      | some o => have := of_hideAll _ q; rw [(NC p hp).2.2] at this; cases this
    · exact ⟨hk₁ _ _ (N p hp).1, Nat.ne_of_lt (Heap.lt_size (N p hp).1), hideAll_none _ (List.mem_map_of_mem hp)⟩
  · exact leaveS_back B F N hA hf hke XB TB D T0 hl
end
end

-- Ref
section
open PySem PySem.W PyProof.Rows PySem.Calls
set_option maxRecDepth 100000

theorem rows_ref : True := by
  k_with_none
  k_with "mine and" => (first | (with_reducible exact And.left) | ((with_reducible refine andR ?_); first | (with_reducible exact id) | k_extra "mine and"))
  k_with "mine lt1" => (first | (with_reducible assumption) | ((with_reducible refine' viaC ?zvh ?zvk); (case zvh => with_reducible assumption); (case zvk => k_extra "mine and")))
  k_with "mine lt2" => (first | k_extra "mine lt1" | ((with_reducible refine' ltLit ?zlh ?zlk); (case zlh => with_reducible assumption); (case zlk => exact rfl)))
  k_with "mine lt3" => (first | k_extra "mine lt2" | ((with_reducible refine' ltT ?zth ?ztk); (case zth => with_reducible assumption); (case ztk => first | k_extra "mine lt2" | ((with_reducible refine' ltT ?zuh ?zuk); (case zuh => with_reducible assumption); (case zuk => k_extra "mine lt2")))) | ((with_reducible refine lt_dn ?_); first | k_extra "mine lt1" | ((with_reducible refine lt_dn ?_); first | k_extra "mine lt1" | ((with_reducible refine lt_dn ?_); first | k_extra "mine lt1" | ((with_reducible refine lt_dn ?_); first | k_extra "mine lt1" | ((with_reducible refine lt_dn ?_); k_extra "mine lt1"))))))
  k_with "mine lt" => (first | (with_reducible exact lt_one) | ((with_reducible show _ < _ + _); (with_reducible refine lt_up ?_); k_extra "mine lt") | ((fail_if_success (with_reducible show _ < _ + _)); k_extra "mine lt3"))
  k_with "mine ne0" => (first | (with_reducible assumption) | (with_reducible exact Ne.symm (by with_reducible assumption)) | (exact neLits rfl) | ((with_reducible refine Nat.ne_of_gt ?_); k_extra "mine lt") | ((with_reducible refine Nat.ne_of_lt ?_); k_extra "mine lt"))
  k_with "mine ne" => ((try dsimp only); (first | k_extra "mine ne0" | k_extra "mine omegaF"))
  k_with "mine rm" => (first | (with_reducible exact room0 (by with_reducible assumption)) | ((with_reducible refine' roomLe ?zrh ?zrk); (case zrh => with_reducible assumption); (case zrk => exact rfl)) | ((with_reducible refine roomS ?_); k_extra "mine rm"))
  k_with "mine le" => (first | (exact leLits rfl) | ((with_reducible refine' leLit ?zmh ?zmk); (case zmh => with_reducible assumption); (case zmk => exact rfl)) | ((with_reducible refine Nat.le_of_lt ?_); k_extra "mine lt"))
  k_with "mine lg" => (first | (exact ltLits rfl) | k_extra "mine rm" | ((with_reducible refine' ltOf ?znh ?znk); (case znh => with_reducible assumption); (case znk => exact rfl)) | k_extra "mine lt")
  k_with "mine ill" => (first | (with_reducible assumption) | decide | ((with_reducible refine' intLtLt ?zi1h ?zi1k); (case zi1h => with_reducible assumption); (case zi1k => decide)) | ((with_reducible refine' intLeLt ?zi2h ?zi2k); (case zi2h => with_reducible assumption); (case zi2k => decide)) | ((with_reducible refine' intRoom ?zi3h ?zi3k); (case zi3h => with_reducible assumption); (case zi3k => decide)) | ((with_reducible refine' intAddLt ?zi4h ?zi4k); (case zi4h => with_reducible assumption); (case zi4k => decide)) | ((with_reducible refine intS ?_); k_extra "mine ill"))
  k_with "mine ile" => (first | (with_reducible assumption) | decide | ((with_reducible refine intNn ?_); k_extra "mine ile") | ((with_reducible refine' intLtLe ?zi5h ?zi5k); (case zi5h => with_reducible assumption); (case zi5k => decide)) | ((with_reducible refine' intLeLe ?zi6h ?zi6k); (case zi6h => with_reducible assumption); (case zi6k => decide)) | ((with_reducible refine' intGeGe ?zi7h ?zi7k); (case zi7h => with_reducible assumption); (case zi7k => decide)) | ((with_reducible refine' intAddLe ?zi8h ?zi8k); (case zi8h => with_reducible assumption); (case zi8k => decide)) | ((with_reducible refine' intAddGe ?zi9h ?zi9k); (case zi9h => with_reducible assumption); (case zi9k => decide)) | ((with_reducible refine' intSubGe ?zi10h ?zi10k); (case zi10h => with_reducible assumption); (case zi10k => decide)) | ((with_reducible refine' intSubLe ?zi11h ?zi11k); (case zi11h => with_reducible assumption); (case zi11k => decide)))
  k_with "mine omegaF" => (first | ((repeat ((with_reducible rename _ ∧ _ => kz); clear kz)); (repeat ((with_reducible rename _ ≠ _ => kz); clear kz)); omega (config := {})) | omega (config := {}))
  k_with "mine omega" => (first | (with_reducible assumption) | ((with_reducible show @Ne Nat _ _); k_extra "mine ne0") | ((with_reducible show @LT.lt Nat _ _ _); k_extra "mine lg") | ((with_reducible show @LE.le Nat _ _ _); k_extra "mine le") | ((with_reducible show @LT.lt Int _ _ _); k_extra "mine ill") | ((with_reducible show @LE.le Int _ _ _); k_extra "mine ile") | ((with_reducible refine' ⟨?zoa, ?zob⟩); (case zoa => k_extra "mine ile"); (case zob => k_extra "mine ile")) | k_extra "mine omegaF")
  k_with "mine all" => assumption
  k_with "mine mem" => assumption
  k_with "mine room" => ktr_room
  k_with "callWith ref" => (k_here; k_dflt ( (refine' callWith_kept0 ?z141_lk2 ?_; (case z141_lk2 => exact KeptAt.of (by k_asm) (by assumption) (by assumption)); k_whole; try dsimp only [List.nil_append, List.cons_append])))
  k_with "call ref" => (k_here; k_dflt (refine halt ?_))
  k_with "my enterT" => (refine' code_turn ?z143_k1 ?z143_k2 ?z143_k3 ?z143_k4 ?z143_k5 ?z143_XB ?z143_TB ?z143_D ?z143_T0 ?z143_kA ?z143_kF ?z143_kK ?z143_k6 ?z143_k7 ?z143_k8 ?z143_k9 ?z143_kB ?_ ?z143_c2 ?z143_c3 ?z143_c4 ?z143_c5; (case z143_kA => exact rfl); (case z143_kF => exact rfl); (case z143_kK => assumption); (case z143_k2 => k_asm); (case z143_k1 => k_asm); (case z143_XB => assumption); (case z143_TB => assumption); (case z143_D => assumption); (case z143_T0 => exact KtsTurn.refl); (case z143_k3 => k_asm); (case z143_k4 => k_asm); (case z143_k5 => k_asm); (case z143_k6 => k_is); (case z143_k7 => k_is); (case z143_k8 => ktr_room); (case z143_k9 => exact BindsTo.of_eq rfl); (case z143_c5 => decide); (case z143_kB => exact locs rfl); (case z143_c2 => exact rfl); (case z143_c3 => exact rfl); (case z143_c4 => exact rfl); k_whole; walk_at "my tail3")
  exact True.intro

set_option maxHeartbeats 8000000 in
theorem refused_spec {w : World} {p : Program} {loose : List Str} {mean : ExcName → Option Value} {mg mb : Str → Option Value}
    {dp un : Nat} {gd : Option (List Code)} {cn : Str} {cs : Scope} {a : Addr} {ccd : Value} {cl : List (Str × Addr)} {outer : List Env} {A₀ : Around} {base h₀ : Heap} {L : Addr} {m : Str → Option Value}
    {news : List (Addr × Obj)} {s : Shared} {Q E : Value → Shared → Prop} {f : Addr} {of : Obj} {d : Nat} {Ok : Value → List (Addr × Obj) → Prop} {Ex : List (Addr × Obj) → Prop}
    (B : Below A₀ base outer h₀) (F : Fr h₀ L s.heap m) (X : (hd.heap_39 w.params).In h₀) (N : News h₀ L s.heap news) (T : Top p loose mean mg mb h₀) (hck : cs.kind = .function)
    (XB : (hd.heap_39 w.params).In base) (TB : Top p loose mean mg mb base) (D : KtsDicts (outer.filterMap (·.frame)) h₀)
    (hf : (f, of) ∈ news) (hk : Keeps of) (hW : Does w p loose mean mg mb (.ref f) [] d news Ok Ex)
    (hdp : dp + d + 1 < recursionLimit) (hu : un + 16 * d + 16 < cLine)
    (hok : ∀ v news' h' tk, Ok v news' → Fr h₀ L h' m → News h₀ L h' news' → Q (.bool false) { s with heap := h', toks := tk })
    (hex : ∀ h₀' news' h' tk, Ex news' → KtsTurn (outer.filterMap (·.frame)) h₀ h₀' → Fr h₀' L h' m → News h₀' L h' news' → Below A₀ base outer h₀' → (hd.heap_39 w.params).In h₀' → Top p loose mean mg mb h₀' →
      KtsDicts (outer.filterMap (·.frame)) h₀' → Q (.bool true) { s with heap := h', toks := tk }) :
    wpAny (model PySem.Challenge.rw_pq0674_01.row.prog w) (ktrTop dp un gd cn cs L a ccd cl outer) (call (.ref 79) [.ref f]) Q E s := by
  revert X; k_fill; intro X
  refine wpAny_call ?_
  k_dflt (walk_at "my enterT")
  k_steps
  rename_i g1 L1 h1 FG1 F1 N1 B1 X1 T1 D1
  unfold Halt
  refine hW _ _ _ _ _ _ _ _ _ _ base g1 L1 _ _ _ _ B1 F1 X1 N1 T1 rfl (by ktr_room) (by ktr_units) ?_ ?_
  · intro v news' h2 tk2 hO F2 N2
    clear F1 N1
    dsimp only
    k_steps
    exact hok v news' _ _ hO (by assumption) (by assumption)
  · intro e gg h2 tk2 news' hE F2 R2 U2
    clear F1 N1
    dsimp only
    k_steps
    exact hex _ news' _ _ hE (by assumption) (by assumption) (by assumption) (by assumption) (by assumption) (by assumption) (by assumption)
end

-- Calls1
section
open PySem PySem.W PyProof.Rows PySem.Calls
theorem rows_calls1 : True := by
  k_with_none
  k_with "mine and" => (first | (with_reducible exact And.left) | ((with_reducible refine andR ?_); first | (with_reducible exact id) | k_extra "mine and"))
  k_with "mine lt1" => (first | (with_reducible assumption) | ((with_reducible refine' viaC ?zvh ?zvk); (case zvh => with_reducible assumption); (case zvk => k_extra "mine and")))
  k_with "mine lt2" => (first | k_extra "mine lt1" | ((with_reducible refine' ltLit ?zlh ?zlk); (case zlh => with_reducible assumption); (case zlk => exact rfl)))
  k_with "mine lt3" => (first | k_extra "mine lt2" | ((with_reducible refine' ltT ?zth ?ztk); (case zth => with_reducible assumption); (case ztk => first | k_extra "mine lt2" | ((with_reducible refine' ltT ?zuh ?zuk); (case zuh => with_reducible assumption); (case zuk => k_extra "mine lt2")))) | ((with_reducible refine lt_dn ?_); first | k_extra "mine lt1" | ((with_reducible refine lt_dn ?_); first | k_extra "mine lt1" | ((with_reducible refine lt_dn ?_); first | k_extra "mine lt1" | ((with_reducible refine lt_dn ?_); first | k_extra "mine lt1" | ((with_reducible refine lt_dn ?_); k_extra "mine lt1"))))))
  k_with "mine lt" => (first | (with_reducible exact lt_one) | ((with_reducible show _ < _ + _); (with_reducible refine lt_up ?_); k_extra "mine lt") | ((fail_if_success (with_reducible show _ < _ + _)); k_extra "mine lt3"))
  k_with "mine ne0" => (first | (with_reducible assumption) | (with_reducible exact Ne.symm (by with_reducible assumption)) | (exact neLits rfl) | ((with_reducible refine Nat.ne_of_gt ?_); k_extra "mine lt") | ((with_reducible refine Nat.ne_of_lt ?_); k_extra "mine lt"))
  k_with "mine ne" => ((try dsimp only); (first | k_extra "mine ne0" | k_extra "mine omegaF"))
  k_with "mine rm" => (first | (with_reducible exact room0 (by with_reducible assumption)) | ((with_reducible refine' roomLe ?zrh ?zrk); (case zrh => with_reducible assumption); (case zrk => exact rfl)) | ((with_reducible refine roomS ?_); k_extra "mine rm"))
  k_with "mine le" => (first | (exact leLits rfl) | ((with_reducible refine' leLit ?zmh ?zmk); (case zmh => with_reducible assumption); (case zmk => exact rfl)) | ((with_reducible refine Nat.le_of_lt ?_); k_extra "mine lt"))
  k_with "mine lg" => (first | (exact ltLits rfl) | k_extra "mine rm" | ((with_reducible refine' ltOf ?znh ?znk); (case znh => with_reducible assumption); (case znk => exact rfl)) | k_extra "mine lt")
  k_with "mine ill" => (first | (with_reducible assumption) | decide | ((with_reducible refine' intLtLt ?zi1h ?zi1k); (case zi1h => with_reducible assumption); (case zi1k => decide)) | ((with_reducible refine' intLeLt ?zi2h ?zi2k); (case zi2h => with_reducible assumption); (case zi2k => decide)) | ((with_reducible refine' intRoom ?zi3h ?zi3k); (case zi3h => with_reducible assumption); (case zi3k => decide)) | ((with_reducible refine' intAddLt ?zi4h ?zi4k); (case zi4h => with_reducible assumption); (case zi4k => decide)) | ((with_reducible refine intS ?_); k_extra "mine ill"))
  k_with "mine ile" => (first | (with_reducible assumption) | decide | ((with_reducible refine intNn ?_); k_extra "mine ile") | ((with_reducible refine' intLtLe ?zi5h ?zi5k); (case zi5h => with_reducible assumption); (case zi5k => decide)) | ((with_reducible refine' intLeLe ?zi6h ?zi6k); (case zi6h => with_reducible assumption); (case zi6k => decide)) | ((with_reducible refine' intGeGe ?zi7h ?zi7k); (case zi7h => with_reducible assumption); (case zi7k => decide)) | ((with_reducible refine' intAddLe ?zi8h ?zi8k); (case zi8h => with_reducible assumption); (case zi8k => decide)) | ((with_reducible refine' intAddGe ?zi9h ?zi9k); (case zi9h => with_reducible assumption); (case zi9k => decide)) | ((with_reducible refine' intSubGe ?zi10h ?zi10k); (case zi10h => with_reducible assumption); (case zi10k => decide)) | ((with_reducible refine' intSubLe ?zi11h ?zi11k); (case zi11h => with_reducible assumption); (case zi11k => decide)))
  k_with "mine omegaF" => (first | ((repeat ((with_reducible rename _ ∧ _ => kz); clear kz)); (repeat ((with_reducible rename _ ≠ _ => kz); clear kz)); omega (config := {})) | omega (config := {}))
  k_with "mine omega" => (first | (with_reducible assumption) | ((with_reducible show @Ne Nat _ _); k_extra "mine ne0") | ((with_reducible show @LT.lt Nat _ _ _); k_extra "mine lg") | ((with_reducible show @LE.le Nat _ _ _); k_extra "mine le") | ((with_reducible show @LT.lt Int _ _ _); k_extra "mine ill") | ((with_reducible show @LE.le Int _ _ _); k_extra "mine ile") | ((with_reducible refine' ⟨?zoa, ?zob⟩); (case zoa => k_extra "mine ile"); (case zob => k_extra "mine ile")) | k_extra "mine omegaF")
  exact True.intro

set_option maxRecDepth 100000

theorem news_sub {h₀ h : Heap} {L : Addr} {news news' : List (Addr × Obj)} (N : News h₀ L h news) (hs : ∀ p ∈ news', p ∈ news) : News h₀ L h news' := fun p hp => N p (hs p hp)

theorem mem_mid {α : Type} {x y : α} {pre post : List α} (h : x ∈ pre ++ y :: post) : x = y ∨ x ∈ pre ++ post := by
  simp only [List.mem_append, List.mem_cons] at h ⊢
  rcases h with h | h | h
  · exact .inr (.inl h)
  · exact .inl h
  · exact .inr (.inr h)
theorem mid_sub {α : Type} {y : α} {pre post : List α} : ∀ x ∈ y :: (pre ++ post), x ∈ pre ++ y :: post := by
  intro x h
  simp only [List.mem_append, List.mem_cons] at h ⊢
  rcases h with h | h | h
  · exact .inr (.inl h)
  · exact .inl h
  · exact .inr (.inr h)
theorem sub_mid {α : Type} {y : α} {pre post : List α} : ∀ x ∈ pre ++ y :: post, x ∈ y :: (pre ++ post) := by
  intro x h
  simp only [List.mem_append, List.mem_cons] at h ⊢
  rcases h with h | h | h
  · exact .inr (.inl h)
  · exact .inl h
  · exact .inr (.inr h)

section
variable {w : World} {p : Program} {loose : List Str} {mean : ExcName → Option Value} {mg mb : Str → Option Value}
    {dp un : Nat} {gd : Option (List Code)} {cn : Str} {cs : Scope} {a : Addr} {ccd : Value} {cl : List (Str × Addr)} {outer : List Env} {A₀ : Around} {base h₀ : Heap} {L : Addr} {m : Str → Option Value}
    {news : List (Addr × Obj)} {s : Shared} {Q E : Value → Shared → Prop} {g : Obj → List (Addr × Obj)}

/-- a draw -/
theorem struck_call {an D : Addr} {ws : List Value} {ns : List Int} {t many : Int} {tkt tkm : Tok} {n nD : Nat}
    (B : Below A₀ base outer h₀) (F : Fr h₀ L s.heap m) (X : (hd.heap_39 w.params).In h₀) (N : News h₀ L s.heap news) (T : Top p loose mean mg mb h₀) (hck : cs.kind = .function)
    (U : UpdF an (W.listOf #[.ref D, .int t tkt] n) news g) (hD : (D, W.listOf ws.toArray nD) ∈ news) (hI : IntsAre ws ns) (hlen : ns.length ≤ 63) (ht0 : 0 ≤ t) (ht : t < 1000) (hm0 : 0 < many) (hm : many ≤ 1000)
    (hdp : dp + 1 < recursionLimit) (hu : un + 8 < cLine)
    (h : ∀ k t1 t2 h' tk, 0 ≤ k → k < many → Fr h₀ L h' m → News h₀ L h' (g (W.listOf #[.ref D, .int (t+1) t1] n)) → Q (.int k t2) { s with heap := h', toks := tk }) :
    wpAny (model PySem.Challenge.rw_pq0674_01.row.prog w) (ktrTop dp un gd cn cs L a ccd cl outer) (call (.ref 65) [.ref an, .int many tkm]) Q E s := by
  obtain ⟨pre, post, rfl, hg, h1, h2⟩ := U.split
  have hDr : (D, W.listOf ws.toArray nD) ∈ pre ++ post := by
    rcases mem_mid hD with e | e
    · exfalso
      have e2 := (Prod.mk.inj e).2
      have e3 : ws.toArray = #[.ref D, .int t tkt] := by
        have := congrArg Obj.data e2
        injection this
      have e4 : ws = [.ref D, .int t tkt] := by simpa using congrArg Array.toList e3
      subst e4
      cases hI
    · exact e
  refine struck_spec B F X (news_sub N mid_sub) T hck (fun q hq => ?_) hDr hI hlen ht0 ht hm0 hm hdp hu fun k t1 t2 h' tk k0 k1 F' N' => h k t1 t2 h' tk k0 k1 F' ?_
  · rcases List.mem_append.mp hq with hq | hq
    · exact h1 q hq
    · exact h2 q hq
  · rw [hg]; exact news_sub N' sub_mid

/-- the moves, as the law reckons them -/
theorem moved_call {bk gl : Addr} {ob : Obj} {kvs : List (Int × Value)} {vs : List Value} {gs : List Int} {way left : Int} {tw tl : Tok} {ng : Nat}
    (B : Below A₀ base outer h₀) (F : Fr h₀ L s.heap m) (X : (hd.heap_39 w.params).In h₀) (N : News h₀ L s.heap news) (T : Top p loose mean mg mb h₀) (hck : cs.kind = .function)
    (U : UpdF bk ob news g) (hO : ob.IsDictOf (intKind PySem.Challenge.rw_pq0674_01.row.prog w) kvs) (hG : (gl, W.listOf vs.toArray ng) ∈ news) (hgb : gl ≠ bk) (hI : IntsAre vs gs) (hlen : kvs.length + gs.length ≤ 1000) (hlo : (bk == sysModules) = false)
    (hl0 : 0 ≤ left) (hl1 : left ≤ 1000)
    (hdp : dp + 1 < recursionLimit) (hu : un + 8 < cLine)
    (h : ∀ b ob' h' tk, b = decide ((gs.length : Int) ≤ left) → ob'.IsDictOf (intKind PySem.Challenge.rw_pq0674_01.row.prog w) (mvs way kvs (gs.take left.toNat)) → Fr h₀ L h' m → News h₀ L h' (g ob') → Q (.bool b) { s with heap := h', toks := tk }) :
    wpAny (model PySem.Challenge.rw_pq0674_01.row.prog w) (ktrTop dp un gd cn cs L a ccd cl outer) (call (.ref 86) [.ref bk, .ref gl, .int way tw, .int left tl]) Q E s := by
  obtain ⟨pre, post, rfl, hg, h1, h2⟩ := U.split
  have hGr : (gl, W.listOf vs.toArray ng) ∈ pre ++ post := by
    rcases mem_mid hG with e | e
    · exact absurd (Prod.mk.inj e).1 hgb
    · exact e
  refine moved_spec B F X (news_sub N mid_sub) T hck (fun q hq => ?_) hO hGr hI hlen hlo hl0 hl1 hdp hu fun b ob' h' tk hb hO' F' N' => h b ob' h' tk hb hO' F' ?_
  · rcases List.mem_append.mp hq with hq | hq
    · exact h1 q hq
    · exact h2 q hq
  · rw [hg]; exact news_sub N' sub_mid

/-- the first counter -/
theorem counter_call {sn : Addr} {left : Int} {tl : Tok}
    (B : Below A₀ base outer h₀) (F : Fr h₀ L s.heap m) (X : (hd.heap_39 w.params).In h₀) (N : News h₀ L s.heap news) (T : Top p loose mean mg mb h₀) (hck : cs.kind = .function)
    (hC : CodeHd base 71 67) (U : UpdF 67 (tabObj #[]) news g)
    (hdp : dp + 9 < recursionLimit) (hu : un + 100 < cLine)
    (h : ∀ f c' oc ex h' tk, Fr h₀ L h' m → News h₀ L h' (ex ++ g (tabObj #[rawInt 47, rawInt 4, .ref c'])) → (∀ q ∈ ex, ∀ r ∈ news, r.1 < q.1) → (c', oc) ∈ ex →
      (∃ vs t, oc.data = .fields vs ∧ vs[1]? = some (.str (Str.ofString "_law_counter.<locals>.count") t)) → TickOk w p loose mean mg mb f sn left ex → (∃ of, (f, of) ∈ ex ∧ FnO of) → Q (.ref f) { s with heap := h', toks := tk }) :
    wpAny (model PySem.Challenge.rw_pq0674_01.row.prog w) (ktrTop dp un gd cn cs L a ccd cl outer) (call (.ref 72) [.ref sn, .int left tl]) Q E s := by
  obtain ⟨pre, post, rfl, hg, h1, h2⟩ := U.split
  refine counter_spec B F X (news_sub N mid_sub) T hck hC (fun q hq => ?_) hdp hu fun f c' oc ex h' tk F' N' hl hc hv hT ho => h f c' oc ex h' tk F' ?_ ?_ hc hv hT ho
  · rcases List.mem_append.mp hq with hq | hq
    · exact h1 q hq
    · exact h2 q hq
  · rw [hg]
    exact news_sub N' fun x hx => by
      rcases List.mem_append.mp hx with hx | hx
      · exact List.mem_append_left _ hx
      · exact List.mem_append_right _ (sub_mid x hx)
  · intro q hq r hr
    rcases mem_mid hr with rfl | hr
    · exact (hl q hq).1
    · exact (hl q hq).2 r hr

/-- a later counter -/
theorem counter_again {sn c0 : Addr} {oc0 : Obj} {vs0 : Array Value} {t0 : Tok} {left : Int} {tl : Tok}
    (B : Below A₀ base outer h₀) (F : Fr h₀ L s.heap m) (X : (hd.heap_39 w.params).In h₀) (N : News h₀ L s.heap news) (T : Top p loose mean mg mb h₀) (hck : cs.kind = .function)
    (hC : CodeHd base 71 67) (U : UpdF 67 (tabObj #[rawInt 47, rawInt 4, .ref c0]) news g) (hm0 : (c0, oc0) ∈ news) (hd0 : oc0.data = .fields vs0) (hv0 : vs0[1]? = some (.str (Str.ofString "_law_counter.<locals>.count") t0))
    (hdp : dp + 9 < recursionLimit) (hu : un + 100 < cLine)
    (h : ∀ f ex h' tk, Fr h₀ L h' m → News h₀ L h' (ex ++ news) → (∀ q ∈ ex, ∀ r ∈ news, r.1 < q.1) →
      TickOk w p loose mean mg mb f sn left ((c0, oc0) :: ex) → (∃ of, (f, of) ∈ ex ∧ FnO of) → Q (.ref f) { s with heap := h', toks := tk }) :
    wpAny (model PySem.Challenge.rw_pq0674_01.row.prog w) (ktrTop dp un gd cn cs L a ccd cl outer) (call (.ref 72) [.ref sn, .int left tl]) Q E s := by
  obtain ⟨pre, post, rfl, hg, h1, h2⟩ := U.split
  have hmr : (c0, oc0) ∈ pre ++ post := by
    rcases mem_mid hm0 with e | e
    · exfalso
      obtain ⟨_, e2⟩ := Prod.mk.inj e
      rw [e2] at hd0
      cases hd0
      simp [rawInt] at hv0
    · exact e
  refine counter_hit B F X (news_sub N mid_sub) T hck hC hmr hd0 hv0 (fun q hq => ?_) hdp hu fun f ex h' tk F' N' hl hT ho => h f ex h' tk F' ?_ ?_ hT ho
  · rcases List.mem_append.mp hq with hq | hq
    · exact h1 q hq
    · exact h2 q hq
  · exact news_sub N' fun x hx => by
      rcases List.mem_append.mp hx with hx | hx
      · exact List.mem_append_left _ hx
      · exact List.mem_append_right _ (sub_mid x hx)
  · intro q hq r hr
    rcases mem_mid hr with rfl | hr
    · exact (hl q hq).1
    · exact (hl q hq).2 r hr
end
end

-- Rng
section
open PySem PySem.W PyProof.Rows PySem.Calls
theorem rows_rng : True := by
  k_with_none
  k_with "mine and" => (first | (with_reducible exact And.left) | ((with_reducible refine andR ?_); first | (with_reducible exact id) | k_extra "mine and"))
  k_with "mine lt1" => (first | (with_reducible assumption) | ((with_reducible refine' viaC ?zvh ?zvk); (case zvh => with_reducible assumption); (case zvk => k_extra "mine and")))
  k_with "mine lt2" => (first | k_extra "mine lt1" | ((with_reducible refine' ltLit ?zlh ?zlk); (case zlh => with_reducible assumption); (case zlk => exact rfl)))
  k_with "mine lt3" => (first | k_extra "mine lt2" | ((with_reducible refine' ltT ?zth ?ztk); (case zth => with_reducible assumption); (case ztk => first | k_extra "mine lt2" | ((with_reducible refine' ltT ?zuh ?zuk); (case zuh => with_reducible assumption); (case zuk => k_extra "mine lt2")))) | ((with_reducible refine lt_dn ?_); first | k_extra "mine lt1" | ((with_reducible refine lt_dn ?_); first | k_extra "mine lt1" | ((with_reducible refine lt_dn ?_); first | k_extra "mine lt1" | ((with_reducible refine lt_dn ?_); first | k_extra "mine lt1" | ((with_reducible refine lt_dn ?_); k_extra "mine lt1"))))))
  k_with "mine lt" => (first | (with_reducible exact lt_one) | ((with_reducible show _ < _ + _); (with_reducible refine lt_up ?_); k_extra "mine lt") | ((fail_if_success (with_reducible show _ < _ + _)); k_extra "mine lt3"))
  k_with "mine ne0" => (first | (with_reducible assumption) | (with_reducible exact Ne.symm (by with_reducible assumption)) | (exact neLits rfl) | ((with_reducible refine Nat.ne_of_gt ?_); k_extra "mine lt") | ((with_reducible refine Nat.ne_of_lt ?_); k_extra "mine lt"))
  k_with "mine ne" => ((try dsimp only); (first | k_extra "mine ne0" | k_extra "mine omegaF"))
  k_with "mine rm" => (first | (with_reducible exact room0 (by with_reducible assumption)) | ((with_reducible refine' roomLe ?zrh ?zrk); (case zrh => with_reducible assumption); (case zrk => exact rfl)) | ((with_reducible refine roomS ?_); k_extra "mine rm"))
  k_with "mine le" => (first | (exact leLits rfl) | ((with_reducible refine' leLit ?zmh ?zmk); (case zmh => with_reducible assumption); (case zmk => exact rfl)) | ((with_reducible refine Nat.le_of_lt ?_); k_extra "mine lt"))
  k_with "mine lg" => (first | (exact ltLits rfl) | k_extra "mine rm" | ((with_reducible refine' ltOf ?znh ?znk); (case znh => with_reducible assumption); (case znk => exact rfl)) | k_extra "mine lt")
  k_with "mine ill" => (first | (with_reducible assumption) | decide | ((with_reducible refine' intLtLt ?zi1h ?zi1k); (case zi1h => with_reducible assumption); (case zi1k => decide)) | ((with_reducible refine' intLeLt ?zi2h ?zi2k); (case zi2h => with_reducible assumption); (case zi2k => decide)) | ((with_reducible refine' intRoom ?zi3h ?zi3k); (case zi3h => with_reducible assumption); (case zi3k => decide)) | ((with_reducible refine' intAddLt ?zi4h ?zi4k); (case zi4h => with_reducible assumption); (case zi4k => decide)) | ((with_reducible refine intS ?_); k_extra "mine ill"))
  k_with "mine ile" => (first | (with_reducible assumption) | decide | ((with_reducible refine intNn ?_); k_extra "mine ile") | ((with_reducible refine' intLtLe ?zi5h ?zi5k); (case zi5h => with_reducible assumption); (case zi5k => decide)) | ((with_reducible refine' intLeLe ?zi6h ?zi6k); (case zi6h => with_reducible assumption); (case zi6k => decide)) | ((with_reducible refine' intGeGe ?zi7h ?zi7k); (case zi7h => with_reducible assumption); (case zi7k => decide)) | ((with_reducible refine' intAddLe ?zi8h ?zi8k); (case zi8h => with_reducible assumption); (case zi8k => decide)) | ((with_reducible refine' intAddGe ?zi9h ?zi9k); (case zi9h => with_reducible assumption); (case zi9k => decide)) | ((with_reducible refine' intSubGe ?zi10h ?zi10k); (case zi10h => with_reducible assumption); (case zi10k => decide)) | ((with_reducible refine' intSubLe ?zi11h ?zi11k); (case zi11h => with_reducible assumption); (case zi11k => decide)))
  k_with "mine omegaF" => (first | ((repeat ((with_reducible rename _ ∧ _ => kz); clear kz)); (repeat ((with_reducible rename _ ≠ _ => kz); clear kz)); omega (config := {})) | omega (config := {}))
  k_with "mine omega" => (first | (with_reducible assumption) | ((with_reducible show @Ne Nat _ _); k_extra "mine ne0") | ((with_reducible show @LT.lt Nat _ _ _); k_extra "mine lg") | ((with_reducible show @LE.le Nat _ _ _); k_extra "mine le") | ((with_reducible show @LT.lt Int _ _ _); k_extra "mine ill") | ((with_reducible show @LE.le Int _ _ _); k_extra "mine ile") | ((with_reducible refine' ⟨?zoa, ?zob⟩); (case zoa => k_extra "mine ile"); (case zob => k_extra "mine ile")) | k_extra "mine omegaF")
  exact True.intro

set_option maxRecDepth 100000
section
variable {prog : Program} {w : World} {A : Around} {E : Value → Shared → Prop} {s : Shared} {h₀ : Heap} {L r : Addr} {m : Str → Option Value} {news : List (Addr × Obj)} {Q : Value → Shared → Prop}

theorem ints_by {f : Nat → Int} : ∀ (n : Nat) (vs : List Value), vs.length = n → (∀ (j : Nat) (v : Value), vs[j]? = some v → ∃ t, v = .int (f j) t) → IntsAre vs ((List.range n).map f) := by
  intro n
  induction n with
  | zero => intro vs e _; rw [List.eq_nil_of_length_eq_zero e]; exact .nil
  | succ n ih =>
    intro vs e h
    have hlt : n < vs.length := by omega
    obtain ⟨t, ht⟩ := h n vs[n] (List.getElem?_eq_getElem hlt)
    have hs : vs = vs.take n ++ [vs[n]] := by
      rw [← List.take_succ_eq_append_getElem hlt, List.take_of_length_le (by omega)]
    rw [hs, List.range_succ, List.map_append]
    refine IntsAre.append (ih (vs.take n) (by rw [List.length_take]; omega) fun j v hj => ?_) (by rw [ht]; exact .cons _ _ .nil)
    refine h j v ?_
    rw [List.getElem?_take] at hj
    split at hj
    · exact hj
    · cases hj

/-- list(range(hi, at, -1)) -/
theorem list_down {hi a : Int} {t u v : Tok} {n : Nat} (hh : A.handled = none) (F : Fr h₀ L s.heap m) (N : News h₀ L s.heap news) (hr : IsRange s.heap r hi a (0 - 1) t u v) (hn : hi = a + (n : Int)) (hb : n ≤ 500) (ha : -1000 ≤ a) (ha2 : a ≤ 1000)
    (h : ∀ D us c h' tk, Fr h₀ L h' m → News h₀ L h' ((D, W.listOf (List.toArray us) c) :: news) → (∀ p ∈ news, p.1 < D) → IntsAre us (downs a n) → Q (.ref D) { s with heap := h', toks := tk }) :
    wpAny (model prog w) A (call (.type "list") [.ref r]) Q E s := by
  subst hn
  have hsz : Builtin.Range.rangeSize (a + (n : Int)) a (0 - 1) = (n : Int) := by
    unfold Builtin.Range.rangeSize
    rw [if_neg (by omega), show -((0 : Int) - 1) = 1 from rfl, Int.ediv_one]
    split <;> omega
  have hsmall : Builtin.Range.small (a + (n : Int)) a (0 - 1) = true := by
    unfold Builtin.Range.small
    rw [hsz]
    simp only [Builtin.Range.rangeFitsLong, Bool.and_eq_true, Bool.or_eq_true, decide_eq_true_eq, beq_iff_eq, show ¬ ((0 : Int) - 1 > 0) by decide, if_false]
    omega
  refine call_list_range hh hr hsmall hsz (by omega) fun h' tk acc c hk hD hI => ?_
  have hD' : h'.get? s.heap.objs.size = some (W.listOf (List.toArray acc.toList) c) := by
    rw [Array.toArray_toList]
    exact hD
  refine h _ acc.toList c h' tk (F.keeps hk) (news_pushed F N hk hD' rfl) (fun p hp => Heap.lt_size (N p hp).1) (ints_by n _ (by rw [Array.length_toList]; exact hI.1) fun j v hj => ?_)
  have hj' : acc[j]? = some v := by rw [← hj, Array.getElem?_toList]
  obtain ⟨t, ht⟩ := hI.2 j v hj'
  have hlt : j < n := by
    have := (Array.getElem?_eq_some_iff.mp hj').1
    have := hI.1
    omega
  exact ⟨t, by rw [ht]; congr 1; omega⟩

/-- list(range(a, b)) -/
theorem list_up {a b : Int} {t u v : Tok} (hh : A.handled = none) (F : Fr h₀ L s.heap m) (N : News h₀ L s.heap news) (hr : IsRange s.heap r a b 1 t u v) (hb : b ≤ 1000) (ha : -1000 ≤ a) (ha2 : a ≤ 1000) (hb2 : -1000 ≤ b)
    (h : ∀ D us c h' tk, Fr h₀ L h' m → News h₀ L h' ((D, W.listOf (List.toArray us) c) :: news) → (∀ p ∈ news, p.1 < D) → IntsAre us (ups a (b - a).toNat) → Q (.ref D) { s with heap := h', toks := tk }) :
    wpAny (model prog w) A (call (.type "list") [.ref r]) Q E s := by
  have hsmall : Builtin.Range.small a b 1 = true := small_one (by omega) (by omega) (by omega) (by omega)
  exact kll_range hh F N hr hsmall (rangeSize_nat a b) (by omega) h
end
end

-- Eqs
section
open PySem PySem.W PyProof.Rows PySem.Calls
theorem rows_eqs : True := by
  k_with_none
  k_with "mine and" => (first | (with_reducible exact And.left) | ((with_reducible refine andR ?_); first | (with_reducible exact id) | k_extra "mine and"))
  k_with "mine lt1" => (first | (with_reducible assumption) | ((with_reducible refine' viaC ?zvh ?zvk); (case zvh => with_reducible assumption); (case zvk => k_extra "mine and")))
  k_with "mine lt2" => (first | k_extra "mine lt1" | ((with_reducible refine' ltLit ?zlh ?zlk); (case zlh => with_reducible assumption); (case zlk => exact rfl)))
  k_with "mine lt3" => (first | k_extra "mine lt2" | ((with_reducible refine' ltT ?zth ?ztk); (case zth => with_reducible assumption); (case ztk => first | k_extra "mine lt2" | ((with_reducible refine' ltT ?zuh ?zuk); (case zuh => with_reducible assumption); (case zuk => k_extra "mine lt2")))) | ((with_reducible refine lt_dn ?_); first | k_extra "mine lt1" | ((with_reducible refine lt_dn ?_); first | k_extra "mine lt1" | ((with_reducible refine lt_dn ?_); first | k_extra "mine lt1" | ((with_reducible refine lt_dn ?_); first | k_extra "mine lt1" | ((with_reducible refine lt_dn ?_); k_extra "mine lt1"))))))
  k_with "mine lt" => (first | (with_reducible exact lt_one) | ((with_reducible show _ < _ + _); (with_reducible refine lt_up ?_); k_extra "mine lt") | ((fail_if_success (with_reducible show _ < _ + _)); k_extra "mine lt3"))
  k_with "mine ne0" => (first | (with_reducible assumption) | (with_reducible exact Ne.symm (by with_reducible assumption)) | (exact neLits rfl) | ((with_reducible refine Nat.ne_of_gt ?_); k_extra "mine lt") | ((with_reducible refine Nat.ne_of_lt ?_); k_extra "mine lt"))
  k_with "mine ne" => ((try dsimp only); (first | k_extra "mine ne0" | k_extra "mine omegaF"))
  k_with "mine rm" => (first | (with_reducible exact room0 (by with_reducible assumption)) | ((with_reducible refine' roomLe ?zrh ?zrk); (case zrh => with_reducible assumption); (case zrk => exact rfl)) | ((with_reducible refine roomS ?_); k_extra "mine rm"))
  k_with "mine le" => (first | (exact leLits rfl) | ((with_reducible refine' leLit ?zmh ?zmk); (case zmh => with_reducible assumption); (case zmk => exact rfl)) | ((with_reducible refine Nat.le_of_lt ?_); k_extra "mine lt"))
  k_with "mine lg" => (first | (exact ltLits rfl) | k_extra "mine rm" | ((with_reducible refine' ltOf ?znh ?znk); (case znh => with_reducible assumption); (case znk => exact rfl)) | k_extra "mine lt")
  k_with "mine ill" => (first | (with_reducible assumption) | decide | ((with_reducible refine' intLtLt ?zi1h ?zi1k); (case zi1h => with_reducible assumption); (case zi1k => decide)) | ((with_reducible refine' intLeLt ?zi2h ?zi2k); (case zi2h => with_reducible assumption); (case zi2k => decide)) | ((with_reducible refine' intRoom ?zi3h ?zi3k); (case zi3h => with_reducible assumption); (case zi3k => decide)) | ((with_reducible refine' intAddLt ?zi4h ?zi4k); (case zi4h => with_reducible assumption); (case zi4k => decide)) | ((with_reducible refine intS ?_); k_extra "mine ill"))
  k_with "mine ile" => (first | (with_reducible assumption) | decide | ((with_reducible refine intNn ?_); k_extra "mine ile") | ((with_reducible refine' intLtLe ?zi5h ?zi5k); (case zi5h => with_reducible assumption); (case zi5k => decide)) | ((with_reducible refine' intLeLe ?zi6h ?zi6k); (case zi6h => with_reducible assumption); (case zi6k => decide)) | ((with_reducible refine' intGeGe ?zi7h ?zi7k); (case zi7h => with_reducible assumption); (case zi7k => decide)) | ((with_reducible refine' intAddLe ?zi8h ?zi8k); (case zi8h => with_reducible assumption); (case zi8k => decide)) | ((with_reducible refine' intAddGe ?zi9h ?zi9k); (case zi9h => with_reducible assumption); (case zi9k => decide)) | ((with_reducible refine' intSubGe ?zi10h ?zi10k); (case zi10h => with_reducible assumption); (case zi10k => decide)) | ((with_reducible refine' intSubLe ?zi11h ?zi11k); (case zi11h => with_reducible assumption); (case zi11k => decide)))
  k_with "mine omegaF" => (first | ((repeat ((with_reducible rename _ ∧ _ => kz); clear kz)); (repeat ((with_reducible rename _ ≠ _ => kz); clear kz)); omega (config := {})) | omega (config := {}))
  k_with "mine omega" => (first | (with_reducible assumption) | ((with_reducible show @Ne Nat _ _); k_extra "mine ne0") | ((with_reducible show @LT.lt Nat _ _ _); k_extra "mine lg") | ((with_reducible show @LE.le Nat _ _ _); k_extra "mine le") | ((with_reducible show @LT.lt Int _ _ _); k_extra "mine ill") | ((with_reducible show @LE.le Int _ _ _); k_extra "mine ile") | ((with_reducible refine' ⟨?zoa, ?zob⟩); (case zoa => k_extra "mine ile"); (case zob => k_extra "mine ile")) | k_extra "mine omegaF")
  exact True.intro

set_option maxRecDepth 100000
section
variable {prog : Program} {w : World} {A : Around} {E : Value → Shared → Prop} {s : Shared} {h₀ : Heap} {L : Addr} {news : List (Addr × Obj)} {Q : Value → Shared → Prop}

theorem valueAt_put (kvs : List (Int × Value)) (k k' : Int) (v : Value) : valueAt (stored kvs k v) k' = if k' = k then some v else valueAt kvs k' := by
  unfold stored valueAt
  induction kvs with
  | nil =>
    by_cases e : k' = k
    · subst e; simp
    · have : ¬ k = k' := fun z => e z.symm
      simp [e, this]
  | cons p r ih =>
    obtain ⟨a, b⟩ := p
    by_cases h1 : a = k
    · subst h1
      by_cases e : k' = a
      · subst e; simp
      · have e' : ¬ a = k' := fun z => e z.symm
        simp only [List.any_cons, decide_true, Bool.true_or, if_true, List.map_cons, List.find?_cons, e', decide_false, e, if_false]
        clear ih
        congr 1
        induction r with
        | nil => rfl
        | cons q r ih =>
          obtain ⟨c, d⟩ := q
          by_cases h2 : c = a
          · subst h2
            simp only [List.map_cons, if_true, List.find?_cons, e', decide_false]
            exact ih
          · simp only [List.map_cons, h2, if_false, List.find?_cons]
            by_cases h3 : c = k'
            · simp [h3]
            · simp only [h3, decide_false]; exact ih
    · have h1' : decide (a = k) = false := by simp [h1]
      simp only [List.any_cons, h1', Bool.false_or] at ih ⊢
      by_cases hany : (r.any fun kv => decide (kv.1 = k)) = true
      · rw [if_pos hany] at ih ⊢
        simp only [List.map_cons, h1, if_false, List.find?_cons]
        by_cases h3 : a = k'
        · subst h3; simp [h1]
        · simp only [h3, decide_false]; exact ih
      · rw [if_neg hany] at ih ⊢
        simp only [List.cons_append, List.find?_cons]
        by_cases h3 : a = k'
        · subst h3; simp [h1]
        · simp only [h3, decide_false]; exact ih

theorem stored_len_same (kvs : List (Int × Value)) (k : Int) (v v' : Value) : (stored kvs k v).length = (stored kvs k v').length := by
  unfold stored
  split <;> simp

theorem hits_of {A : Around} {s : Shared} {kb : List (Int × Value)} : ∀ {ka : List (Int × Value)}, (∀ k v, (k, v) ∈ ka → ∃ y, valueAt kb k = some y ∧ SeqAt.EqAt A s v y true) → KeqHits A s kb ka true
  | [], _ => .nil
  | (k, v) :: r, h => by
    obtain ⟨y, h1, h2⟩ := h k v (.head _)
    exact .hit (b := true) h1 h2 (hits_of fun k v hm => h k v (.tail _ hm))

theorem valueAt_mem {kvs : List (Int × Value)} (hn : (kvs.map (·.1)).Nodup) {k : Int} {v : Value} (hm : (k, v) ∈ kvs) : valueAt kvs k = some v := by
  obtain ⟨i, hi⟩ := List.getElem?_of_mem hm
  exact valueAt_of_get hn hi

/-- two dicts of the same entries -/
theorem dict_same {d1 d2 : Addr} {o1 o2 : Obj} {kvs : List (Int × Value)} (N : News h₀ L s.heap news) (m1 : (d1, o1) ∈ news) (m2 : (d2, o2) ∈ news)
    (h1 : o1.IsDictOf (intKind prog w) kvs) (h2 : o2.IsDictOf (intKind prog w) kvs) (lo1 : (d1 == sysModules) = false) (lo2 : (d2 == sysModules) = false) (hu : A.units < cLine) (h : Q (.bool true) s) :
    wpAny (model prog w) A (compareOp .Eq (.ref d1) (.ref d2)) Q E s := by
  have D1 := Heap.dictOf_iff.mpr ⟨_, (N _ m1).1, h1⟩
  have D2 := Heap.dictOf_iff.mpr ⟨_, (N _ m2).1, h2⟩
  obtain ⟨_, _, _, _, _, _, hn⟩ := h1
  refine keq_eq (r := true) lo1 lo2 D1 D2 hu (fun _ => hits_of fun k v hm => ⟨v, valueAt_mem hn hm, SeqAt.EqAt.same v⟩) ?_
  simpa using h

/-- two dicts of the same entries, the last int of which is another token -/
theorem dict_same_put {d1 d2 : Addr} {o1 o2 : Obj} {kvs : List (Int × Value)} {k i : Int} {t u : Tok} (N : News h₀ L s.heap news) (m1 : (d1, o1) ∈ news) (m2 : (d2, o2) ∈ news)
    (h1 : o1.IsDictOf (intKind prog w) (stored kvs k (.int i t))) (h2 : o2.IsDictOf (intKind prog w) (stored kvs k (.int i u))) (lo1 : (d1 == sysModules) = false) (lo2 : (d2 == sysModules) = false) (hu : A.units < cLine) (h : Q (.bool true) s) :
    wpAny (model prog w) A (compareOp .Eq (.ref d1) (.ref d2)) Q E s := by
  have D1 := Heap.dictOf_iff.mpr ⟨_, (N _ m1).1, h1⟩
  have D2 := Heap.dictOf_iff.mpr ⟨_, (N _ m2).1, h2⟩
  obtain ⟨_, _, _, _, _, _, hn⟩ := h1
  refine keq_eq (r := true) lo1 lo2 D1 D2 hu (fun _ => hits_of fun k' v hm => ?_) ?_
  · have e := valueAt_mem hn hm
    rw [valueAt_put] at e
    rw [valueAt_put]
    by_cases hk : k' = k
    · rw [if_pos hk] at e ⊢
      cases e
      refine ⟨_, rfl, ?_⟩
      have := SeqAt.EqAt.int_int (A := A.in1) (s := s) i t i u
      rwa [beq_self_eq_true] at this
    · rw [if_neg hk] at e ⊢
      exact ⟨v, e, SeqAt.EqAt.same v⟩
  · rw [stored_len_same kvs k (.int i t) (.int i u)]
    simpa using h
end
end

-- Put
section
open PySem PySem.W PyProof.Rows PySem.Calls
set_option maxRecDepth 100000

theorem rows_put : True := by
  k_with_none
  k_with "mine and" => (first | (with_reducible exact And.left) | ((with_reducible refine andR ?_); first | (with_reducible exact id) | k_extra "mine and"))
  k_with "mine lt1" => (first | (with_reducible assumption) | ((with_reducible refine' viaC ?zvh ?zvk); (case zvh => with_reducible assumption); (case zvk => k_extra "mine and")))
  k_with "mine lt2" => (first | k_extra "mine lt1" | ((with_reducible refine' ltLit ?zlh ?zlk); (case zlh => with_reducible assumption); (case zlk => exact rfl)))
  k_with "mine lt3" => (first | k_extra "mine lt2" | ((with_reducible refine' ltT ?zth ?ztk); (case zth => with_reducible assumption); (case ztk => first | k_extra "mine lt2" | ((with_reducible refine' ltT ?zuh ?zuk); (case zuh => with_reducible assumption); (case zuk => k_extra "mine lt2")))) | ((with_reducible refine lt_dn ?_); first | k_extra "mine lt1" | ((with_reducible refine lt_dn ?_); first | k_extra "mine lt1" | ((with_reducible refine lt_dn ?_); first | k_extra "mine lt1" | ((with_reducible refine lt_dn ?_); first | k_extra "mine lt1" | ((with_reducible refine lt_dn ?_); k_extra "mine lt1"))))))
  k_with "mine lt" => (first | (with_reducible exact lt_one) | ((with_reducible show _ < _ + _); (with_reducible refine lt_up ?_); k_extra "mine lt") | ((fail_if_success (with_reducible show _ < _ + _)); k_extra "mine lt3"))
  k_with "mine ne0" => (first | (with_reducible assumption) | (with_reducible exact Ne.symm (by with_reducible assumption)) | (exact neLits rfl) | ((with_reducible refine Nat.ne_of_gt ?_); k_extra "mine lt") | ((with_reducible refine Nat.ne_of_lt ?_); k_extra "mine lt"))
  k_with "mine ne" => ((try dsimp only); (first | k_extra "mine ne0" | k_extra "mine omegaF"))
  k_with "mine rm" => (first | (with_reducible exact room0 (by with_reducible assumption)) | ((with_reducible refine' roomLe ?zrh ?zrk); (case zrh => with_reducible assumption); (case zrk => exact rfl)) | ((with_reducible refine roomS ?_); k_extra "mine rm"))
  k_with "mine le" => (first | (exact leLits rfl) | ((with_reducible refine' leLit ?zmh ?zmk); (case zmh => with_reducible assumption); (case zmk => exact rfl)) | ((with_reducible refine Nat.le_of_lt ?_); k_extra "mine lt"))
  k_with "mine lg" => (first | (exact ltLits rfl) | k_extra "mine rm" | ((with_reducible refine' ltOf ?znh ?znk); (case znh => with_reducible assumption); (case znk => exact rfl)) | k_extra "mine lt")
  k_with "mine ill" => (first | (with_reducible assumption) | decide | ((with_reducible refine' intLtLt ?zi1h ?zi1k); (case zi1h => with_reducible assumption); (case zi1k => decide)) | ((with_reducible refine' intLeLt ?zi2h ?zi2k); (case zi2h => with_reducible assumption); (case zi2k => decide)) | ((with_reducible refine' intRoom ?zi3h ?zi3k); (case zi3h => with_reducible assumption); (case zi3k => decide)) | ((with_reducible refine' intAddLt ?zi4h ?zi4k); (case zi4h => with_reducible assumption); (case zi4k => decide)) | ((with_reducible refine intS ?_); k_extra "mine ill"))
  k_with "mine ile" => (first | (with_reducible assumption) | decide | ((with_reducible refine intNn ?_); k_extra "mine ile") | ((with_reducible refine' intLtLe ?zi5h ?zi5k); (case zi5h => with_reducible assumption); (case zi5k => decide)) | ((with_reducible refine' intLeLe ?zi6h ?zi6k); (case zi6h => with_reducible assumption); (case zi6k => decide)) | ((with_reducible refine' intGeGe ?zi7h ?zi7k); (case zi7h => with_reducible assumption); (case zi7k => decide)) | ((with_reducible refine' intAddLe ?zi8h ?zi8k); (case zi8h => with_reducible assumption); (case zi8k => decide)) | ((with_reducible refine' intAddGe ?zi9h ?zi9k); (case zi9h => with_reducible assumption); (case zi9k => decide)) | ((with_reducible refine' intSubGe ?zi10h ?zi10k); (case zi10h => with_reducible assumption); (case zi10k => decide)) | ((with_reducible refine' intSubLe ?zi11h ?zi11k); (case zi11h => with_reducible assumption); (case zi11k => decide)))
  k_with "mine omegaF" => (first | ((repeat ((with_reducible rename _ ∧ _ => kz); clear kz)); (repeat ((with_reducible rename _ ≠ _ => kz); clear kz)); omega (config := {})) | omega (config := {}))
  k_with "mine omega" => (first | (with_reducible assumption) | ((with_reducible show @Ne Nat _ _); k_extra "mine ne0") | ((with_reducible show @LT.lt Nat _ _ _); k_extra "mine lg") | ((with_reducible show @LE.le Nat _ _ _); k_extra "mine le") | ((with_reducible show @LT.lt Int _ _ _); k_extra "mine ill") | ((with_reducible show @LE.le Int _ _ _); k_extra "mine ile") | ((with_reducible refine' ⟨?zoa, ?zob⟩); (case zoa => k_extra "mine ile"); (case zob => k_extra "mine ile")) | k_extra "mine omegaF")
  k_with "mine all" => first | ((with_reducible refine' List.forall_mem_cons.mpr ⟨?z132_a, ?z132_b⟩); (case z132_a => k_ne); (case z132_b => k_all)) | (with_reducible exact List.forall_mem_nil _) | (with_reducible assumption)
  k_with "mine mem" => first | (with_reducible exact List.Mem.head _) | (with_reducible assumption) | ((with_reducible refine' List.Mem.tail _ ?_); k_mem) | assumption
  k_with "mine room" => ktr_room
  k_with "eval Name" => (k_here; k_dflt (first | ((refine' nameX_L ?z135_F ?z135_v ?_ ?z135_a ?z135_b); (case z135_F => k_asm); (case z135_a => rfl); (case z135_b => rfl); (case z135_v => rfl); k_whole) | ((refine' nameX_F ?z135_N ?z135_c ?z135_m ?z135_d ?_ ?z135_a ?z135_b); (case z135_N => k_asm); (case z135_a => rfl); (case z135_b => rfl); (case z135_c => rfl); (case z135_m => k_mem); (case z135_d => k_asm); k_whole) | ((refine' nameX_K ?z135_F ?z135_X ?z135_T ?z135_e ?_ ?z135_a ?z135_b); (case z135_F => k_asm); (case z135_a => rfl); (case z135_b => rfl); (case z135_X => k_asm); (case z135_T => k_asm);  (case z135_e => k_is); k_whole)))
  k_with "setItem ref int" => (k_here; k_dflt (refine' kda_set (knd := intKind _ _) ?z136_F ?z136_N ?z136_U ?z136_d (intKind_is _ _ _ _) ?z136_z ?_; (case z136_F => k_asm); (case z136_N => k_asm); (case z136_U => k_updF); (case z136_d => assumption); (case z136_z => rw [sizeLine_eq]; omega)); intro _ _ _; intro N'; (try dsimp only at N'); revert N'; intro _; intro _)
  k_with "my enterN" => (refine' code_nest ?z137_k1 ?z137_k2 ?z137_k3 ?z137_k4 ?z137_k5 ?z137_kA ?z137_kF ?z137_kK ?z137_k6 ?z137_k7 ?z137_k8 ?z137_k9 ?z137_kB ?_ ?z137_c2 ?z137_c3 ?z137_c4 ?z137_c5; (case z137_kA => exact rfl); (case z137_kF => exact rfl); (case z137_kK => assumption); (case z137_k1 => k_asm); (case z137_k2 => k_asm); (case z137_k3 => k_asm); (case z137_k4 => k_asm); (case z137_k5 => k_asm); (case z137_k6 => k_mem); (case z137_k7 => exact codeRec_news (by k_asm) (by k_mem) (by assumption) (by assumption)); (case z137_k8 => ktr_room); (case z137_k9 => exact BindsTo.of_eq rfl); (case z137_c5 => decide); (case z137_kB => exact locs rfl); (case z137_c2 => exact rfl); (case z137_c3 => exact rfl); (case z137_c4 => exact rfl); k_whole; walk_at "my tail1")
  exact True.intro

set_option maxHeartbeats 2000000 in
theorem put_ok {w : World} {p : Program} {loose : List Str} {mean : ExcName → Option Value} {mg mb : Str → Option Value} {pf pc cb bk : Addr} {pco oBk : Obj} {pvs : Array Value} {pt : Tok} {pct pdc pm : Value} {qual : Str} {q1 q2 q3 q4 q5 q6 q7 : Pos}
    (pd1 : pco.data = .fields pvs) (pd2 : pvs[1]? = some (.str qual pt)) (dBk : oBk.data = .cell (some (.ref bk))) :
    PutOk w p loose mean mg mb pf bk [(pf, fnMade (Str.ofString "put") qual { posonlyargs := [], args := [{ arg := Str.ofString "number", annotation := none, pos := q1 }, { arg := Str.ofString "value", annotation := none, pos := q2 }], vararg := none, kwonlyargs := [], kw_defaults := [], kwarg := none, defaults := [] }
      [.Assign [.Subscript (.Name (Str.ofString "book") q3) (.Name (Str.ofString "number") q4) q5] (.Name (Str.ofString "value") q6) q7]
      { kind := .function, names := [(Str.ofString "number", .local), (Str.ofString "value", .local), (Str.ofString "book", .free)], isGenerator := false, isCoroutine := false }
      [(Str.ofString "book", cb)] pdc pm pc pct), (pc, pco), (cb, oBk)] := by
  intro rest ob kvs k t v hex hbk hO hl
  have m1 := hex _ (.head _)
  have m2 := hex _ (.tail _ (.head _))
  have m3 := hex _ (.tail _ (.tail _ (.head _)))
  unfold Does
  intro dp un gd cn cs a ccd cl outer A₀ base h₀ L m s Q E B F X N T hck hdp hu hok hexc
  revert X; k_fill; intro X
  refine wpAny_call ?_
  k_dflt (walk_at "my enterN")
  k_steps
  rename_i h7 o7 F7 N7 hd7 kF kN _ _
  exact hok _ _ _ _ ⟨rfl, o7, hd7, rfl⟩ kF kN
end

-- LamP
section
open PySem PySem.W PyProof.Rows PySem.Calls
set_option maxRecDepth 100000

theorem rows_lamp : True := by
  k_with_none
  k_with "mine and" => (first | (with_reducible exact And.left) | ((with_reducible refine andR ?_); first | (with_reducible exact id) | k_extra "mine and"))
  k_with "mine lt1" => (first | (with_reducible assumption) | ((with_reducible refine' viaC ?zvh ?zvk); (case zvh => with_reducible assumption); (case zvk => k_extra "mine and")))
  k_with "mine lt2" => (first | k_extra "mine lt1" | ((with_reducible refine' ltLit ?zlh ?zlk); (case zlh => with_reducible assumption); (case zlk => exact rfl)))
  k_with "mine lt3" => (first | k_extra "mine lt2" | ((with_reducible refine' ltT ?zth ?ztk); (case zth => with_reducible assumption); (case ztk => first | k_extra "mine lt2" | ((with_reducible refine' ltT ?zuh ?zuk); (case zuh => with_reducible assumption); (case zuk => k_extra "mine lt2")))) | ((with_reducible refine lt_dn ?_); first | k_extra "mine lt1" | ((with_reducible refine lt_dn ?_); first | k_extra "mine lt1" | ((with_reducible refine lt_dn ?_); first | k_extra "mine lt1" | ((with_reducible refine lt_dn ?_); first | k_extra "mine lt1" | ((with_reducible refine lt_dn ?_); k_extra "mine lt1"))))))
  k_with "mine lt" => (first | (with_reducible exact lt_one) | ((with_reducible show _ < _ + _); (with_reducible refine lt_up ?_); k_extra "mine lt") | ((fail_if_success (with_reducible show _ < _ + _)); k_extra "mine lt3"))
  k_with "mine ne0" => (first | (with_reducible assumption) | (with_reducible exact Ne.symm (by with_reducible assumption)) | (exact neLits rfl) | ((with_reducible refine Nat.ne_of_gt ?_); k_extra "mine lt") | ((with_reducible refine Nat.ne_of_lt ?_); k_extra "mine lt"))
  k_with "mine ne" => ((try dsimp only); (first | k_extra "mine ne0" | k_extra "mine omegaF"))
  k_with "mine rm" => (first | (with_reducible exact room0 (by with_reducible assumption)) | ((with_reducible refine' roomLe ?zrh ?zrk); (case zrh => with_reducible assumption); (case zrk => exact rfl)) | ((with_reducible refine roomS ?_); k_extra "mine rm"))
  k_with "mine le" => (first | (exact leLits rfl) | ((with_reducible refine' leLit ?zmh ?zmk); (case zmh => with_reducible assumption); (case zmk => exact rfl)) | ((with_reducible refine Nat.le_of_lt ?_); k_extra "mine lt"))
  k_with "mine lg" => (first | (exact ltLits rfl) | k_extra "mine rm" | ((with_reducible refine' ltOf ?znh ?znk); (case znh => with_reducible assumption); (case znk => exact rfl)) | k_extra "mine lt")
  k_with "mine ill" => (first | (with_reducible assumption) | decide | ((with_reducible refine' intLtLt ?zi1h ?zi1k); (case zi1h => with_reducible assumption); (case zi1k => decide)) | ((with_reducible refine' intLeLt ?zi2h ?zi2k); (case zi2h => with_reducible assumption); (case zi2k => decide)) | ((with_reducible refine' intRoom ?zi3h ?zi3k); (case zi3h => with_reducible assumption); (case zi3k => decide)) | ((with_reducible refine' intAddLt ?zi4h ?zi4k); (case zi4h => with_reducible assumption); (case zi4k => decide)) | ((with_reducible refine intS ?_); k_extra "mine ill"))
  k_with "mine ile" => (first | (with_reducible assumption) | decide | ((with_reducible refine intNn ?_); k_extra "mine ile") | ((with_reducible refine' intLtLe ?zi5h ?zi5k); (case zi5h => with_reducible assumption); (case zi5k => decide)) | ((with_reducible refine' intLeLe ?zi6h ?zi6k); (case zi6h => with_reducible assumption); (case zi6k => decide)) | ((with_reducible refine' intGeGe ?zi7h ?zi7k); (case zi7h => with_reducible assumption); (case zi7k => decide)) | ((with_reducible refine' intAddLe ?zi8h ?zi8k); (case zi8h => with_reducible assumption); (case zi8k => decide)) | ((with_reducible refine' intAddGe ?zi9h ?zi9k); (case zi9h => with_reducible assumption); (case zi9k => decide)) | ((with_reducible refine' intSubGe ?zi10h ?zi10k); (case zi10h => with_reducible assumption); (case zi10k => decide)) | ((with_reducible refine' intSubLe ?zi11h ?zi11k); (case zi11h => with_reducible assumption); (case zi11k => decide)))
  k_with "mine omegaF" => (first | ((repeat ((with_reducible rename _ ∧ _ => kz); clear kz)); (repeat ((with_reducible rename _ ≠ _ => kz); clear kz)); omega (config := {})) | omega (config := {}))
  k_with "mine omega" => (first | (with_reducible assumption) | ((with_reducible show @Ne Nat _ _); k_extra "mine ne0") | ((with_reducible show @LT.lt Nat _ _ _); k_extra "mine lg") | ((with_reducible show @LE.le Nat _ _ _); k_extra "mine le") | ((with_reducible show @LT.lt Int _ _ _); k_extra "mine ill") | ((with_reducible show @LE.le Int _ _ _); k_extra "mine ile") | ((with_reducible refine' ⟨?zoa, ?zob⟩); (case zoa => k_extra "mine ile"); (case zob => k_extra "mine ile")) | k_extra "mine omegaF")
  k_with "mine all" => first | ((with_reducible refine' List.forall_mem_cons.mpr ⟨?z89_a, ?z89_b⟩); (case z89_a => k_ne); (case z89_b => k_all)) | (with_reducible exact List.forall_mem_nil _) | (with_reducible assumption)
  k_with "mine mem" => first | (with_reducible exact List.Mem.head _) | (with_reducible assumption) | ((with_reducible refine' List.Mem.tail _ ?_); k_mem) | assumption
  k_with "mine room" => ktr_room
  k_with "callWith ref" => (k_here; k_dflt (refine' callWith_K ?z92_k1 ?z92_k2 ?_; (case z92_k1 => k_in); (case z92_k2 => k_is); k_whole))
  k_with "eval Name" => (k_here; k_dflt (first | ((refine' nameX_L ?z93_F ?z93_v ?_ ?z93_a ?z93_b); (case z93_F => k_asm); (case z93_a => rfl); (case z93_b => rfl); (case z93_v => rfl); k_whole) | ((refine' nameX_F ?z93_N ?z93_c ?z93_m ?z93_d ?_ ?z93_a ?z93_b); (case z93_N => k_asm); (case z93_a => rfl); (case z93_b => rfl); (case z93_c => rfl); (case z93_m => k_mem); (case z93_d => k_asm); k_whole) | ((refine' nameX_K ?z93_F ?z93_X ?z93_T ?z93_e ?_ ?z93_a ?z93_b); (case z93_F => k_asm); (case z93_a => rfl); (case z93_b => rfl); (case z93_X => k_asm); (case z93_T => k_asm);  (case z93_e => k_is); k_whole)))
  k_with "getAttr ref" => (k_here; k_dflt (refine' getattr_get ?z94_gaF ?z94_gaN ?z94_gaM ?z94_gaO ?_; (case z94_gaF => k_asm); (case z94_gaN => k_asm); (case z94_gaM => k_mem); (case z94_gaO => assumption)); intro _ _ _ _ _ _)
  k_with "call ref" => (k_here; k_dflt (refine halt ?_))
  k_with "my enterL" => (refine' kla_code ?z96_k1 ?z96_k2 ?z96_k3 ?z96_k4 ?z96_k5 ?z96_kA ?z96_kF ?z96_kK ?z96_k6 ?z96_k7 ?z96_k8 ?z96_k9 ?z96_kB ?_ ?z96_c2 ?z96_c3 ?z96_c4 ?z96_c5; (case z96_kA => exact rfl); (case z96_kF => exact rfl); (case z96_kK => assumption); (case z96_k1 => k_asm); (case z96_k2 => k_asm); (case z96_k3 => k_asm); (case z96_k4 => k_asm); (case z96_k5 => k_asm); (case z96_k6 => k_mem); (case z96_k7 => exact codeRec_news (by k_asm) (by k_mem) (by assumption) (by assumption)); (case z96_k8 => ktr_room); (case z96_k9 => exact rfl); (case z96_c5 => decide); (case z96_kB => exact locs rfl); (case z96_c2 => exact rfl); (case z96_c3 => exact rfl); (case z96_c4 => exact rfl); k_whole; walk_at "my tail1")
  exact True.intro

set_option maxHeartbeats 2000000 in
theorem lam_put {w : World} {p : Program} {loose : List Str} {mean : ExcName → Option Value} {mg mb : Str → Option Value} {lf lc bk sn pf tf ca cb cd cc cp : Addr} {lco ob oAt oBk oBd oCt oPt opf otf : Obj} {lvs : Array Value} {lt tb ta : Tok} {lct pm : Value} {qual : Str} {q1 q2 q3 q4 q5 q6 q7 q8 q9 : Pos}
    {OT exP exT : List (Addr × Obj)} {kvs : List (Int × Value)} {border at_ left : Int} {n c0 : Nat}
    (hP : PutOk w p loose mean mg mb pf bk exP) (hT : TickOk w p loose mean mg mb tf sn left exT) (hxP : ∀ q ∈ exP, q ∈ OT) (hxT : ∀ q ∈ exT, q ∈ OT) (mpf : (pf, opf) ∈ OT) (hpk : Keeps opf) (mtf : (tf, otf) ∈ OT) (htk : Keeps otf)
    (hbr : ∀ q ∈ OT, q.1 ≠ bk) (hsr : ∀ q ∈ OT, q.1 ≠ sn) (hbs : @LT.lt Nat _ sn bk) (hO : ob.IsDictOf (intKind PySem.Challenge.rw_pq0674_01.row.prog w) kvs) (hlen : kvs.length ≤ 100) (hn : n = (max (border + 1) at_ - at_).toNat) (hn2 : n ≤ 500) (hlo : (bk == sysModules) = false) (hl0 : 0 ≤ left) (hl1 : left ≤ 500)
    (mlc : (lc, lco) ∈ OT) (ld1 : lco.data = .fields lvs) (ld2 : lvs[1]? = some (.str qual lt))
    (mca : (ca, oAt) ∈ OT) (dAt : oAt.data = .cell (some (.int at_ ta))) (mcb : (cb, oBk) ∈ OT) (dBk : oBk.data = .cell (some (.ref bk))) (mcd : (cd, oBd) ∈ OT) (dBd : oBd.data = .cell (some (.int border tb)))
    (mcc : (cc, oCt) ∈ OT) (dCt : oCt.data = .cell (some (.ref tf))) (mcp : (cp, oPt) ∈ OT) (dPt : oPt.data = .cell (some (.ref pf)))
    (mlf : (lf, kla_obj (Str.ofString "<lambda>") qual { posonlyargs := [], args := [], vararg := none, kwonlyargs := [], kw_defaults := [], kwarg := none, defaults := [] }
      (.Call (.Name (Str.ofString "insert_at") q1) [.Attribute (.Name (Str.ofString "book") q2) (Str.ofString "get") q3, .Name (Str.ofString "put") q4, .Name (Str.ofString "border") q5, .Name (Str.ofString "at") q6, .Constant (.int 99) 0 q7, .Name (Str.ofString "count") q8] [] q9)
      { kind := .function, names := [(Str.ofString "at", .free), (Str.ofString "book", .free), (Str.ofString "border", .free), (Str.ofString "count", .free), (Str.ofString "put", .free), (Str.ofString "insert_at", .globalImplicit)], isGenerator := false, isCoroutine := false }
      [(Str.ofString "put", cp), (Str.ofString "count", cc), (Str.ofString "border", cd), (Str.ofString "book", cb), (Str.ofString "at", ca)] pm lc lct) ∈ OT) :
    Does w p loose mean mg mb (.ref lf) [] 14 ((bk, ob) :: (sn, W.listOf #[] c0) :: OT)
      (fun v nw => (n : Int) ≤ left ∧ ∃ ob' ws' c' tv, ob'.IsDictOf (intKind PySem.Challenge.rw_pq0674_01.row.prog w) (stored (mvs (-1) kvs (downs at_ n)) at_ (.int 99 tv)) ∧ ws'.length = n ∧ nw = (bk, ob') :: (sn, W.listOf (List.toArray ws') c') :: OT)
      (fun nw => left < n ∧ ∃ ob' ws' c', ob'.IsDictOf (intKind PySem.Challenge.rw_pq0674_01.row.prog w) (mvs (-1) kvs ((downs at_ n).take left.toNat)) ∧ (ws'.length : Int) = left + 1 ∧ nw = (bk, ob') :: (sn, W.listOf (List.toArray ws') c') :: OT) := by
  unfold Does
  intro dp un gd cn cs a ccd cl outer A₀ base h₀ L m s Q E B F X N T hck hdp hu hok hexc
  revert X; k_fill; intro X
  refine wpAny_call ?_
  k_dflt (walk_at "my enterL")
  k_steps
  rename_i g1 L1 h1 FG1 F1 N1 B1 X1 T1 x1 h2 tk2 F2 N2 l1
  clear F1 N1
  unfold Halt
  have hxb : x1 ≠ bk := Nat.ne_of_gt (l1 _ (.head _))
  have hxs : x1 ≠ sn := Nat.ne_of_gt (l1 _ (.tail _ (.head _)))
  have hdown : ∀ (ob' : Obj) (os' : Obj), ∀ p ∈ (bk, ob') :: (sn, os') :: OT, p ∈ (bk, ob') :: (sn, os') :: (x1, getO bk) :: OT := fun ob' os' p hp => by
    rcases List.mem_cons.mp hp with rfl | hp
    · exact .head _
    rcases List.mem_cons.mp hp with rfl | hp
    · exact .tail _ (.head _)
    · exact .tail _ (.tail _ (.tail _ hp))
  refine insert_spec (g := x1) (n := n) (c0 := c0) (rest := (x1, getO bk) :: OT) hP hT (fun q hq => .tail _ (hxP q hq)) (fun q hq => .tail _ (hxT q hq)) (.head _) (.tail _ mpf) hpk (.tail _ mtf) htk ?_ ?_ (Nat.ne_of_gt hbs) hO hlen hn hn2 hlo hl0 hl1
    _ _ _ _ _ _ _ _ _ _ base g1 L1 _ _ _ _ B1 F2 X1 (news_sub N2 ?_) T1 rfl (by ktr_room) (by ktr_units) ?_ ?_
  · intro q hq
    rcases List.mem_cons.mp hq with rfl | hq
    · exact hxb
    · exact hbr q hq
  · intro q hq
    rcases List.mem_cons.mp hq with rfl | hq
    · exact hxs
    · exact hsr q hq
  · intro p hp
    rcases List.mem_cons.mp hp with rfl | hp
    · exact .tail _ (.head _)
    rcases List.mem_cons.mp hp with rfl | hp
    · exact .tail _ (.tail _ (.head _))
    rcases List.mem_cons.mp hp with rfl | hp
    · exact .head _
    · exact .tail _ (.tail _ (.tail _ hp))
  · rintro v nw h3 tk3 ⟨rfl, hle, ob', ws', c', hO', hw, rfl⟩ F3 N3
    clear F2 N2
    k_steps
    rename_i kF kN _ _
    exact hok _ _ _ _ ⟨hle, ob', ws', c', _, hO', hw, rfl⟩ kF (news_sub kN (hdown _ _))
  · rintro e gg h3 tk3 nw ⟨hlt, ob', ws', c', hO', hw, rfl⟩ F3 R3 U3
    refine leave_next B1 rfl F3 R3 U3 fun h6 R6 U6 => ?_
    exact hexc e g1 h6 _ _ ⟨hlt, ob', ws', c', hO', hw, rfl⟩ FG1 (raised_mono (hdown _ _) R6) U6
end

-- LamT
section
open PySem PySem.W PyProof.Rows PySem.Calls
set_option maxRecDepth 100000

theorem rows_lamt : True := by
  k_with_none
  k_with "mine and" => (first | (with_reducible exact And.left) | ((with_reducible refine andR ?_); first | (with_reducible exact id) | k_extra "mine and"))
  k_with "mine lt1" => (first | (with_reducible assumption) | ((with_reducible refine' viaC ?zvh ?zvk); (case zvh => with_reducible assumption); (case zvk => k_extra "mine and")))
  k_with "mine lt2" => (first | k_extra "mine lt1" | ((with_reducible refine' ltLit ?zlh ?zlk); (case zlh => with_reducible assumption); (case zlk => exact rfl)))
  k_with "mine lt3" => (first | k_extra "mine lt2" | ((with_reducible refine' ltT ?zth ?ztk); (case zth => with_reducible assumption); (case ztk => first | k_extra "mine lt2" | ((with_reducible refine' ltT ?zuh ?zuk); (case zuh => with_reducible assumption); (case zuk => k_extra "mine lt2")))) | ((with_reducible refine lt_dn ?_); first | k_extra "mine lt1" | ((with_reducible refine lt_dn ?_); first | k_extra "mine lt1" | ((with_reducible refine lt_dn ?_); first | k_extra "mine lt1" | ((with_reducible refine lt_dn ?_); first | k_extra "mine lt1" | ((with_reducible refine lt_dn ?_); k_extra "mine lt1"))))))
  k_with "mine lt" => (first | (with_reducible exact lt_one) | ((with_reducible show _ < _ + _); (with_reducible refine lt_up ?_); k_extra "mine lt") | ((fail_if_success (with_reducible show _ < _ + _)); k_extra "mine lt3"))
  k_with "mine ne0" => (first | (with_reducible assumption) | (with_reducible exact Ne.symm (by with_reducible assumption)) | (exact neLits rfl) | ((with_reducible refine Nat.ne_of_gt ?_); k_extra "mine lt") | ((with_reducible refine Nat.ne_of_lt ?_); k_extra "mine lt"))
  k_with "mine ne" => ((try dsimp only); (first | k_extra "mine ne0" | k_extra "mine omegaF"))
  k_with "mine rm" => (first | (with_reducible exact room0 (by with_reducible assumption)) | ((with_reducible refine' roomLe ?zrh ?zrk); (case zrh => with_reducible assumption); (case zrk => exact rfl)) | ((with_reducible refine roomS ?_); k_extra "mine rm"))
  k_with "mine le" => (first | (exact leLits rfl) | ((with_reducible refine' leLit ?zmh ?zmk); (case zmh => with_reducible assumption); (case zmk => exact rfl)) | ((with_reducible refine Nat.le_of_lt ?_); k_extra "mine lt"))
  k_with "mine lg" => (first | (exact ltLits rfl) | k_extra "mine rm" | ((with_reducible refine' ltOf ?znh ?znk); (case znh => with_reducible assumption); (case znk => exact rfl)) | k_extra "mine lt")
  k_with "mine ill" => (first | (with_reducible assumption) | decide | ((with_reducible refine' intLtLt ?zi1h ?zi1k); (case zi1h => with_reducible assumption); (case zi1k => decide)) | ((with_reducible refine' intLeLt ?zi2h ?zi2k); (case zi2h => with_reducible assumption); (case zi2k => decide)) | ((with_reducible refine' intRoom ?zi3h ?zi3k); (case zi3h => with_reducible assumption); (case zi3k => decide)) | ((with_reducible refine' intAddLt ?zi4h ?zi4k); (case zi4h => with_reducible assumption); (case zi4k => decide)) | ((with_reducible refine intS ?_); k_extra "mine ill"))
  k_with "mine ile" => (first | (with_reducible assumption) | decide | ((with_reducible refine intNn ?_); k_extra "mine ile") | ((with_reducible refine' intLtLe ?zi5h ?zi5k); (case zi5h => with_reducible assumption); (case zi5k => decide)) | ((with_reducible refine' intLeLe ?zi6h ?zi6k); (case zi6h => with_reducible assumption); (case zi6k => decide)) | ((with_reducible refine' intGeGe ?zi7h ?zi7k); (case zi7h => with_reducible assumption); (case zi7k => decide)) | ((with_reducible refine' intAddLe ?zi8h ?zi8k); (case zi8h => with_reducible assumption); (case zi8k => decide)) | ((with_reducible refine' intAddGe ?zi9h ?zi9k); (case zi9h => with_reducible assumption); (case zi9k => decide)) | ((with_reducible refine' intSubGe ?zi10h ?zi10k); (case zi10h => with_reducible assumption); (case zi10k => decide)) | ((with_reducible refine' intSubLe ?zi11h ?zi11k); (case zi11h => with_reducible assumption); (case zi11k => decide)))
  k_with "mine omegaF" => (first | ((repeat ((with_reducible rename _ ∧ _ => kz); clear kz)); (repeat ((with_reducible rename _ ≠ _ => kz); clear kz)); omega (config := {})) | omega (config := {}))
  k_with "mine omega" => (first | (with_reducible assumption) | ((with_reducible show @Ne Nat _ _); k_extra "mine ne0") | ((with_reducible show @LT.lt Nat _ _ _); k_extra "mine lg") | ((with_reducible show @LE.le Nat _ _ _); k_extra "mine le") | ((with_reducible show @LT.lt Int _ _ _); k_extra "mine ill") | ((with_reducible show @LE.le Int _ _ _); k_extra "mine ile") | ((with_reducible refine' ⟨?zoa, ?zob⟩); (case zoa => k_extra "mine ile"); (case zob => k_extra "mine ile")) | k_extra "mine omegaF")
  k_with "mine all" => first | ((with_reducible refine' List.forall_mem_cons.mpr ⟨?z97_a, ?z97_b⟩); (case z97_a => k_ne); (case z97_b => k_all)) | (with_reducible exact List.forall_mem_nil _) | (with_reducible assumption)
  k_with "mine mem" => first | (with_reducible exact List.Mem.head _) | (with_reducible assumption) | ((with_reducible refine' List.Mem.tail _ ?_); k_mem) | assumption
  k_with "mine room" => ktr_room
  k_with "callWith ref" => (k_here; k_dflt (refine' callWith_K ?z100_k1 ?z100_k2 ?_; (case z100_k1 => k_in); (case z100_k2 => k_is); k_whole))
  k_with "eval Name" => (k_here; k_dflt (first | ((refine' nameX_L ?z101_F ?z101_v ?_ ?z101_a ?z101_b); (case z101_F => k_asm); (case z101_a => rfl); (case z101_b => rfl); (case z101_v => rfl); k_whole) | ((refine' nameX_F ?z101_N ?z101_c ?z101_m ?z101_d ?_ ?z101_a ?z101_b); (case z101_N => k_asm); (case z101_a => rfl); (case z101_b => rfl); (case z101_c => rfl); (case z101_m => k_mem); (case z101_d => k_asm); k_whole) | ((refine' nameX_K ?z101_F ?z101_X ?z101_T ?z101_e ?_ ?z101_a ?z101_b); (case z101_F => k_asm); (case z101_a => rfl); (case z101_b => rfl); (case z101_X => k_asm); (case z101_T => k_asm);  (case z101_e => k_is); k_whole)))
  k_with "getAttr ref" => (k_here; k_dflt (refine' getattr_get ?z102_gaF ?z102_gaN ?z102_gaM ?z102_gaO ?_; (case z102_gaF => k_asm); (case z102_gaN => k_asm); (case z102_gaM => k_mem); (case z102_gaO => assumption)); intro _ _ _ _ _ _)
  k_with "call ref" => (k_here; k_dflt (refine halt ?_))
  k_with "my enterL" => (refine' kla_code ?z104_k1 ?z104_k2 ?z104_k3 ?z104_k4 ?z104_k5 ?z104_kA ?z104_kF ?z104_kK ?z104_k6 ?z104_k7 ?z104_k8 ?z104_k9 ?z104_kB ?_ ?z104_c2 ?z104_c3 ?z104_c4 ?z104_c5; (case z104_kA => exact rfl); (case z104_kF => exact rfl); (case z104_kK => assumption); (case z104_k1 => k_asm); (case z104_k2 => k_asm); (case z104_k3 => k_asm); (case z104_k4 => k_asm); (case z104_k5 => k_asm); (case z104_k6 => k_mem); (case z104_k7 => exact codeRec_news (by k_asm) (by k_mem) (by assumption) (by assumption)); (case z104_k8 => ktr_room); (case z104_k9 => exact rfl); (case z104_c5 => decide); (case z104_kB => exact locs rfl); (case z104_c2 => exact rfl); (case z104_c3 => exact rfl); (case z104_c4 => exact rfl); k_whole; walk_at "my tail1")
  exact True.intro

theorem drop4 {h₀ h : Heap} {L : Addr} {a b c x d : Addr × Obj} {r : List (Addr × Obj)} (N : News h₀ L h (a :: b :: c :: x :: d :: r)) : News h₀ L h (a :: b :: c :: d :: r) := news_sub N fun q hq => by
  simp only [List.mem_cons] at hq ⊢
  rcases hq with h | h | h | h | h <;> simp [h]
theorem drop2 {h₀ h : Heap} {L : Addr} {a x : Addr × Obj} {r : List (Addr × Obj)} (N : News h₀ L h (a :: x :: r)) : News h₀ L h (a :: r) := news_sub N fun q hq => by
  simp only [List.mem_cons] at hq ⊢
  rcases hq with h | h <;> simp [h]

set_option maxHeartbeats 2000000 in
theorem lam_take {w : World} {p : Program} {loose : List Str} {mean : ExcName → Option Value} {mg mb : Str → Option Value} {lf lc bk sn tol pf tf ca cb cd cc cp co : Addr} {lco ob oAt oBk oBd oCt oPt oTo opf otf : Obj} {lvs : Array Value} {lt tb ta : Tok} {lct pm : Value} {qual : Str} {q1 q3 q4 q5 q6 q7 q8 q9 q10 : Pos}
    {OT exP exT : List (Addr × Obj)} {kvs : List (Int × Value)} {border at_ left : Int} {n c0 cT : Nat}
    (hP : PutOk w p loose mean mg mb pf bk exP) (hT : TickOk w p loose mean mg mb tf sn left exT) (hxP : ∀ q ∈ exP, q ∈ OT) (hxT : ∀ q ∈ exT, q ∈ OT) (mpf : (pf, opf) ∈ OT) (hpk : Keeps opf) (mtf : (tf, otf) ∈ OT) (htk : Keeps otf)
    (hbr : ∀ q ∈ OT, q.1 ≠ bk) (hsr : ∀ q ∈ OT, q.1 ≠ sn) (hor : ∀ q ∈ OT, q.1 ≠ tol) (hbs : @LT.lt Nat _ sn tol) (hbo : @LT.lt Nat _ tol bk) (hO : ob.IsDictOf (intKind PySem.Challenge.rw_pq0674_01.row.prog w) kvs) (hlen : kvs.length ≤ 100) (hn2 : n ≤ 500) (hlo : (bk == sysModules) = false) (hl0 : 0 ≤ left) (hl1 : left ≤ 500)
    (hat1 : 1 ≤ at_) (hn : at_ + (n : Int) = border)
    (mlc : (lc, lco) ∈ OT) (ld1 : lco.data = .fields lvs) (ld2 : lvs[1]? = some (.str qual lt))
    (mca : (ca, oAt) ∈ OT) (dAt : oAt.data = .cell (some (.int at_ ta))) (mcb : (cb, oBk) ∈ OT) (dBk : oBk.data = .cell (some (.ref bk))) (mcd : (cd, oBd) ∈ OT) (dBd : oBd.data = .cell (some (.int border tb)))
    (mcc : (cc, oCt) ∈ OT) (dCt : oCt.data = .cell (some (.ref tf))) (mcp : (cp, oPt) ∈ OT) (dPt : oPt.data = .cell (some (.ref pf))) (mco : (co, oTo) ∈ OT) (dTo : oTo.data = .cell (some (.ref tol)))
    (mlf : (lf, kla_obj (Str.ofString "<lambda>") qual { posonlyargs := [], args := [], vararg := none, kwonlyargs := [], kw_defaults := [], kwarg := none, defaults := [] }
      (.Call (.Attribute (.Name (Str.ofString "told") q1) (Str.ofString "append") ⟨95, 41, 95, 52⟩) [.Call (.Name (Str.ofString "remove_at") q10) [.Attribute (.Name (Str.ofString "book") q3) (Str.ofString "get") q4, .Name (Str.ofString "put") q5, .Name (Str.ofString "border") q6, .Name (Str.ofString "at") q7, .Name (Str.ofString "count") q8] [] q9] [] ⟨95, 41, 95, 97⟩)
      { kind := .function, names := [(Str.ofString "at", .free), (Str.ofString "book", .free), (Str.ofString "border", .free), (Str.ofString "count", .free), (Str.ofString "put", .free), (Str.ofString "told", .free), (Str.ofString "remove_at", .globalImplicit)], isGenerator := false, isCoroutine := false }
      [(Str.ofString "told", co), (Str.ofString "put", cp), (Str.ofString "count", cc), (Str.ofString "border", cd), (Str.ofString "book", cb), (Str.ofString "at", ca)] pm lc lct) ∈ OT) :
    Does w p loose mean mg mb (.ref lf) [] 14 ((bk, ob) :: (sn, W.listOf #[] c0) :: (tol, W.listOf #[] cT) :: OT)
      (fun v nw => (n : Int) ≤ left ∧ ∃ D ob' ws' c' cT', ob'.IsDictOf (intKind PySem.Challenge.rw_pq0674_01.row.prog w) (stored (mvs 1 kvs (ups at_ n)) border .none) ∧ ws'.length = n ∧ (∀ q ∈ (bk, ob') :: (sn, W.listOf (List.toArray ws') c') :: (tol, W.listOf #[.ref D] cT') :: OT, q.1 < D) ∧
        nw = (D, { cls := .type "tuple", data := .seq #[.bool true, (valueAt kvs at_).getD .none] }) :: (bk, ob') :: (sn, W.listOf (List.toArray ws') c') :: (tol, W.listOf #[.ref D] cT') :: OT)
      (fun nw => left < n ∧ ∃ ob' ws' c', ob'.IsDictOf (intKind PySem.Challenge.rw_pq0674_01.row.prog w) (mvs 1 kvs ((ups at_ n).take left.toNat)) ∧ (ws'.length : Int) = left + 1 ∧ nw = (bk, ob') :: (sn, W.listOf (List.toArray ws') c') :: (tol, W.listOf #[] cT) :: OT) := by
  unfold Does
  intro dp un gd cn cs a ccd cl outer A₀ base h₀ L m s Q E B F X N T hck hdp hu hok hexc
  revert X; k_fill; intro X
  refine wpAny_call ?_
  k_dflt (walk_at "my enterL")
  k_steps
  rename_i g1 L1 h1 FG1 F1 N1 B1 X1 T1 x1 h2 tk2 F2 N2 l1
  clear F1 N1
  unfold Halt
  have hxb : x1 ≠ bk := Nat.ne_of_gt (l1 _ (.head _))
  have hxs : x1 ≠ sn := Nat.ne_of_gt (l1 _ (.tail _ (.head _)))
  have hxo : @LT.lt Nat _ tol x1 := l1 _ (.tail _ (.tail _ (.head _)))
  refine remove_spec (g := x1) (n := n) (c0 := c0) (rest := (x1, getO bk) :: (tol, W.listOf #[] cT) :: OT) hP hT (fun q hq => .tail _ (.tail _ (hxP q hq))) (fun q hq => .tail _ (.tail _ (hxT q hq))) (.head _) (.tail _ (.tail _ mpf)) hpk (.tail _ (.tail _ mtf)) htk ?_ ?_ (Nat.ne_of_gt (Nat.lt_trans hbs hbo)) hO hlen hn2 hlo hl0 hl1 hat1 hn
    _ _ _ _ _ _ _ _ _ _ base g1 L1 _ _ _ _ B1 F2 X1 (news_sub N2 ?_) T1 rfl (by ktr_room) (by ktr_units) ?_ ?_
  · intro q hq
    rcases List.mem_cons.mp hq with rfl | hq
    · exact hxb
    rcases List.mem_cons.mp hq with rfl | hq
    · exact Nat.ne_of_lt hbo
    · exact hbr q hq
  · intro q hq
    rcases List.mem_cons.mp hq with rfl | hq
    · exact hxs
    rcases List.mem_cons.mp hq with rfl | hq
    · exact Nat.ne_of_gt hbs
    · exact hsr q hq
  · intro p hp
    rcases List.mem_cons.mp hp with rfl | hp
    · exact .tail _ (.head _)
    rcases List.mem_cons.mp hp with rfl | hp
    · exact .tail _ (.tail _ (.head _))
    rcases List.mem_cons.mp hp with rfl | hp
    · exact .head _
    · exact .tail _ (.tail _ (.tail _ hp))
  · rintro v nw h3 tk3 ⟨D, ob', ws', c', rfl, hle, ⟨hDb, hDs, hDr⟩, hO', hw, rfl⟩ F3 N3
    clear F2 N2
    simp only [AllLt] at hDr
    obtain ⟨hDx, hDo, hDO⟩ := hDr
    k_steps
    rename_i kF kN _ _
    have kN2 := drop4 kN
    refine hok _ _ _ _ ?_ kF kN2
    refine ⟨hle, D, ob', ws', c', _, hO', hw, ?_, rfl⟩
    · intro q hq
      rcases List.mem_cons.mp hq with rfl | hq
      · exact hDb
      rcases List.mem_cons.mp hq with rfl | hq
      · exact hDs
      rcases List.mem_cons.mp hq with rfl | hq
      · exact hDo
      · exact ktn_ltOf hDO q hq
  · rintro e gg h3 tk3 nw ⟨hlt, ob', ws', c', hO', hw, rfl⟩ F3 R3 U3
    refine leave_next B1 rfl F3 R3 U3 fun h6 R6 U6 => ?_
    refine hexc e g1 h6 _ _ ⟨hlt, ob', ws', c', hO', hw, rfl⟩ FG1 (raised_mono (fun q hq => ?_) R6) U6
    rcases List.mem_cons.mp hq with rfl | hq
    · exact .head _
    rcases List.mem_cons.mp hq with rfl | hq
    · exact .tail _ (.head _)
    · exact .tail _ (.tail _ (.tail _ hq))

set_option maxHeartbeats 2000000 in
theorem lam_not {w : World} {p : Program} {loose : List Str} {mean : ExcName → Option Value} {mg mb : Str → Option Value} {lf lc bk sn tol pf tf ca cb cd cc cp co : Addr} {lco ob oAt oBk oBd oCt oPt oTo : Obj} {lvs : Array Value} {lt tb ta : Tok} {lct pm : Value} {qual : Str} {q1 q3 q4 q5 q6 q7 q8 q9 q10 : Pos}
    {OT : List (Addr × Obj)} {kvs : List (Int × Value)} {border at_ : Int} {c0 cT : Nat}
    (hbr : ∀ q ∈ OT, q.1 ≠ bk) (hsr : ∀ q ∈ OT, q.1 ≠ sn) (hor : ∀ q ∈ OT, q.1 ≠ tol) (hbs : @LT.lt Nat _ sn tol) (hbo : @LT.lt Nat _ tol bk) (hO : ob.IsDictOf (intKind PySem.Challenge.rw_pq0674_01.row.prog w) kvs)
    (hn : at_ < 1 ∨ border < at_)
    (mlc : (lc, lco) ∈ OT) (ld1 : lco.data = .fields lvs) (ld2 : lvs[1]? = some (.str qual lt))
    (mca : (ca, oAt) ∈ OT) (dAt : oAt.data = .cell (some (.int at_ ta))) (mcb : (cb, oBk) ∈ OT) (dBk : oBk.data = .cell (some (.ref bk))) (mcd : (cd, oBd) ∈ OT) (dBd : oBd.data = .cell (some (.int border tb)))
    (mcc : (cc, oCt) ∈ OT) (dCt : oCt.data = .cell (some (.ref tf))) (mcp : (cp, oPt) ∈ OT) (dPt : oPt.data = .cell (some (.ref pf))) (mco : (co, oTo) ∈ OT) (dTo : oTo.data = .cell (some (.ref tol)))
    (mlf : (lf, kla_obj (Str.ofString "<lambda>") qual { posonlyargs := [], args := [], vararg := none, kwonlyargs := [], kw_defaults := [], kwarg := none, defaults := [] }
      (.Call (.Attribute (.Name (Str.ofString "told") q1) (Str.ofString "append") ⟨95, 41, 95, 52⟩) [.Call (.Name (Str.ofString "remove_at") q10) [.Attribute (.Name (Str.ofString "book") q3) (Str.ofString "get") q4, .Name (Str.ofString "put") q5, .Name (Str.ofString "border") q6, .Name (Str.ofString "at") q7, .Name (Str.ofString "count") q8] [] q9] [] ⟨95, 41, 95, 97⟩)
      { kind := .function, names := [(Str.ofString "at", .free), (Str.ofString "book", .free), (Str.ofString "border", .free), (Str.ofString "count", .free), (Str.ofString "put", .free), (Str.ofString "told", .free), (Str.ofString "remove_at", .globalImplicit)], isGenerator := false, isCoroutine := false }
      [(Str.ofString "told", co), (Str.ofString "put", cp), (Str.ofString "count", cc), (Str.ofString "border", cd), (Str.ofString "book", cb), (Str.ofString "at", ca)] pm lc lct) ∈ OT) :
    Does w p loose mean mg mb (.ref lf) [] 14 ((bk, ob) :: (sn, W.listOf #[] c0) :: (tol, W.listOf #[] cT) :: OT)
      (fun v nw => ∃ D cT', (∀ q ∈ (bk, ob) :: (sn, W.listOf #[] c0) :: (tol, W.listOf #[.ref D] cT') :: OT, q.1 < D) ∧
        nw = (D, { cls := .type "tuple", data := .seq #[.bool false, .none] }) :: (bk, ob) :: (sn, W.listOf #[] c0) :: (tol, W.listOf #[.ref D] cT') :: OT)
      (fun _ => False) := by
  unfold Does
  intro dp un gd cn cs a ccd cl outer A₀ base h₀ L m s Q E B F X N T hck hdp hu hok hexc
  revert X; k_fill; intro X
  refine wpAny_call ?_
  k_dflt (walk_at "my enterL")
  k_steps
  rename_i g1 L1 h1 FG1 F1 N1 B1 X1 T1 x1 h2 tk2 F2 N2 l1
  clear F1 N1
  unfold Halt
  have hxb : x1 ≠ bk := Nat.ne_of_gt (l1 _ (.head _))
  have hxs : x1 ≠ sn := Nat.ne_of_gt (l1 _ (.tail _ (.head _)))
  have hxo : @LT.lt Nat _ tol x1 := l1 _ (.tail _ (.tail _ (.head _)))
  refine remove_not (g := x1) (news := (x1, getO bk) :: (bk, ob) :: (sn, W.listOf #[] c0) :: (tol, W.listOf #[] cT) :: OT) hn
    _ _ _ _ _ _ _ _ _ _ base g1 L1 _ _ _ _ B1 F2 X1 N2 T1 rfl (by ktr_room) (by ktr_units) ?_ ?_
  · rintro v nw h3 tk3 ⟨D, rfl, hD, rfl⟩ F3 N3
    clear F2 N2
    have hDb : @LT.lt Nat _ bk D := hD _ (.tail _ (.head _))
    have hDs : @LT.lt Nat _ sn D := hD _ (.tail _ (.tail _ (.head _)))
    have hDo : @LT.lt Nat _ tol D := hD _ (.tail _ (.tail _ (.tail _ (.head _))))
    have hDO : ∀ q ∈ OT, @LT.lt Nat _ q.1 D := fun q hq => hD _ (.tail _ (.tail _ (.tail _ (.tail _ hq))))
    clear hD
    k_steps
    rename_i kF kN _ _
    have kN2 := drop2 kN
    refine hok _ _ _ _ ?_ kF kN2
    refine ⟨D, _, ?_, rfl⟩
    intro q hq
    rcases List.mem_cons.mp hq with rfl | hq
    · exact hDb
    rcases List.mem_cons.mp hq with rfl | hq
    · exact hDs
    rcases List.mem_cons.mp hq with rfl | hq
    · exact hDo
    · exact hDO q hq
  · rintro _ _ _ _ _ hf
    exact hf.elim
end

-- PCom
section
open PySem PySem.W PyProof.Rows PySem.Calls
theorem rows_pcom : True := by
  k_with_none
  k_with "mine and" => (first | (with_reducible exact And.left) | ((with_reducible refine andR ?_); first | (with_reducible exact id) | k_extra "mine and"))
  k_with "mine lt1" => (first | (with_reducible assumption) | ((with_reducible refine' viaC ?zvh ?zvk); (case zvh => with_reducible assumption); (case zvk => k_extra "mine and")))
  k_with "mine lt2" => (first | k_extra "mine lt1" | ((with_reducible refine' ltLit ?zlh ?zlk); (case zlh => with_reducible assumption); (case zlk => exact rfl)))
  k_with "mine lt3" => (first | k_extra "mine lt2" | ((with_reducible refine' ltT ?zth ?ztk); (case zth => with_reducible assumption); (case ztk => first | k_extra "mine lt2" | ((with_reducible refine' ltT ?zuh ?zuk); (case zuh => with_reducible assumption); (case zuk => k_extra "mine lt2")))) | ((with_reducible refine lt_dn ?_); first | k_extra "mine lt1" | ((with_reducible refine lt_dn ?_); first | k_extra "mine lt1" | ((with_reducible refine lt_dn ?_); first | k_extra "mine lt1" | ((with_reducible refine lt_dn ?_); first | k_extra "mine lt1" | ((with_reducible refine lt_dn ?_); k_extra "mine lt1"))))))
  k_with "mine lt" => (first | (with_reducible exact lt_one) | ((with_reducible show _ < _ + _); (with_reducible refine lt_up ?_); k_extra "mine lt") | ((fail_if_success (with_reducible show _ < _ + _)); k_extra "mine lt3"))
  k_with "mine ne0" => (first | (with_reducible assumption) | (with_reducible exact Ne.symm (by with_reducible assumption)) | (exact neLits rfl) | ((with_reducible refine Nat.ne_of_gt ?_); k_extra "mine lt") | ((with_reducible refine Nat.ne_of_lt ?_); k_extra "mine lt"))
  k_with "mine ne" => ((try dsimp only); (first | k_extra "mine ne0" | k_extra "mine omegaF"))
  k_with "mine rm" => (first | (with_reducible exact room0 (by with_reducible assumption)) | ((with_reducible refine' roomLe ?zrh ?zrk); (case zrh => with_reducible assumption); (case zrk => exact rfl)) | ((with_reducible refine roomS ?_); k_extra "mine rm"))
  k_with "mine le" => (first | (exact leLits rfl) | ((with_reducible refine' leLit ?zmh ?zmk); (case zmh => with_reducible assumption); (case zmk => exact rfl)) | ((with_reducible refine Nat.le_of_lt ?_); k_extra "mine lt"))
  k_with "mine lg" => (first | (exact ltLits rfl) | k_extra "mine rm" | ((with_reducible refine' ltOf ?znh ?znk); (case znh => with_reducible assumption); (case znk => exact rfl)) | k_extra "mine lt")
  k_with "mine ill" => (first | (with_reducible assumption) | decide | ((with_reducible refine' intLtLt ?zi1h ?zi1k); (case zi1h => with_reducible assumption); (case zi1k => decide)) | ((with_reducible refine' intLeLt ?zi2h ?zi2k); (case zi2h => with_reducible assumption); (case zi2k => decide)) | ((with_reducible refine' intRoom ?zi3h ?zi3k); (case zi3h => with_reducible assumption); (case zi3k => decide)) | ((with_reducible refine' intAddLt ?zi4h ?zi4k); (case zi4h => with_reducible assumption); (case zi4k => decide)) | ((with_reducible refine intS ?_); k_extra "mine ill"))
  k_with "mine ile" => (first | (with_reducible assumption) | decide | ((with_reducible refine intNn ?_); k_extra "mine ile") | ((with_reducible refine' intLtLe ?zi5h ?zi5k); (case zi5h => with_reducible assumption); (case zi5k => decide)) | ((with_reducible refine' intLeLe ?zi6h ?zi6k); (case zi6h => with_reducible assumption); (case zi6k => decide)) | ((with_reducible refine' intGeGe ?zi7h ?zi7k); (case zi7h => with_reducible assumption); (case zi7k => decide)) | ((with_reducible refine' intAddLe ?zi8h ?zi8k); (case zi8h => with_reducible assumption); (case zi8k => decide)) | ((with_reducible refine' intAddGe ?zi9h ?zi9k); (case zi9h => with_reducible assumption); (case zi9k => decide)) | ((with_reducible refine' intSubGe ?zi10h ?zi10k); (case zi10h => with_reducible assumption); (case zi10k => decide)) | ((with_reducible refine' intSubLe ?zi11h ?zi11k); (case zi11h => with_reducible assumption); (case zi11k => decide)))
  k_with "mine omegaF" => (first | ((repeat ((with_reducible rename _ ∧ _ => kz); clear kz)); (repeat ((with_reducible rename _ ≠ _ => kz); clear kz)); omega (config := {})) | omega (config := {}))
  k_with "mine omega" => (first | (with_reducible assumption) | ((with_reducible show @Ne Nat _ _); k_extra "mine ne0") | ((with_reducible show @LT.lt Nat _ _ _); k_extra "mine lg") | ((with_reducible show @LE.le Nat _ _ _); k_extra "mine le") | ((with_reducible show @LT.lt Int _ _ _); k_extra "mine ill") | ((with_reducible show @LE.le Int _ _ _); k_extra "mine ile") | ((with_reducible refine' ⟨?zoa, ?zob⟩); (case zoa => k_extra "mine ile"); (case zob => k_extra "mine ile")) | k_extra "mine omegaF")
  exact True.intro

set_option maxRecDepth 100000

theorem allNe {rest : List (Addr × Obj)} {b d : Addr} (h : AllLt b rest) (hb : @LE.le Nat _ b d) : ∀ p ∈ rest, p.1 ≠ d := fun p hp => Nat.ne_of_lt (Nat.lt_of_lt_of_le (ktn_ltOf h p hp) hb)

/-- an item of a list of three ints, by a bounded place -/
theorem item_three {prog : Program} {w : World} {A : Around} {E : Value → Shared → Prop} {s : Shared} {h₀ : Heap} {L : Addr} {news : List (Addr × Obj)} {value fe : PySem.Expr} {fas : List PySem.Expr} {fks : List Keyword} {fps : Pos} {l : Addr} {a b c k : Int} {ta tb tc u : Tok} {n : Nat} {Q : Value → Shared → Prop}
    (N : News h₀ L s.heap news) (hl : (l, W.listOf #[.int a ta, .int b tb, .int c tc] n) ∈ news)
    (h0 : 0 ≤ k) (h1 : k < 3) (lo hi : Int) (ha : lo ≤ a ∧ a ≤ hi) (hb : lo ≤ b ∧ b ≤ hi) (hc : lo ≤ c ∧ c ≤ hi)
    (h : ∀ v t, lo ≤ v → v ≤ hi → Q (.int v t) s) :
    wpAny (model prog w) A (subscriptTail value (.Call fe fas fks fps) (.ref l) (.int k u)) Q E s := by
  have hs : subscripted (.Call fe fas fks fps) false (.ref l) (.int k u) = operate [.ref l, .int k u] (getItem (.ref l) (.int k u)) := rfl
  have hL : s.heap.IsList l #[.int a ta, .int b tb, .int c tc] := ⟨_, (N _ hl).1, rfl, n, rfl⟩
  have hk : k = 0 ∨ k = 1 ∨ k = 2 := by omega
  rcases hk with rfl | rfl | rfl
  · exact tail_any hL.typeIs slot_list_getitem.lookup (wpAny_getItem_list hL (by decide) (by decide) rfl (h a ta ha.1 ha.2)) hs
  · exact tail_any hL.typeIs slot_list_getitem.lookup (wpAny_getItem_list hL (by decide) (by decide) rfl (h b tb hb.1 hb.2)) hs
  · exact tail_any hL.typeIs slot_list_getitem.lookup (wpAny_getItem_list hL (by decide) (by decide) rfl (h c tc hc.1 hc.2)) hs

theorem seal3 {h₀ h : Heap} {L : Addr} {x d b : Addr × Obj} {r : List (Addr × Obj)} (N : News h₀ L h (x :: d :: b :: r)) : ∃ R, R = r ∧ News h₀ L h (b :: d :: R) := ⟨r, rfl, news_sub N fun p hp => by
  rcases List.mem_cons.mp hp with rfl | hp
  · exact .tail _ (.tail _ (.head _))
  rcases List.mem_cons.mp hp with rfl | hp
  · exact .tail _ (.head _)
  · exact .tail _ (.tail _ (.tail _ hp))⟩

theorem mem_of_eq {α : Type} {x : α} {R r : List α} (h : R = r) (m : x ∈ r) : x ∈ R := h ▸ m

/-- the end of such a statement -/
def CutEnd (h₀ : Heap) (L : Addr) (m : Str → Option Value) (g : Obj → List (Addr × Obj)) (P : Obj → Prop) (s : Shared) (fl : Flow) (s' : Shared) : Prop :=
  fl = .next ∧ ∃ o h tk, s' = { s with heap := h, toks := tk } ∧ Fr h₀ L h m ∧ News h₀ L h (g o) ∧ P o

/-- a statement that changes one object alone: what comes behind it is walked once -/
theorem cut_st {prog : Program} {w : World} {A : Around} {E : Value → Shared → Prop} {s : Shared} {h₀ : Heap} {L : Addr} {m : Str → Option Value} {news : List (Addr × Obj)} {od : Obj} {g : Obj → List (Addr × Obj)} {st : Stmt} {env : Env} {Q : Flow → Shared → Prop}
    (_F : Fr h₀ L s.heap m) (_N : News h₀ L s.heap news) (d : Addr) (_U : UpdF d od news g) (P : Obj → Prop)
    (h : wpAny (model prog w) A (exec st env) (CutEnd h₀ L m g P s) E s)
    (k : ∀ o h tk, Fr h₀ L h m → News h₀ L h (g o) → P o → Q .next { s with heap := h, toks := tk }) : wpAny (model prog w) A (exec st env) Q E s :=
  wpAny_mono h (fun fl s' ⟨e, o, h, tk, e2, F, N, p⟩ => by subst e e2; exact k o h tk F N p) fun _ _ x => x

/-- nothing of the list lies between -/
def Gap (lo hi : Nat) (l : List (Addr × Obj)) : Prop := ∀ q ∈ l, @LT.lt Nat _ q.1 lo ∨ @LT.lt Nat _ hi q.1
theorem gapNe {lo hi : Nat} {d : Addr} {l : List (Addr × Obj)} (h : Gap lo hi l) (h1 : @LE.le Nat _ lo d) (h2 : @LE.le Nat _ d hi) : ∀ p ∈ l, p.1 ≠ d := fun p hp z => by
  have := h p hp
  rw [z] at this
  have h1' : lo ≤ (d : Nat) := h1
  have h2' : (d : Nat) ≤ hi := h2
  rcases this with h | h
  · exact absurd h (Nat.not_lt.mpr h1')
  · exact absurd h (Nat.not_lt.mpr h2')
theorem gap_of {lo hi : Nat} {r ex : List (Addr × Obj)} (h1 : AllLt lo r) (h2 : ∀ q ∈ ex, @LT.lt Nat _ hi q.1) : Gap lo hi (r ++ ex) := fun q hq => by
  rcases List.mem_append.mp hq with hq | hq
  · exact .inl (ktn_ltOf h1 q hq)
  · exact .inr (h2 q hq)
theorem neApp {d : Addr} {b : Nat} {r ex : List (Addr × Obj)} (h1 : ∀ q ∈ r, q.1 ≠ d) (h2 : ∀ q ∈ ex, @LT.lt Nat _ b q.1) (h3 : @LE.le Nat _ d b) : ∀ q ∈ r ++ ex, q.1 ≠ d := fun q hq => by
  rcases List.mem_append.mp hq with hq | hq
  · exact h1 q hq
  · exact Nat.ne_of_gt (Nat.lt_of_le_of_lt h3 (h2 q hq))
theorem news_turn {h₀ h : Heap} {L : Addr} {ex l : List (Addr × Obj)} (N : News h₀ L h (ex ++ l)) : News h₀ L h (l ++ ex) := news_sub N fun p hp => by
  rcases List.mem_append.mp hp with hp | hp
  · exact List.mem_append_right _ hp
  · exact List.mem_append_left _ hp

theorem take3 {P : List (Addr × Obj) → Prop} {news : List (Addr × Obj)} {x y z : Addr × Obj} (m1 : x ∈ news) (m2 : y ∈ news) (m3 : z ∈ news) (h : P [x, y, z]) : ∃ ex, (∀ q ∈ ex, q ∈ news) ∧ P ex :=
  ⟨_, fun q hq => by
    rcases List.mem_cons.mp hq with rfl | hq
    · exact m1
    rcases List.mem_cons.mp hq with rfl | hq
    · exact m2
    · rw [List.mem_singleton.mp hq]; exact m3, h⟩
/-- two objects in front, the rest unnamed -/
theorem take2 {h₀ h : Heap} {L bk sn : Addr} {ob os : Obj} {news : List (Addr × Obj)} (N : News h₀ L h news) (m1 : (bk, ob) ∈ news) (m2 : (sn, os) ∈ news) :
    ∃ OT, News h₀ L h ((bk, ob) :: (sn, os) :: OT) ∧ (∀ q ∈ OT, q.1 ≠ bk) ∧ (∀ q ∈ OT, q.1 ≠ sn) ∧ ∀ q ∈ news, q.1 ≠ bk → q.1 ≠ sn → q ∈ OT := by
  refine ⟨news.filter fun q => decide (q.1 ≠ bk) && decide (q.1 ≠ sn), news_sub N fun p hp => ?_, fun q hq => ?_, fun q hq => ?_, fun q hq h1 h2 => ?_⟩
  · rcases List.mem_cons.mp hp with rfl | hp
    · exact m1
    rcases List.mem_cons.mp hp with rfl | hp
    · exact m2
    · exact (List.mem_filter.mp hp).1
  · have := (List.mem_filter.mp hq).2
    simp only [Bool.and_eq_true, decide_eq_true_eq] at this
    exact this.1
  · have := (List.mem_filter.mp hq).2
    simp only [Bool.and_eq_true, decide_eq_true_eq] at this
    exact this.2
  · exact List.mem_filter.mpr ⟨hq, by simp [h1, h2]⟩

theorem pull3 {h₀ h : Heap} {L : Addr} {x d b : Addr × Obj} {r : List (Addr × Obj)} (N : News h₀ L h (x :: d :: b :: r)) : News h₀ L h (b :: d :: r) := news_sub N fun p hp => by
  rcases List.mem_cons.mp hp with rfl | hp
  · exact .tail _ (.tail _ (.head _))
  rcases List.mem_cons.mp hp with rfl | hp
  · exact .tail _ (.head _)
  · exact .tail _ (.tail _ (.tail _ hp))

/-- the book's first contents -/
def fillTo (vs : List Value) : Nat → List (Int × Value)
  | 0 => []
  | i + 1 => stored (fillTo vs i) ((i : Int) + 1) (vs.getD i .none)
theorem fillTo_len (vs : List Value) : ∀ i, (fillTo vs i).length ≤ i
  | 0 => Nat.le_refl _
  | i + 1 => by
    have h1 := fillTo_len vs i
    have h2 := stored_length_le (fillTo vs i) ((i : Int) + 1) (vs.getD i .none)
    show (stored _ _ _).length ≤ _
    omega
theorem fillTo_succ {vs : List Value} {i : Nat} {v : Value} (h : vs[i]? = some v) : fillTo vs (i + 1) = stored (fillTo vs i) ((i : Int) + 1) v := by
  show stored _ _ (vs.getD i .none) = _
  rw [List.getD_eq_getElem?_getD, h]; rfl

theorem off2R {I b d : Nat} {ob od o1 o2 : Obj} {R : List (Addr × Obj)} (hb : b < I) (hd : d < I) (hr : ∀ p ∈ R, p.1 < I) :
    ∀ p ∈ (b, ob) :: (d, od) :: R, ∀ q ∈ [((I + 1 : Nat), o1), (I, o2)], p.1 ≠ q.1 := by
  intro p hp q hq
  have h1 : @LT.lt Nat _ p.1 I := by
    rcases List.mem_cons.mp hp with rfl | hp
    · exact hb
    rcases List.mem_cons.mp hp with rfl | hp
    · exact hd
    · exact hr p hp
  have h2 : @LE.le Nat _ I q.1 := by
    rcases List.mem_cons.mp hq with rfl | hq
    · exact Nat.le_succ _
    · rw [List.mem_singleton.mp hq]; exact Nat.le_refl _
  exact Nat.ne_of_lt (Nat.lt_of_lt_of_le h1 h2)

end

-- P1
section
open PySem PySem.W PyProof.Rows PySem.Calls
set_option maxRecDepth 100000

theorem rows_p1 : True := by
  k_with_none
  k_with "mine and" => (first | (with_reducible exact And.left) | ((with_reducible refine andR ?_); first | (with_reducible exact id) | k_extra "mine and"))
  k_with "mine lt1" => (first | (with_reducible assumption) | ((with_reducible refine' viaC ?zvh ?zvk); (case zvh => with_reducible assumption); (case zvk => k_extra "mine and")))
  k_with "mine lt2" => (first | k_extra "mine lt1" | ((with_reducible refine' ltLit ?zlh ?zlk); (case zlh => with_reducible assumption); (case zlk => exact rfl)))
  k_with "mine lt3" => (first | k_extra "mine lt2" | ((with_reducible refine' ltT ?zth ?ztk); (case zth => with_reducible assumption); (case ztk => first | k_extra "mine lt2" | ((with_reducible refine' ltT ?zuh ?zuk); (case zuh => with_reducible assumption); (case zuk => k_extra "mine lt2")))) | ((with_reducible refine lt_dn ?_); first | k_extra "mine lt1" | ((with_reducible refine lt_dn ?_); first | k_extra "mine lt1" | ((with_reducible refine lt_dn ?_); first | k_extra "mine lt1" | ((with_reducible refine lt_dn ?_); first | k_extra "mine lt1" | ((with_reducible refine lt_dn ?_); k_extra "mine lt1"))))))
  k_with "mine lt" => (first | (with_reducible exact lt_one) | ((with_reducible show _ < _ + _); (with_reducible refine lt_up ?_); k_extra "mine lt") | ((fail_if_success (with_reducible show _ < _ + _)); k_extra "mine lt3"))
  k_with "mine ne0" => (first | (with_reducible assumption) | (with_reducible exact Ne.symm (by with_reducible assumption)) | (exact neLits rfl) | ((with_reducible refine Nat.ne_of_gt ?_); k_extra "mine lt") | ((with_reducible refine Nat.ne_of_lt ?_); k_extra "mine lt"))
  k_with "mine ne" => ((try dsimp only); (first | k_extra "mine ne0" | k_extra "mine omegaF"))
  k_with "mine rm" => (first | (with_reducible exact room0 (by with_reducible assumption)) | ((with_reducible refine' roomLe ?zrh ?zrk); (case zrh => with_reducible assumption); (case zrk => exact rfl)) | ((with_reducible refine roomS ?_); k_extra "mine rm"))
  k_with "mine le" => (first | (exact leLits rfl) | ((with_reducible refine' leLit ?zmh ?zmk); (case zmh => with_reducible assumption); (case zmk => exact rfl)) | ((with_reducible refine Nat.le_of_lt ?_); k_extra "mine lt"))
  k_with "mine lg" => (first | (exact ltLits rfl) | k_extra "mine rm" | ((with_reducible refine' ltOf ?znh ?znk); (case znh => with_reducible assumption); (case znk => exact rfl)) | k_extra "mine lt")
  k_with "mine ill" => (first | (with_reducible assumption) | decide | ((with_reducible refine' intLtLt ?zi1h ?zi1k); (case zi1h => with_reducible assumption); (case zi1k => decide)) | ((with_reducible refine' intLeLt ?zi2h ?zi2k); (case zi2h => with_reducible assumption); (case zi2k => decide)) | ((with_reducible refine' intRoom ?zi3h ?zi3k); (case zi3h => with_reducible assumption); (case zi3k => decide)) | ((with_reducible refine' intAddLt ?zi4h ?zi4k); (case zi4h => with_reducible assumption); (case zi4k => decide)) | ((with_reducible refine intS ?_); k_extra "mine ill"))
  k_with "mine ile" => (first | (with_reducible assumption) | decide | ((with_reducible refine intNn ?_); k_extra "mine ile") | ((with_reducible refine' intLtLe ?zi5h ?zi5k); (case zi5h => with_reducible assumption); (case zi5k => decide)) | ((with_reducible refine' intLeLe ?zi6h ?zi6k); (case zi6h => with_reducible assumption); (case zi6k => decide)) | ((with_reducible refine' intGeGe ?zi7h ?zi7k); (case zi7h => with_reducible assumption); (case zi7k => decide)) | ((with_reducible refine' intAddLe ?zi8h ?zi8k); (case zi8h => with_reducible assumption); (case zi8k => decide)) | ((with_reducible refine' intAddGe ?zi9h ?zi9k); (case zi9h => with_reducible assumption); (case zi9k => decide)) | ((with_reducible refine' intSubGe ?zi10h ?zi10k); (case zi10h => with_reducible assumption); (case zi10k => decide)) | ((with_reducible refine' intSubLe ?zi11h ?zi11k); (case zi11h => with_reducible assumption); (case zi11k => decide)))
  k_with "mine omegaF" => (first | ((repeat ((with_reducible rename _ ∧ _ => kz); clear kz)); (repeat ((with_reducible rename _ ≠ _ => kz); clear kz)); omega (config := {})) | omega (config := {}))
  k_with "mine omega" => (first | (with_reducible assumption) | ((with_reducible show @Ne Nat _ _); k_extra "mine ne0") | ((with_reducible show @LT.lt Nat _ _ _); k_extra "mine lg") | ((with_reducible show @LE.le Nat _ _ _); k_extra "mine le") | ((with_reducible show @LT.lt Int _ _ _); k_extra "mine ill") | ((with_reducible show @LE.le Int _ _ _); k_extra "mine ile") | ((with_reducible refine' ⟨?zoa, ?zob⟩); (case zoa => k_extra "mine ile"); (case zob => k_extra "mine ile")) | k_extra "mine omegaF")
  k_with "mine all" => first | ((with_reducible refine' List.forall_mem_cons.mpr ⟨?z115_a, ?z115_b⟩); (case z115_a => k_ne); (case z115_b => k_all)) | (with_reducible exact List.forall_mem_nil _) | (with_reducible assumption) | exact allNe (by with_reducible assumption) (by omega) | exact gapNe (by with_reducible assumption) (by omega) (by omega)
  k_with "mine mem" => first | (with_reducible exact List.Mem.head _) | ((with_reducible refine' List.Mem.tail _ ?_); k_mem) | (with_reducible assumption) | (refine mem_of_eq (by with_reducible assumption) ?_; k_mem) | assumption
  k_with "eval Name" => (k_here; k_dflt (first | ((refine' nameX_L ?z117_F ?z117_v ?_ ?z117_a ?z117_b); (case z117_F => k_asm); (case z117_a => rfl); (case z117_b => rfl); (case z117_v => rfl); k_whole) | ((refine' nameX_C ?z117_N ?z117_c ?z117_m ?z117_d ?_ ?z117_a ?z117_b); (case z117_N => k_asm); (case z117_a => rfl); (case z117_b => rfl); (case z117_c => rfl); (case z117_m => k_mem); (case z117_d => k_asm); k_whole) | ((refine' nameX_F ?z117_N ?z117_c ?z117_m ?z117_d ?_ ?z117_a ?z117_b); (case z117_N => k_asm); (case z117_a => rfl); (case z117_b => rfl); (case z117_c => rfl); (case z117_m => k_mem); (case z117_d => k_asm); k_whole) | ((refine' nameX_K ?z117_F ?z117_X ?z117_T ?z117_e ?_ ?z117_a ?z117_b); (case z117_F => k_asm); (case z117_a => rfl); (case z117_b => rfl); (case z117_X => k_asm); (case z117_T => k_asm);  (case z117_e => k_is); k_whole)))
  k_with "mine room" => ktr_room
  k_with "callWith ref" => (k_here; k_dflt (refine' callWith_K ?z119_k1 ?z119_k2 ?_; (case z119_k1 => k_in); (case z119_k2 => k_is); k_whole))
  k_with "subscriptTail Name Call ref int" => (k_here; k_dflt (refine' item_three ?z120_itN ?z120_itl ?z120_it0 ?z120_it1 (-39) 16 ?z120_ita ?z120_itb ?z120_itc ?_; (case z120_itN => k_asm); (case z120_itl => k_mem); (case z120_it0 => omega); (case z120_it1 => omega); (case z120_ita => omega); (case z120_itb => omega); (case z120_itc => omega)); intro _ _ _ _)
  k_with "exec For Tuple Call cons nil" => (k_here; k_dflt (refine For_turns (by k_asm) ?_))
  k_with "exec If" => (k_dflt (refine halt ?_))
  k_with "call type:enumerate" => (k_dflt (refine halt ?_))
  k_with "call builtin:len cons nil" => (k_here; k_dflt (refine' len_any ?z124_leN ?z124_leM ?z124_leh ?_; (case z124_leN => k_asm); (case z124_leM => k_mem); (case z124_leh => (simp only [Array.size_push, List.size_toArray, List.length_append, List.length_cons, List.length_nil]; omega))))
  k_with "call type:list cons nil" => (k_dflt (refine halt ?_))
  k_with "setItem ref int" => (k_here; k_dflt (refine' kda_set (knd := intKind _ _) ?z126_F ?z126_N ?z126_U ?z126_d (intKind_is _ _ _ _) ?z126_z ?_; (case z126_F => k_asm); (case z126_N => k_asm); (case z126_U => k_updF); (case z126_d => assumption); (case z126_z => rw [sizeLine_eq]; omega)); intro _ _ _; intro N'; (try dsimp only at N'); revert N'; intro _; intro _)
  k_with "setItem ref int int" => (k_here; k_dflt (refine' kda_set (knd := intKind _ _) ?z127_F ?z127_N ?z127_U ?z127_d (intKind_is _ _ _ _) ?z127_z ?_; (case z127_F => k_asm); (case z127_N => k_asm); (case z127_U => k_updF); (case z127_d => assumption); (case z127_z => rw [sizeLine_eq]; omega)); intro _ _ _; intro N'; (try dsimp only at N'); revert N'; intro _; intro _)
  k_with "setItem ref int ref" => (k_here; k_dflt (refine' kda_set (knd := intKind _ _) ?z128_F ?z128_N ?z128_U ?z128_d (intKind_is _ _ _ _) ?z128_z ?_; (case z128_F => k_asm); (case z128_N => k_asm); (case z128_U => k_updF); (case z128_d => assumption); (case z128_z => rw [sizeLine_eq]; omega)); intro _ _ _; intro N'; (try dsimp only at N'); revert N'; intro _; intro _)
  k_with "call ref" => (k_here; first | ((with_reducible show wpAny _ _ (call (Value.ref 65) [Value.ref _, Value.int _ _]) _ _ _); k_dflt (refine' struck_call ?z129_scB ?z129_scF ?z129_scX ?z129_scN ?z129_scT ?z129_sck ?z129_scU ?z129_scD ?z129_scI ?z129_scl ?z129_sc0 ?z129_sc1 ?z129_sc2 ?z129_sc3 ?z129_scd ?z129_scu ?_; (case z129_scB => k_asm); (case z129_scF => k_asm); (case z129_scX => k_asm); (case z129_scN => k_asm); (case z129_scT => k_asm); (case z129_sck => rfl); (case z129_scU => k_updF); (case z129_scD => k_mem); (case z129_scI => assumption); (case z129_scl => assumption); (case z129_sc0 => omega); (case z129_sc1 => omega); (case z129_sc2 => omega); (case z129_sc3 => omega); (case z129_scd => ktr_room); (case z129_scu => ktr_units)); intro _ _ _ _ _ _ _ _; intro N'; (try dsimp only at N'); revert N'; intro _) | ((with_reducible show wpAny _ _ (call (Value.ref 72) _) _ _ _); k_dflt (refine' counter_call ?z129_ccB ?z129_ccF ?z129_ccX ?z129_ccN ?z129_ccT ?z129_cck ?z129_ccC ?z129_ccU ?z129_ccd ?z129_ccu ?_; (case z129_ccB => k_asm); (case z129_ccF => k_asm); (case z129_ccX => k_asm); (case z129_ccN => k_asm); (case z129_ccT => k_asm); (case z129_cck => rfl); (case z129_ccC => assumption); (case z129_ccU => k_updF); (case z129_ccd => ktr_room); (case z129_ccu => ktr_units)); intro _ _ _ _ _ _ _; intro N'; (try dsimp only at N'); revert N'; intro _; intro _ _ _ _ _; refine halt ?_) | ((with_reducible show wpAny _ _ (call (Value.ref 79) _) _ _ _); k_dflt (refine halt ?_)) | ((with_reducible show wpAny _ _ (call (Value.ref 86) _) _ _ _); k_dflt (refine halt ?_)))
  k_with "my enterTC" => (refine' code_turnC ?z130_k1 ?z130_k2 ?z130_k3 ?z130_k4 ?z130_k5 ?z130_XB ?z130_TB ?z130_D ?z130_T0 ?z130_kA ?z130_kF ?z130_kK ?z130_k6 ?z130_k7 ?z130_k8 ?z130_k9 ?z130_kB ?z130_kD ?_ ?z130_c2 ?z130_c3 ?z130_c4; (case z130_kA => exact rfl); (case z130_kF => exact rfl); (case z130_kK => assumption); (case z130_k2 => k_asm); (case z130_k1 => k_asm); (case z130_XB => assumption); (case z130_TB => assumption); (case z130_D => assumption); (case z130_T0 => exact KtsTurn.refl); (case z130_k3 => k_asm); (case z130_k4 => k_asm); (case z130_k5 => k_asm); (case z130_k6 => k_is); (case z130_k7 => k_is); (case z130_k8 => ktr_room); (case z130_k9 => exact BindsTo.of_eq rfl); (case z130_kB => exact rfl); (case z130_kD => decide +kernel); (case z130_c2 => exact rfl); (case z130_c3 => exact rfl); (case z130_c4 => exact rfl); k_whole; walk_at "my tail4")
  k_with "compareOp Eq ref ref" => (k_here; k_dflt (first | ((refine' dict_same_put ?z131_N ?z131_m1 ?z131_m2 ?z131_h1 ?z131_h2 ?z131_l1 ?z131_l2 ?z131_u ?_); (case z131_N => k_asm); (case z131_m1 => k_mem); (case z131_m2 => k_mem); (case z131_h1 => assumption); (case z131_h2 => assumption); (case z131_l1 => assumption); (case z131_l2 => assumption); (case z131_u => ktr_units)) | ((refine' dict_same ?z131_N ?z131_m1 ?z131_m2 ?z131_h1 ?z131_h2 ?z131_l1 ?z131_l2 ?z131_u ?_); (case z131_N => k_asm); (case z131_m1 => k_mem); (case z131_m2 => k_mem); (case z131_h1 => assumption); (case z131_h2 => assumption); (case z131_l1 => assumption); (case z131_l2 => assumption); (case z131_u => ktr_units))))
  exact True.intro

set_option maxHeartbeats 16000000 in
theorem put_right_spec {w : World} {p : Program} {loose : List Str} {mean : ExcName → Option Value} {mg mb : Str → Option Value}
    {dp un : Nat} {gd : Option (List Code)} {cn : Str} {cs : Scope} {a : Addr} {ccd : Value} {cl : List (Str × Addr)} {outer : List Env} {A₀ : Around} {base h₀ : Heap} {L : Addr} {m : Str → Option Value}
    {s : Shared} {Q E : Value → Shared → Prop} {an D tl : Addr} {ws texts : List Value} {ns : List Int} {t : Int} {tkt : Tok} {n nD nT : Nat} {rest : List (Addr × Obj)}
    (B : Below A₀ base outer h₀) (F : Fr h₀ L s.heap m) (X : (hd.heap_39 w.params).In h₀)
    (N : News h₀ L s.heap ((an, W.listOf #[.ref D, .int t tkt] n) :: (tl, W.listOf texts.toArray nT) :: (D, W.listOf ws.toArray nD) :: (88, tabObj #[]) :: (67, tabObj #[]) :: rest)) (T : Top p loose mean mg mb h₀) (hck : cs.kind = .function)
    (XB : (hd.heap_39 w.params).In base) (TB : Top p loose mean mg mb base) (DI : KtsDicts (outer.filterMap (·.frame)) h₀)
    (hI : IntsAre ws ns) (hlen : ns.length ≤ 63) (ht0 : 0 ≤ t) (ht : t < 900) (hlt : texts.length ≤ 5)
    (o0 : @LT.lt Nat _ 107 D) (o1 : @LT.lt Nat _ D an) (o2 : @Ne Nat tl an) (o2a : @Ne Nat tl D) (o2b : @Ne Nat tl 67) (o2c : @Ne Nat tl 88) (hra : ∀ q ∈ rest, q.1 ≠ an) (hr8 : ∀ q ∈ rest, q.1 ≠ 88) (hr6 : ∀ q ∈ rest, q.1 ≠ 67)
    (hC : CodeHd base 71 67) (hP : CodeHd base 92 88)
    (hdp : dp + 100 < recursionLimit) (hu : un + 1000 < cLine)
    (hend : ∀ h₀' ps c1 oc1 t1 h' tk, KtsTurn (outer.filterMap (·.frame)) h₀ h₀' → Fr h₀' L h' m →
      News h₀' L h' ((an, W.listOf #[.ref D, .int (t + 1 + 1 + 1 + 1 + 1) t1] n) :: (tl, W.listOf texts.toArray nT) :: (D, W.listOf ws.toArray nD) :: (67, tabObj #[rawInt 47, rawInt 4, .ref c1]) :: (c1, oc1) :: (88, tabObj ps) :: rest) → @LT.lt Nat _ tl c1 → @LT.lt Nat _ an c1 →
      (∃ vs t, oc1.data = .fields vs ∧ vs[1]? = some (.str (Str.ofString "_law_counter.<locals>.count") t)) →
      Below A₀ base outer h₀' → (hd.heap_39 w.params).In h₀' → Top p loose mean mg mb h₀' → KtsDicts (outer.filterMap (·.frame)) h₀' → Q (.bool true) { s with heap := h', toks := tk }) :
    wpAny (model PySem.Challenge.rw_pq0674_01.row.prog w) (ktrTop dp un gd cn cs L a ccd cl outer) (call (.ref 93) [.ref an, .ref tl]) Q E s := by
  revert X; k_fill; intro X
  refine wpAny_call ?_
  k_dflt (walk_at "my enterTC")
  rename _ ∧ _ => lE
  rename_i g1 L1 hA tkA FG1 FA B1 X1 T1 D1 oCp oCc oCb oCk oCa dCp dCc dCb dCk dCa NA
  refine byG fun G hG => ?_
  obtain ⟨lE1, lE2, lE3, lE4, lE5, hAR⟩ := lE
  refine hG ?_
  clear hG G
  k_steps
  rename_i at_ tat la lb left tl1 tl2 hq1 tkq1 kl0 kl1 sn hq2 lsn bk hq3 ob0 lob hs1 fs1 hi1 fi1 lbk du hq4 od0 lod hs0 fs0 hi0 fi0 ldu DT hq5 lDT hq6 hq7 oAt dAt hq8 hq9 hq10 oBk dBk hq11 F9 N9
  clear hs1 fs1 fi1 hs0 fs0 fi0 lDT
  unfold Halt
  refine byG fun G hG => ?_
  obtain ⟨R, hR, N2⟩ := seal3 N9
  refine hG ?_
  clear hG G
  have hRb : ∀ q ∈ R, q.1 ≠ bk := by rw [hR]; k_all
  have hRd : ∀ q ∈ R, q.1 ≠ du := by rw [hR]; k_all
  have hRt : (tl, W.listOf texts.toArray nT) ∈ R := by rw [hR]; k_mem
  clear N9
  refine ktu_enum (by rfl) F9 N2 (.tail _ (.tail _ hRt)) (by rfl) (by rfl) rfl ?_
  intro I hIlt
  refine enum_start (Str.ofString "number") (Str.ofString "text") (by rfl) (by rfl) ?_
  refine enum_inv (fun i nw => ∃ ob od, nw = (bk, ob) :: (du, od) :: R ∧ ob.IsDictOf (intKind PySem.Challenge.rw_pq0674_01.row.prog w) (fillTo texts i) ∧ od.IsDictOf (intKind PySem.Challenge.rw_pq0674_01.row.prog w) (fillTo texts i)) ?step ?done texts.length 0 none none _ (by omega) ⟨ob0, od0, rfl, hi1, hi0⟩
  case step =>
    clear F9 N2
    intro i v u1 u2 news hv hJJ T t h9 tk9 hT F9
    refine byG fun G hG => ?_
    obtain ⟨ob, od, rfl, hO1, hO2⟩ := hJJ
    refine hG ?_
    clear hG G
    refine AllObj.cons fun o1 hc1 => AllObj.cons fun o2 hc2 => AllObj.nil fun N9 => ?_
    have hi : i < texts.length := (List.getElem?_eq_some_iff.mp hv).1
    have hfl := fillTo_len texts i
    dsimp only [List.cons_append, List.nil_append] at N9
    have hbI := ltN (hIlt _ (.head _))
    have hdI := ltN (hIlt _ (.tail _ (.head _)))
    have hrI : ∀ p ∈ R, p.1 < I := fun p hp => hIlt p (.tail _ (.tail _ hp))
    k_steps
    refine ⟨_, _, _, (bk, _) :: (du, _) :: R, rfl, by assumption, by assumption, off2R hbI hdI hrI, ⟨.tail _ (.tail _ hRt), trivial⟩, ⟨_, _, two_two _ _ _ _ _ _ _⟩, _, _, rfl, ?_, ?_⟩
    · rw [fillTo_succ hv]; assumption
    · rw [fillTo_succ hv]; assumption
  case done =>
    intro u1 u2 news h9 tk9 hJJ F8 N9
    clear N2 F9
    refine byG fun G hG => ?_
    obtain ⟨ob, od, rfl, hO1, hO2⟩ := hJJ
    subst hR
    refine hG ?_
    clear hG G
    have hfl := fillTo_len texts texts.length
    k_steps
    rename _ = Data.cell (some (Value.int _ _)) => dBd
    rename IsRange _ _ _ _ _ _ _ _ => rgX
    rename Fr _ _ _ _ => F5
    rename News _ _ _ _ => N5
    unfold Halt
    refine byG fun G hG => ?_
    obtain ⟨n1, hn1⟩ : ∃ n1 : Nat, n1 = (max ((texts.length : Int) + 1) at_ - at_).toNat := ⟨_, rfl⟩
    refine hG ?_
    clear hG G
    refine list_down (n := n1) (by rfl) F5 N5 rgX (by simp only [List.size_toArray]; split <;> omega) (by omega) (by omega) (by omega) ?_
    intro gl us cg h6 tk6 F6 N6 lg hIg
    k_lt lg
    clear F5 N5 rgX
    k_steps
    unfold Halt
    rename Fr _ _ _ _ => F7
    rename News _ _ _ _ => N7
    have hln3 : (mvs (0 - 1) (fillTo texts texts.length) ((downs at_ n1).take left.toNat)).length ≤ 600 := by
      have := mvs_len (0 - 1) ((downs at_ n1).take left.toNat) (fillTo texts texts.length)
      rw [List.length_take, downs_length] at this
      omega
    refine' cut_st F7 N7 du ?cuU (fun o => if (n1 : Int) ≤ left then ∃ t, o.IsDictOf (intKind PySem.Challenge.rw_pq0674_01.row.prog w) (stored (mvs (0 - 1) (fillTo texts texts.length) (downs at_ n1)) at_ (.int 99 t)) else o.IsDictOf (intKind PySem.Challenge.rw_pq0674_01.row.prog w) (mvs (0 - 1) (fillTo texts texts.length) ((downs at_ n1).take left.toNat))) ?cuA ?cuB
    case cuU => k_updF
    case cuA =>
      refine wpAny_If ?_
      k_steps
      unfold Halt
      rename Fr _ _ _ _ => F7
      rename News _ _ _ _ => N7
      k_dflt (refine' moved_call ?mcB F7 ?mcX N7 ?mcT ?mck ?mcU hO2 ?mcG ?mcg hIg ?mcl lod kl0 ?mc1 ?mcd ?mcu ?_; (case mcB => k_asm); (case mcX => k_asm); (case mcT => k_asm); (case mck => rfl); (case mcU => k_updF); (case mcG => k_mem); (case mcg => k_ne); (case mcl => rw [downs_length]; omega); (case mc1 => omega); (case mcd => ktr_room); (case mcu => ktr_units))
      intro b od2 h8 tk8 hb hO3 F8 N8
      (try dsimp only at N8)
      clear F7 N7
      rw [downs_length] at hb
      by_cases hle : (n1 : Int) ≤ left
      · rw [decide_eq_true hle] at hb
        subst hb
        rw [List.take_of_length_le (by rw [downs_length]; omega)] at hO3 hln3
        k_steps
        exact ⟨rfl, _, _, _, rfl, by assumption, by assumption, by show if (n1 : Int) ≤ left then _ else _; rw [if_pos hle]; exact ⟨_, by assumption⟩⟩
      · rw [decide_eq_false hle] at hb
        subst hb
        k_steps
        exact ⟨rfl, _, _, _, rfl, by assumption, by assumption, by show if (n1 : Int) ≤ left then _ else _; rw [if_neg hle]; assumption⟩
    case cuB =>
      intro od3 h8 tk8 F8 N8 hP3
      (try dsimp only at N8)
      clear F7 N7
      k_steps
      rename_i pf pc pco pvs pt pct pdc ph ptk pd1 pd2 pl1 pl2 h9b oPut kF9 kN9 dPut f1 c1 oc1 ex1 h10 tk10 F10 N10 le1 mc1 dc1 Tk1 fo1
      clear kF9 kN9
      unfold Halt
      have hgt : ∀ q ∈ ex1, @LT.lt Nat _ pf q.1 := fun q hq => le1 q hq _ (.head _)
      clear le1
      refine byG fun G hG => ?_
      obtain ⟨of1, mf1, hf1⟩ := fo1
      have N11 := news_turn N10
      simp only [List.cons_append] at N11
      obtain ⟨rest1, hr1⟩ : ∃ r, r = rest ++ ex1 := ⟨_, rfl⟩
      rw [← hr1] at N11
      refine hG ?_
      clear N10 hG G
      have hgap : Gap L1 pf rest1 := by rw [hr1]; exact gap_of hAR hgt
      have hra1 : ∀ q ∈ rest1, q.1 ≠ an := by rw [hr1]; exact neApp hra hgt (by omega)
      have hr81 : ∀ q ∈ rest1, q.1 ≠ 88 := by rw [hr1]; exact neApp hr8 hgt (by omega)
      have hr61 : ∀ q ∈ rest1, q.1 ≠ 67 := by rw [hr1]; exact neApp hr6 hgt (by omega)
      have hx1 : ∀ q ∈ ex1, q ∈ rest1 := by rw [hr1]; exact fun q hq => List.mem_append_right _ hq
      have hrx : ∀ q ∈ rest, q ∈ rest1 := by rw [hr1]; exact fun q hq => List.mem_append_left _ hq
      have mf1' := hx1 _ mf1
      have mc1' := hx1 _ mc1
      clear hr1
      k_steps
      rename_i h9c oCnt kF10 kN10 dCnt lf lc lco lvs lt lct h11 tk11 F11 N11a ld1 ld2 ll1 ll2
      clear kF10 kN10
      unfold Halt
      refine byG fun G hG => ?_
      obtain ⟨OT, N12, hOb, hOs, hin⟩ := take2 (bk := bk) (ob := ob) (sn := sn) (os := W.listOf #[] 0) N11a (by k_mem) (by k_mem)
      have i1 := (List.forall_mem_cons.mp hin).1 (by k_ne) (by k_ne)
      replace hin := (List.forall_mem_cons.mp hin).2
      have i2 := (List.forall_mem_cons.mp hin).1 (by k_ne) (by k_ne)
      replace hin := (List.forall_mem_cons.mp hin).2
      have i3 := (List.forall_mem_cons.mp hin).1 (by k_ne) (by k_ne)
      replace hin := (List.forall_mem_cons.mp hin).2
      have i4 := (List.forall_mem_cons.mp hin).1 (by k_ne) (by k_ne)
      replace hin := (List.forall_mem_cons.mp hin).2
      have i5 := (List.forall_mem_cons.mp hin).1 (by k_ne) (by k_ne)
      replace hin := (List.forall_mem_cons.mp hin).2
      replace hin := (List.forall_mem_cons.mp hin).2
      have i7 := (List.forall_mem_cons.mp hin).1 (by k_ne) (by k_ne)
      replace hin := (List.forall_mem_cons.mp hin).2
      replace hin := (List.forall_mem_cons.mp hin).2
      replace hin := (List.forall_mem_cons.mp hin).2
      have i10 := (List.forall_mem_cons.mp hin).1 (by k_ne) (by k_ne)
      replace hin := (List.forall_mem_cons.mp hin).2
      have i11 := (List.forall_mem_cons.mp hin).1 (by k_ne) (by k_ne)
      replace hin := (List.forall_mem_cons.mp hin).2
      have i12 := (List.forall_mem_cons.mp hin).1 (by k_ne) (by k_ne)
      replace hin := (List.forall_mem_cons.mp hin).2
      have i13 := (List.forall_mem_cons.mp hin).1 (by k_ne) (by k_ne)
      replace hin := (List.forall_mem_cons.mp hin).2
      have i14 := (List.forall_mem_cons.mp hin).1 (by k_ne) (by k_ne)
      replace hin := (List.forall_mem_cons.mp hin).2
      have i15 := (List.forall_mem_cons.mp hin).1 (by k_ne) (by k_ne)
      replace hin := (List.forall_mem_cons.mp hin).2
      have i16 := (List.forall_mem_cons.mp hin).1 (by k_ne) (by k_ne)
      replace hin := (List.forall_mem_cons.mp hin).2
      have i17 := (List.forall_mem_cons.mp hin).1 (by k_ne) (by k_ne)
      replace hin := (List.forall_mem_cons.mp hin).2
      have i18 := (List.forall_mem_cons.mp hin).1 (by k_ne) (by k_ne)
      replace hin := (List.forall_mem_cons.mp hin).2
      have i19 := (List.forall_mem_cons.mp hin).1 (by k_ne) (by k_ne)
      replace hin := (List.forall_mem_cons.mp hin).2
      obtain ⟨ps8, i18⟩ : ∃ ps, ((88 : Nat), tabObj ps) ∈ OT := ⟨_, i18⟩
      have hxO : ∀ q ∈ ex1, q ∈ OT := fun q hq => hin q (hx1 q hq) (Nat.ne_of_gt (Nat.lt_trans (by omega) (hgt q hq))) (Nat.ne_of_gt (Nat.lt_trans (by omega) (hgt q hq)))
      have hrO : ∀ q ∈ rest, q ∈ OT := fun q hq => hin q (hrx q hq) (allNe hAR (by omega) q hq) (allNe hAR (by omega) q hq)
      clear hin N11a hx1 hrx
      obtain ⟨exP, hxP, hPut⟩ : ∃ ex, (∀ q ∈ ex, q ∈ OT) ∧ PutOk w p loose mean mg mb pf bk ex := take3 (P := PutOk w p loose mean mg mb pf bk) i3 i4 i13 (put_ok pd1 pd2 dBk)
      refine hG ?_
      clear hG G
      have hus : us.length = n1 := by rw [hIg.length, downs_length]
      have hLam := lam_put (left := left) (n := n1) (c0 := 0) hPut Tk1 hxP hxO i3 (.inl ⟨_, _, _, _, rfl⟩) (hxO _ mf1) (.inl hf1) hOb hOs (by omega) hO1 (by omega) (by rw [List.size_toArray]; exact hn1) (by omega) lob kl0 (by omega) i2 ld1 ld2 i14 dAt i13 dBk i12 dBd i11 dCnt i10 dPut i1
      have hs0 : ∀ q ∈ (an, W.listOf #[.ref D, .int (t + 1 + 1 + 1 + 1 + 1) tl1] n) :: (tl, W.listOf texts.toArray nT) :: (D, W.listOf ws.toArray nD) :: (67, tabObj #[rawInt 47, rawInt 4, .ref c1]) :: (c1, oc1) :: (88, tabObj ps8) :: rest, q ∈ OT := List.forall_mem_cons.mpr ⟨i15, List.forall_mem_cons.mpr ⟨i16, List.forall_mem_cons.mpr ⟨i17, List.forall_mem_cons.mpr ⟨i19, List.forall_mem_cons.mpr ⟨hxO _ mc1, List.forall_mem_cons.mpr ⟨i18, hrO⟩⟩⟩⟩⟩⟩
      have hsub : ∀ (ob' os' : Obj), ∀ q ∈ (an, W.listOf #[.ref D, .int (t + 1 + 1 + 1 + 1 + 1) tl1] n) :: (tl, W.listOf texts.toArray nT) :: (D, W.listOf ws.toArray nD) :: (67, tabObj #[rawInt 47, rawInt 4, .ref c1]) :: (c1, oc1) :: (88, tabObj ps8) :: rest, q ∈ (bk, ob') :: (sn, os') :: OT := fun ob' os' q hq => .tail _ (.tail _ (hs0 q hq))
      have hc1 : @LT.lt Nat _ tl c1 := by
        have := hgt _ mc1
        dsimp only at this
        omega
      have hc1a : @LT.lt Nat _ an c1 := by
        have := hgt _ mc1
        dsimp only at this
        omega
      k_dflt (refine refused_spec (f := lf) (d := 14) B1 F11 X1 N12 T1 rfl XB TB D1 (.tail _ (.tail _ i1)) (.inl ⟨_, _, _, _, rfl⟩) hLam (by ktr_room) (by ktr_units) ?_ ?_)
      · intro v nw h12 tk12 hJJ F12 N13
        refine byG fun G hG => ?_
        obtain ⟨hle, ob4, ws4, c4, tv, hO4, hw4, rfl⟩ := hJJ
        obtain ⟨td, hD4⟩ : ∃ t, od3.IsDictOf (intKind PySem.Challenge.rw_pq0674_01.row.prog w) (stored (mvs (-1) (fillTo texts texts.length) (downs at_ n1)) at_ (.int 99 t)) := by
          have h := hP3
          rwa [if_pos hle] at h
        refine hG ?_
        clear F11 N12 hLam hG G
        k_steps
        all_goals first
          | (rename Fr _ _ _ _ => kFz; rename News _ _ _ _ => kNz; exact hend h₀ ps8 c1 oc1 tl1 _ _ KtsTurn.refl kFz (news_sub kNz (hsub _ _)) hc1 hc1a dc1 B X T DI)
          | (exfalso; rename _ ≠ _ => hx; simp only [List.size_toArray] at hx; revert hx; split <;> omega)
          | (exfalso; rename (_ == decide _) = false => hx; simp only [List.size_toArray, hus] at hx; simp at hx; omega)
      · intro h₀' nw h12 tk12 hJJ KT F12 N13 B12 X12 T12 D12
        refine byG fun G hG => ?_
        obtain ⟨hle, ob4, ws4, c4, hO4, hw4, rfl⟩ := hJJ
        refine hG ?_
        clear hG G
        have hD4 : od3.IsDictOf (intKind PySem.Challenge.rw_pq0674_01.row.prog w) (mvs (-1) (fillTo texts texts.length) ((downs at_ n1).take left.toNat)) := by
          have h := hP3
          rwa [if_neg (by omega)] at h
        clear F11 N12 hLam
        k_steps
        all_goals first
          | (rename Fr _ _ _ _ => kFz; rename News _ _ _ _ => kNz; exact hend _ ps8 c1 oc1 tl1 _ _ (by assumption) kFz (news_sub kNz (hsub _ _)) hc1 hc1a dc1 (by assumption) (by assumption) (by assumption) (by assumption))
          | (exfalso; rename _ ≠ _ => hx; simp only [List.size_toArray] at hx; revert hx; split <;> omega)
          | (exfalso; rename (_ == decide _) = false => hx; simp only [List.size_toArray, hus] at hx; simp at hx; omega)
end

-- Eq2
section
open PySem PySem.W PyProof.Rows PySem.Calls
theorem rows_eq2 : True := by
  k_with_none
  k_with "mine and" => (first | (with_reducible exact And.left) | ((with_reducible refine andR ?_); first | (with_reducible exact id) | k_extra "mine and"))
  k_with "mine lt1" => (first | (with_reducible assumption) | ((with_reducible refine' viaC ?zvh ?zvk); (case zvh => with_reducible assumption); (case zvk => k_extra "mine and")))
  k_with "mine lt2" => (first | k_extra "mine lt1" | ((with_reducible refine' ltLit ?zlh ?zlk); (case zlh => with_reducible assumption); (case zlk => exact rfl)))
  k_with "mine lt3" => (first | k_extra "mine lt2" | ((with_reducible refine' ltT ?zth ?ztk); (case zth => with_reducible assumption); (case ztk => first | k_extra "mine lt2" | ((with_reducible refine' ltT ?zuh ?zuk); (case zuh => with_reducible assumption); (case zuk => k_extra "mine lt2")))) | ((with_reducible refine lt_dn ?_); first | k_extra "mine lt1" | ((with_reducible refine lt_dn ?_); first | k_extra "mine lt1" | ((with_reducible refine lt_dn ?_); first | k_extra "mine lt1" | ((with_reducible refine lt_dn ?_); first | k_extra "mine lt1" | ((with_reducible refine lt_dn ?_); k_extra "mine lt1"))))))
  k_with "mine lt" => (first | (with_reducible exact lt_one) | ((with_reducible show _ < _ + _); (with_reducible refine lt_up ?_); k_extra "mine lt") | ((fail_if_success (with_reducible show _ < _ + _)); k_extra "mine lt3"))
  k_with "mine ne0" => (first | (with_reducible assumption) | (with_reducible exact Ne.symm (by with_reducible assumption)) | (exact neLits rfl) | ((with_reducible refine Nat.ne_of_gt ?_); k_extra "mine lt") | ((with_reducible refine Nat.ne_of_lt ?_); k_extra "mine lt"))
  k_with "mine ne" => ((try dsimp only); (first | k_extra "mine ne0" | k_extra "mine omegaF"))
  k_with "mine rm" => (first | (with_reducible exact room0 (by with_reducible assumption)) | ((with_reducible refine' roomLe ?zrh ?zrk); (case zrh => with_reducible assumption); (case zrk => exact rfl)) | ((with_reducible refine roomS ?_); k_extra "mine rm"))
  k_with "mine le" => (first | (exact leLits rfl) | ((with_reducible refine' leLit ?zmh ?zmk); (case zmh => with_reducible assumption); (case zmk => exact rfl)) | ((with_reducible refine Nat.le_of_lt ?_); k_extra "mine lt"))
  k_with "mine lg" => (first | (exact ltLits rfl) | k_extra "mine rm" | ((with_reducible refine' ltOf ?znh ?znk); (case znh => with_reducible assumption); (case znk => exact rfl)) | k_extra "mine lt")
  k_with "mine ill" => (first | (with_reducible assumption) | decide | ((with_reducible refine' intLtLt ?zi1h ?zi1k); (case zi1h => with_reducible assumption); (case zi1k => decide)) | ((with_reducible refine' intLeLt ?zi2h ?zi2k); (case zi2h => with_reducible assumption); (case zi2k => decide)) | ((with_reducible refine' intRoom ?zi3h ?zi3k); (case zi3h => with_reducible assumption); (case zi3k => decide)) | ((with_reducible refine' intAddLt ?zi4h ?zi4k); (case zi4h => with_reducible assumption); (case zi4k => decide)) | ((with_reducible refine intS ?_); k_extra "mine ill"))
  k_with "mine ile" => (first | (with_reducible assumption) | decide | ((with_reducible refine intNn ?_); k_extra "mine ile") | ((with_reducible refine' intLtLe ?zi5h ?zi5k); (case zi5h => with_reducible assumption); (case zi5k => decide)) | ((with_reducible refine' intLeLe ?zi6h ?zi6k); (case zi6h => with_reducible assumption); (case zi6k => decide)) | ((with_reducible refine' intGeGe ?zi7h ?zi7k); (case zi7h => with_reducible assumption); (case zi7k => decide)) | ((with_reducible refine' intAddLe ?zi8h ?zi8k); (case zi8h => with_reducible assumption); (case zi8k => decide)) | ((with_reducible refine' intAddGe ?zi9h ?zi9k); (case zi9h => with_reducible assumption); (case zi9k => decide)) | ((with_reducible refine' intSubGe ?zi10h ?zi10k); (case zi10h => with_reducible assumption); (case zi10k => decide)) | ((with_reducible refine' intSubLe ?zi11h ?zi11k); (case zi11h => with_reducible assumption); (case zi11k => decide)))
  k_with "mine omegaF" => (first | ((repeat ((with_reducible rename _ ∧ _ => kz); clear kz)); (repeat ((with_reducible rename _ ≠ _ => kz); clear kz)); omega (config := {})) | omega (config := {}))
  k_with "mine omega" => (first | (with_reducible assumption) | ((with_reducible show @Ne Nat _ _); k_extra "mine ne0") | ((with_reducible show @LT.lt Nat _ _ _); k_extra "mine lg") | ((with_reducible show @LE.le Nat _ _ _); k_extra "mine le") | ((with_reducible show @LT.lt Int _ _ _); k_extra "mine ill") | ((with_reducible show @LE.le Int _ _ _); k_extra "mine ile") | ((with_reducible refine' ⟨?zoa, ?zob⟩); (case zoa => k_extra "mine ile"); (case zob => k_extra "mine ile")) | k_extra "mine omegaF")
  exact True.intro

set_option maxRecDepth 100000
section
variable {prog : Program} {w : World} {A : Around} {E : Value → Shared → Prop} {s : Shared} {h₀ : Heap} {L : Addr} {news : List (Addr × Obj)} {Q : Value → Shared → Prop}

theorem dict_same_ne {d1 d2 : Addr} {o1 o2 : Obj} {kvs : List (Int × Value)} (N : News h₀ L s.heap news) (m1 : (d1, o1) ∈ news) (m2 : (d2, o2) ∈ news)
    (h1 : o1.IsDictOf (intKind prog w) kvs) (h2 : o2.IsDictOf (intKind prog w) kvs) (lo1 : (d1 == sysModules) = false) (lo2 : (d2 == sysModules) = false) (hu : A.units < cLine) (h : Q (.bool false) s) :
    wpAny (model prog w) A (compareOp .NotEq (.ref d1) (.ref d2)) Q E s := by
  have D1 := Heap.dictOf_iff.mpr ⟨_, (N _ m1).1, h1⟩
  have D2 := Heap.dictOf_iff.mpr ⟨_, (N _ m2).1, h2⟩
  obtain ⟨_, _, _, _, _, _, hn⟩ := h1
  refine keq_ne (r := true) lo1 lo2 D1 D2 hu (fun _ => hits_of fun k v hm => ⟨v, valueAt_mem hn hm, SeqAt.EqAt.same v⟩) ?_
  simpa using h

/-- two lists of one tuple each -/
theorem one_tuple {l1 l2 T1 T2 : Addr} {b : Bool} {v : Value} {n1 n2 : Nat} (N : News h₀ L s.heap news) (m1 : (l1, W.listOf #[.ref T1] n1) ∈ news) (m2 : (l2, W.listOf #[.ref T2] n2) ∈ news)
    (t1 : (T1, ({ cls := .type "tuple", data := .seq #[.bool b, v] } : Obj)) ∈ news) (t2 : (T2, ({ cls := .type "tuple", data := .seq #[.bool b, v] } : Obj)) ∈ news) (hne : T1 ≠ T2)
    (hu : A.units + 64 < cLine) (h : Q (.bool true) s) :
    wpAny (model prog w) A (compareOp .Eq (.ref l1) (.ref l2)) Q E s := by
  have L1 : s.heap.IsList l1 #[.ref T1] := ⟨_, (N _ m1).1, rfl, n1, rfl⟩
  have L2 : s.heap.IsList l2 #[.ref T2] := ⟨_, (N _ m2).1, rfl, n2, rfl⟩
  have U1 : s.heap.IsTuple T1 #[.bool b, v] := ⟨_, (N _ t1).1, rfl, _, rfl⟩
  have U2 : s.heap.IsTuple T2 #[.bool b, v] := ⟨_, (N _ t2).1, rfl, _, rfl⟩
  refine SeqAt.eq_listAt (e := fun _ => true) L1 L2 rfl (by omega) (fun j h1 h2 => ?_) h
  have hj : j = 0 := by simpa using h1
  subst hj
  refine SeqAt.EqAt.of_refs hne ?_
  refine SeqAt.RcAt.tuples (e := fun _ => true) U1 U2 (by show A.units + 1 < cLine; omega) fun j h1 h2 => ?_
  exact SeqAt.EqAt.same _

theorem two_nil {l1 l2 : Addr} {n1 n2 : Nat} (N : News h₀ L s.heap news) (m1 : (l1, W.listOf #[] n1) ∈ news) (m2 : (l2, W.listOf #[] n2) ∈ news)
    (hu : A.units + 64 < cLine) (h : Q (.bool true) s) :
    wpAny (model prog w) A (compareOp .Eq (.ref l1) (.ref l2)) Q E s := by
  have L1 : s.heap.IsList l1 #[] := ⟨_, (N _ m1).1, rfl, n1, rfl⟩
  have L2 : s.heap.IsList l2 #[] := ⟨_, (N _ m2).1, rfl, n2, rfl⟩
  exact SeqAt.eq_listAt (e := fun _ => true) L1 L2 rfl (by omega) (fun j h1 h2 => by simp at h1) h

/-- an item of a list, by a place in it -/
theorem item_at {value l r : PySem.Expr} {op : Operator} {ps : Pos} {a : Addr} {vs : List Value} {k : Int} {u : Tok} {n : Nat} (N : News h₀ L s.heap news) (hl : (a, W.listOf vs.toArray n) ∈ news) (h0 : 0 ≤ k) (h1 : k < vs.length) (h2 : vs.length ≤ 1000)
    (h : Q (vs.getD k.toNat .none) s) : wpAny (model prog w) A (subscriptTail value (.BinOp l op r ps) (.ref a) (.int k u)) Q E s := by
  have hL : s.heap.IsList a vs.toArray := ⟨_, (N _ hl).1, rfl, n, rfl⟩
  have hs : subscripted (.BinOp l op r ps) false (.ref a) (.int k u) = operate [.ref a, .int k u] (getItem (.ref a) (.int k u)) := rfl
  have hk : k.toNat < vs.length := by omega
  refine tail_any hL.typeIs slot_list_getitem.lookup (wpAny_getItem_list hL h0 (by omega) (x := vs[k.toNat]) (by simp [hk]) ?_) hs
  rwa [List.getD_eq_getElem?_getD, List.getElem?_eq_getElem hk] at h
end

theorem valueAt_fill (vs : List Value) : ∀ (i : Nat) (k : Int), valueAt (fillTo vs i) k = if 1 ≤ k ∧ k ≤ (i : Int) then some (vs.getD (k - 1).toNat .none) else none
  | 0, k => by
    rw [if_neg (by omega)]
    rfl
  | i + 1, k => by
    show valueAt (stored (fillTo vs i) ((i : Int) + 1) (vs.getD i .none)) k = _
    rw [valueAt_put, valueAt_fill vs i k]
    by_cases h : k = (i : Int) + 1
    · subst h
      rw [if_pos rfl, if_pos (by omega)]
      congr 2
      omega
    · rw [if_neg h]
      by_cases h2 : 1 ≤ k ∧ k ≤ (i : Int)
      · rw [if_pos h2, if_pos (by omega)]
      · rw [if_neg h2, if_neg (by omega)]

/-- three objects in front, the rest unnamed -/
theorem take2o {h₀ h : Heap} {L bk sn tol : Addr} {ob os ot : Obj} {news : List (Addr × Obj)} (N : News h₀ L h news) (m1 : (bk, ob) ∈ news) (m2 : (sn, os) ∈ news) (m3 : (tol, ot) ∈ news) :
    ∃ OT, News h₀ L h ((bk, ob) :: (sn, os) :: (tol, ot) :: OT) ∧ (∀ q ∈ OT, q.1 ≠ bk) ∧ (∀ q ∈ OT, q.1 ≠ sn) ∧ (∀ q ∈ OT, q.1 ≠ tol) ∧ (∀ q ∈ OT, q ∈ news) ∧ ∀ q ∈ news, q.1 ≠ bk → q.1 ≠ sn → q.1 ≠ tol → q ∈ OT := by
  refine ⟨news.filter fun q => decide (q.1 ≠ bk) && (decide (q.1 ≠ sn) && decide (q.1 ≠ tol)), news_sub N fun p hp => ?_, fun q hq => ?_, fun q hq => ?_, fun q hq => ?_, fun q hq => (List.mem_filter.mp hq).1, fun q hq h1 h2 h3 => ?_⟩
  · rcases List.mem_cons.mp hp with rfl | hp
    · exact m1
    rcases List.mem_cons.mp hp with rfl | hp
    · exact m2
    rcases List.mem_cons.mp hp with rfl | hp
    · exact m3
    · exact (List.mem_filter.mp hp).1
  · have := (List.mem_filter.mp hq).2
    simp only [Bool.and_eq_true, decide_eq_true_eq] at this
    exact this.1
  · have := (List.mem_filter.mp hq).2
    simp only [Bool.and_eq_true, decide_eq_true_eq] at this
    exact this.2.1
  · have := (List.mem_filter.mp hq).2
    simp only [Bool.and_eq_true, decide_eq_true_eq] at this
    exact this.2.2
  · exact List.mem_filter.mpr ⟨hq, by simp [h1, h2, h3]⟩
end

-- Join
section
open PySem PySem.W PyProof.Rows PySem.Calls
open PySem.Builtin
theorem rows_join : True := by
  k_with_none
  k_with "mine and" => (first | (with_reducible exact And.left) | ((with_reducible refine andR ?_); first | (with_reducible exact id) | k_extra "mine and"))
  k_with "mine lt1" => (first | (with_reducible assumption) | ((with_reducible refine' viaC ?zvh ?zvk); (case zvh => with_reducible assumption); (case zvk => k_extra "mine and")))
  k_with "mine lt2" => (first | k_extra "mine lt1" | ((with_reducible refine' ltLit ?zlh ?zlk); (case zlh => with_reducible assumption); (case zlk => exact rfl)))
  k_with "mine lt3" => (first | k_extra "mine lt2" | ((with_reducible refine' ltT ?zth ?ztk); (case zth => with_reducible assumption); (case ztk => first | k_extra "mine lt2" | ((with_reducible refine' ltT ?zuh ?zuk); (case zuh => with_reducible assumption); (case zuk => k_extra "mine lt2")))) | ((with_reducible refine lt_dn ?_); first | k_extra "mine lt1" | ((with_reducible refine lt_dn ?_); first | k_extra "mine lt1" | ((with_reducible refine lt_dn ?_); first | k_extra "mine lt1" | ((with_reducible refine lt_dn ?_); first | k_extra "mine lt1" | ((with_reducible refine lt_dn ?_); k_extra "mine lt1"))))))
  k_with "mine lt" => (first | (with_reducible exact lt_one) | ((with_reducible show _ < _ + _); (with_reducible refine lt_up ?_); k_extra "mine lt") | ((fail_if_success (with_reducible show _ < _ + _)); k_extra "mine lt3"))
  k_with "mine ne0" => (first | (with_reducible assumption) | (with_reducible exact Ne.symm (by with_reducible assumption)) | (exact neLits rfl) | ((with_reducible refine Nat.ne_of_gt ?_); k_extra "mine lt") | ((with_reducible refine Nat.ne_of_lt ?_); k_extra "mine lt"))
  k_with "mine ne" => ((try dsimp only); (first | k_extra "mine ne0" | k_extra "mine omegaF"))
  k_with "mine rm" => (first | (with_reducible exact room0 (by with_reducible assumption)) | ((with_reducible refine' roomLe ?zrh ?zrk); (case zrh => with_reducible assumption); (case zrk => exact rfl)) | ((with_reducible refine roomS ?_); k_extra "mine rm"))
  k_with "mine le" => (first | (exact leLits rfl) | ((with_reducible refine' leLit ?zmh ?zmk); (case zmh => with_reducible assumption); (case zmk => exact rfl)) | ((with_reducible refine Nat.le_of_lt ?_); k_extra "mine lt"))
  k_with "mine lg" => (first | (exact ltLits rfl) | k_extra "mine rm" | ((with_reducible refine' ltOf ?znh ?znk); (case znh => with_reducible assumption); (case znk => exact rfl)) | k_extra "mine lt")
  k_with "mine ill" => (first | (with_reducible assumption) | decide | ((with_reducible refine' intLtLt ?zi1h ?zi1k); (case zi1h => with_reducible assumption); (case zi1k => decide)) | ((with_reducible refine' intLeLt ?zi2h ?zi2k); (case zi2h => with_reducible assumption); (case zi2k => decide)) | ((with_reducible refine' intRoom ?zi3h ?zi3k); (case zi3h => with_reducible assumption); (case zi3k => decide)) | ((with_reducible refine' intAddLt ?zi4h ?zi4k); (case zi4h => with_reducible assumption); (case zi4k => decide)) | ((with_reducible refine intS ?_); k_extra "mine ill"))
  k_with "mine ile" => (first | (with_reducible assumption) | decide | ((with_reducible refine intNn ?_); k_extra "mine ile") | ((with_reducible refine' intLtLe ?zi5h ?zi5k); (case zi5h => with_reducible assumption); (case zi5k => decide)) | ((with_reducible refine' intLeLe ?zi6h ?zi6k); (case zi6h => with_reducible assumption); (case zi6k => decide)) | ((with_reducible refine' intGeGe ?zi7h ?zi7k); (case zi7h => with_reducible assumption); (case zi7k => decide)) | ((with_reducible refine' intAddLe ?zi8h ?zi8k); (case zi8h => with_reducible assumption); (case zi8k => decide)) | ((with_reducible refine' intAddGe ?zi9h ?zi9k); (case zi9h => with_reducible assumption); (case zi9k => decide)) | ((with_reducible refine' intSubGe ?zi10h ?zi10k); (case zi10h => with_reducible assumption); (case zi10k => decide)) | ((with_reducible refine' intSubLe ?zi11h ?zi11k); (case zi11h => with_reducible assumption); (case zi11k => decide)))
  k_with "mine omegaF" => (first | ((repeat ((with_reducible rename _ ∧ _ => kz); clear kz)); (repeat ((with_reducible rename _ ≠ _ => kz); clear kz)); omega (config := {})) | omega (config := {}))
  k_with "mine omega" => (first | (with_reducible assumption) | ((with_reducible show @Ne Nat _ _); k_extra "mine ne0") | ((with_reducible show @LT.lt Nat _ _ _); k_extra "mine lg") | ((with_reducible show @LE.le Nat _ _ _); k_extra "mine le") | ((with_reducible show @LT.lt Int _ _ _); k_extra "mine ill") | ((with_reducible show @LE.le Int _ _ _); k_extra "mine ile") | ((with_reducible refine' ⟨?zoa, ?zob⟩); (case zoa => k_extra "mine ile"); (case zob => k_extra "mine ile")) | k_extra "mine omegaF")
  exact True.intro

set_option maxRecDepth 100000

/-- bytes values -/
inductive BytesAre : List Value → List (Array UInt8) → Prop
  | nil : BytesAre [] []
  | cons (b : Array UInt8) (t : Tok) {vs bs} : BytesAre vs bs → BytesAre (.bytes b t :: vs) (b :: bs)
theorem BytesAre.length : ∀ {vs bs}, BytesAre vs bs → vs.length = bs.length
  | _, _, .nil => rfl
  | _, _, .cons _ _ h => by simp [h.length]
theorem BytesAre.get : ∀ {vs bs}, BytesAre vs bs → ∀ i, i < bs.length → ∃ t, vs[i]? = some (.bytes (bs.getD i #[]) t)
  | _, _, .cons b t _, 0, _ => ⟨t, rfl⟩
  | _, _, .cons b t h, i + 1, hi => by
    obtain ⟨t', e⟩ := h.get i (by simpa using hi)
    exact ⟨t', by simpa using e⟩

theorem take_quiet {id : String} {b : Array UInt8} {t : Tok} : Bytes.takeBufferQuiet? id (.bytes b t) 0 = pure (some (b, none)) := by
  unfold Bytes.takeBufferQuiet? Bytes.takeBuffer?
  rw [KBy.special_eq KBy.look_buffer, KBy.own_buffer, show ((0 : Int) == Bytes.fullReadOnly) = false from by decide, KBy.buffer_eq]
  kernel_rfl

theorem let_go {M : Model} {A : Around} {E : Value → Shared → Prop} {s : Shared} {Q : Unit → Shared → Prop} : ∀ (vs keep : List Value), Q () s → wpAny M A (Bytes.joinLetGo (vs.map fun v => (v, none)) keep) Q E s
  | [], _, h => wpAny_pure h
  | v :: r, keep, h => by
    show wpAny M A (Bytes.joinLetGo ((v, none) :: r.map fun v => (v, none)) keep) Q E s
    unfold Bytes.joinLetGo
    dsimp only
    refine wpAny_bind ?_
    show wpAny M A (letGo [v] _) _ E s
    unfold letGo
    refine wpAny_bind (wpAny_holding (wpAny_point ?_))
    unfold letGo
    exact wpAny_pure (let_go r keep h)

theorem BytesAre.heapless : ∀ {vs bs}, BytesAre vs bs → ∀ v ∈ vs, v.onHeap = false
  | _, _, .cons b t h, v, hv => by
    rcases List.mem_cons.mp hv with rfl | hv
    · rfl
    · exact h.heapless v hv

theorem run_join {prog : Program} {w : World} {A : Around} {E : Value → Shared → Prop} {s : Shared} {l : Addr} {vs : List Value} {bs : List (Array UInt8)} {sep : Array UInt8} {t : Tok} {P : Fin → Shared → Prop}
    (hl : s.heap.IsList l vs.toArray) (hb : BytesAre vs bs) (hz : (Bytes.joined sep bs).size ≤ 1000000) (hf : bs.toArray.foldl (fun a b => a + b.size) (sep.size * (bs.length - 1)) ≤ 1000000)
    (h : ∀ t' k, P (.done (.ret (.bytes (Bytes.joined sep bs) t'))) { s with toks := k }) :
    wpAny (model prog w) A (Builtin.«bytes.join» ⟨[.bytes sep t, .ref l], []⟩) P E s := by
  obtain ⟨o, ho, hc, n, hd⟩ := id hl
  unfold Builtin.«bytes.join» Bytes.joinM
  refine wpAny_bind (wpAny_of_eq (a := (Value.bytes sep t, Value.ref l)) rfl ?_)
  dsimp only
  rw [if_pos (show (Bytes.Kind.bytes == Bytes.Kind.bytes) = true by decide)]
  refine wpAny_bind ?_
  unfold Bytes.joinItems
  refine wpAny_bind (wpAny_typeOf hl.typeIs ?_)
  rw [if_pos (by decide)]
  refine wpAny_pure (wpAny_bind ?_)
  have hsq : ∀ {Q : Option (Array Value) → Shared → Prop}, Q (some vs.toArray) s → wpAny (model prog w) A (seqItems? (.ref l)) Q E s := fun hq => by
    unfold seqItems?
    refine wpAny_bind (wpAny_load ho ?_)
    rw [hd]
    exact wpAny_pure hq
  refine hsq ?_
  dsimp only
  rw [if_pos (show (Bytes.Kind.bytes == Bytes.Kind.bytes) = true by decide)]
  by_cases h1 : ∃ x, vs = [x]
  · obtain ⟨x, rfl⟩ := h1
    cases hb with
    | cons b t1 h0 =>
      cases h0
      show wpAny _ _ (typeOf (.bytes b t1) >>= _) _ _ s
      refine wpAny_bind (wpAny_typeOf (typeIs_bytes s b t1) ?_)
      rw [if_pos (by decide)]
      refine wpAny_bind (wpAny_rule (wpAny_pure ?_))
      show P (.done (.ret (.bytes b t1))) s
      have := h t1 s.toks
      rw [show Bytes.joined sep [b] = b by simp [Bytes.joined]] at this
      exact this
  · have hvl := hb.length
    obtain ⟨vs0, hvs⟩ : ∃ v0, v0 = vs := ⟨_, rfl⟩
    refine (fun (key : wpAny (model prog w) A ?B P E s) => ?use) ?key
    case use =>
      rcases vs with _ | ⟨v, r⟩
      rotate_left
      · rcases r with _ | ⟨v2, r⟩
        · exact absurd ⟨v, rfl⟩ h1
        · show wpAny _ _ (forIn _ _ _ >>= _) _ _ s
          rw [← hvs]
          exact key
      · subst hvs
        exact key
    rw [← hvs] at hb hvl hsq
    refine wpAny_bind ?_
    rw [Std.Legacy.Range.forIn_eq_forIn_range']
    simp only [Std.Legacy.Range.size, Nat.sub_zero, Nat.add_sub_cancel, Nat.div_one]
    refine wpAny_forIn_list _ (fun rest q s' => s' = s ∧ ∃ i, rest = List.range' i (vs0.length - i) ∧ i ≤ vs0.length ∧ q = ((bs.take i).toArray, (vs0.take i).map fun v => (v, none))) _ ?_ ?_ _ _ ⟨rfl, 0, by simp, Nat.zero_le _, by simp⟩
    · rintro x rest q s' ⟨rfl, i, hr, hi, rfl⟩
      have hlt : i < vs0.length := by
        rcases Nat.lt_or_ge i vs0.length with h | h
        · exact h
        · rw [Nat.sub_eq_zero_of_le h] at hr; simp at hr
      obtain ⟨rfl, hrest⟩ : x = i ∧ rest = List.range' (i + 1) (vs0.length - (i + 1)) := by
        have e : vs0.length - i = (vs0.length - (i + 1)) + 1 := by omega
        rw [e, List.range'_succ] at hr
        injection hr with h1 h2
        exact ⟨h1, h2⟩
      obtain ⟨tx, hx⟩ := hb.get x (by omega)
      have hg : vs0.toArray.getD x .none = .bytes (bs.getD x #[]) tx := by
        rw [Array.getD_eq_getD_getElem?, List.getElem?_toArray, hx]; rfl
      refine wpAny_bind (hsq ?_)
      dsimp only
      have hany : ((vs0.take x).map fun v => (v, (none : Option Value))).any (fun y => y.1.onHeap) = false := by
        rw [List.any_map, List.any_eq_false]
        intro v hv
        simp [hb.heapless v (List.mem_of_mem_take hv)]
      rw [if_neg (by
        show ¬ ((Bytes.Kind.bytes == Bytes.Kind.bytearray || ((vs0.take x).map fun v => (v, (none : Option Value))).any (fun y => y.1.onHeap)) = true)
        rw [hany]
        decide)]
      rw [hg]
      refine wpAny_bind (wpAny_holding (wpAny_of_eq take_quiet ?_))
      dsimp only
      refine wpAny_bind (hsq ?_)
      dsimp only
      rw [if_neg (by simp)]
      refine wpAny_pure ⟨rfl, x + 1, hrest, hlt, ?_⟩
      have hx2 : vs0[x]'hlt = .bytes (bs.getD x #[]) tx := by
        rw [List.getElem?_eq_getElem hlt] at hx; exact Option.some.inj hx
      have hxb : x < bs.length := by omega
      rw [List.take_succ_eq_append_getElem hlt, List.take_succ_eq_append_getElem hxb, List.map_append, hx2]
      congr 1
      rw [List.getD_eq_getElem?_getD, List.getElem?_eq_getElem hxb]
      simp
    · rintro q s' ⟨rfl, i, hr, hi, rfl⟩
      have hin : i = vs0.length := by
        rcases Nat.lt_or_ge i vs0.length with h | h
        · have e : vs0.length - i = (vs0.length - (i + 1)) + 1 := by omega
          rw [e, List.range'_succ] at hr; exact nomatch hr
        · exact Nat.le_antisymm hi h
      subst hin
      rw [List.take_length, List.take_of_length_le (by omega)]
      refine wpAny_bind (wpAny_of_eq (a := sep) rfl ?_)
      dsimp only
      rw [if_neg (by
        have e : bs.toArray.size = bs.length := List.size_toArray
        rw [Bool.not_eq_true, KBy.tooLong_not]
        rw [e]
        exact Nat.le_trans hf (by decide))]
      refine wpAny_bind (wpAny_mkBytes ?_ (by rw [sizeLine_eq]; show (Bytes.joined sep bs).size ≤ _; omega))
      refine wpAny_bind (wpAny_holding (wpAny_point ?_))
      refine wpAny_bind (let_go vs0 _ ?_)
      exact wpAny_pure (h _ _)

theorem slot_bjoin : Slot "bytes" "join" "bytes.join" :=
  .of (owner := "bytes") (n := "join") (by rw [typeLookup_type, builtinLookup_eq_fast]; kernel_rfl) (by decide +kernel) (by decide +kernel) (by decide +kernel)
    (by first | exact .inl (by decide +kernel) | exact .inr (by decide +kernel)) (by rw [isSubtype_type]; kernel_rfl)
theorem type_bjoin : typeOf (.builtin "bytes.join") = pure (.type "method_descriptor") := by show builtinType _ = _; rw [builtinType_eq_fast]; kernel_rfl
theorem entry_bjoin : entryFor table "bytes.join" = some Builtin.«bytes.join» := entryFor_of_tree (by kernel_rfl)
theorem args_bjoin (a b : Value) : argsOk "bytes.join" ⟨[a, b], []⟩ := by
  unfold argsOk; rw [signature?_of (id := "bytes.join") (n := ['n', 'i', 'o', 'j']) (o := ['s', 'e', 't', 'y', 'b']) (by kernel_rfl) FB.owner_bytes]; kernel_rfl

/-- `between.join` -/
theorem join_method {M : Model} {A : Around} {E : Value → Shared → Prop} {s : Shared} {b : Array UInt8} {t : Tok} {pl : Sem Bool} {Q : Value × List Value → Shared → Prop} (h : Q (.builtin "bytes.join", [.bytes b t]) s) : wpAny M A (getMethod (.bytes b t) "join" pl) Q E s := by
  exact KBd.method_of (.bytes b t) (typeIs_bytes _ _ _) slot_bjoin type_bjoin (fun _ e => nomatch e) h

theorem join_call {prog : Program} {w : World} {A : Around} {E : Value → Shared → Prop} {s : Shared} {h₀ : Heap} {L l : Addr} {news : List (Addr × Obj)} {vs : List Value} {n : Nat} {bs : List (Array UInt8)} {sep : Array UInt8} {t : Tok} {Q : Value → Shared → Prop}
    (N : News h₀ L s.heap news) (hl : (l, W.listOf vs.toArray n) ∈ news) (hb : BytesAre vs bs) (hz : (Bytes.joined sep bs).size ≤ 1000000) (hf : bs.toArray.foldl (fun a b => a + b.size) (sep.size * (bs.length - 1)) ≤ 1000000)
    (h : ∀ t' k, Q (.bytes (Bytes.joined sep bs) t') { s with toks := k }) :
    wpAny (model prog w) A (call (.builtin "bytes.join") [.bytes sep t, .ref l]) Q E s :=
  wpAny_call (codeAny_call_builtin slot_bjoin.plain entry_bjoin (slot_bjoin.check _ _ _ _ _ _ _ _ (typeIs_bytes s sep t) (args_bjoin _ _) (run_join ⟨_, (N _ hl).1, rfl, n, rfl⟩ hb hz hf h)))
end

-- JPlain
section
open PySem PySem.W PyProof.Rows PySem.Calls
open PySem.Builtin
theorem rows_jplain : True := by
  k_with_none
  k_with "mine and" => (first | (with_reducible exact And.left) | ((with_reducible refine andR ?_); first | (with_reducible exact id) | k_extra "mine and"))
  k_with "mine lt1" => (first | (with_reducible assumption) | ((with_reducible refine' viaC ?zvh ?zvk); (case zvh => with_reducible assumption); (case zvk => k_extra "mine and")))
  k_with "mine lt2" => (first | k_extra "mine lt1" | ((with_reducible refine' ltLit ?zlh ?zlk); (case zlh => with_reducible assumption); (case zlk => exact rfl)))
  k_with "mine lt3" => (first | k_extra "mine lt2" | ((with_reducible refine' ltT ?zth ?ztk); (case zth => with_reducible assumption); (case ztk => first | k_extra "mine lt2" | ((with_reducible refine' ltT ?zuh ?zuk); (case zuh => with_reducible assumption); (case zuk => k_extra "mine lt2")))) | ((with_reducible refine lt_dn ?_); first | k_extra "mine lt1" | ((with_reducible refine lt_dn ?_); first | k_extra "mine lt1" | ((with_reducible refine lt_dn ?_); first | k_extra "mine lt1" | ((with_reducible refine lt_dn ?_); first | k_extra "mine lt1" | ((with_reducible refine lt_dn ?_); k_extra "mine lt1"))))))
  k_with "mine lt" => (first | (with_reducible exact lt_one) | ((with_reducible show _ < _ + _); (with_reducible refine lt_up ?_); k_extra "mine lt") | ((fail_if_success (with_reducible show _ < _ + _)); k_extra "mine lt3"))
  k_with "mine ne0" => (first | (with_reducible assumption) | (with_reducible exact Ne.symm (by with_reducible assumption)) | (exact neLits rfl) | ((with_reducible refine Nat.ne_of_gt ?_); k_extra "mine lt") | ((with_reducible refine Nat.ne_of_lt ?_); k_extra "mine lt"))
  k_with "mine ne" => ((try dsimp only); (first | k_extra "mine ne0" | k_extra "mine omegaF"))
  k_with "mine rm" => (first | (with_reducible exact room0 (by with_reducible assumption)) | ((with_reducible refine' roomLe ?zrh ?zrk); (case zrh => with_reducible assumption); (case zrk => exact rfl)) | ((with_reducible refine roomS ?_); k_extra "mine rm"))
  k_with "mine le" => (first | (exact leLits rfl) | ((with_reducible refine' leLit ?zmh ?zmk); (case zmh => with_reducible assumption); (case zmk => exact rfl)) | ((with_reducible refine Nat.le_of_lt ?_); k_extra "mine lt"))
  k_with "mine lg" => (first | (exact ltLits rfl) | k_extra "mine rm" | ((with_reducible refine' ltOf ?znh ?znk); (case znh => with_reducible assumption); (case znk => exact rfl)) | k_extra "mine lt")
  k_with "mine ill" => (first | (with_reducible assumption) | decide | ((with_reducible refine' intLtLt ?zi1h ?zi1k); (case zi1h => with_reducible assumption); (case zi1k => decide)) | ((with_reducible refine' intLeLt ?zi2h ?zi2k); (case zi2h => with_reducible assumption); (case zi2k => decide)) | ((with_reducible refine' intRoom ?zi3h ?zi3k); (case zi3h => with_reducible assumption); (case zi3k => decide)) | ((with_reducible refine' intAddLt ?zi4h ?zi4k); (case zi4h => with_reducible assumption); (case zi4k => decide)) | ((with_reducible refine intS ?_); k_extra "mine ill"))
  k_with "mine ile" => (first | (with_reducible assumption) | decide | ((with_reducible refine intNn ?_); k_extra "mine ile") | ((with_reducible refine' intLtLe ?zi5h ?zi5k); (case zi5h => with_reducible assumption); (case zi5k => decide)) | ((with_reducible refine' intLeLe ?zi6h ?zi6k); (case zi6h => with_reducible assumption); (case zi6k => decide)) | ((with_reducible refine' intGeGe ?zi7h ?zi7k); (case zi7h => with_reducible assumption); (case zi7k => decide)) | ((with_reducible refine' intAddLe ?zi8h ?zi8k); (case zi8h => with_reducible assumption); (case zi8k => decide)) | ((with_reducible refine' intAddGe ?zi9h ?zi9k); (case zi9h => with_reducible assumption); (case zi9k => decide)) | ((with_reducible refine' intSubGe ?zi10h ?zi10k); (case zi10h => with_reducible assumption); (case zi10k => decide)) | ((with_reducible refine' intSubLe ?zi11h ?zi11k); (case zi11h => with_reducible assumption); (case zi11k => decide)))
  k_with "mine omegaF" => (first | ((repeat ((with_reducible rename _ ∧ _ => kz); clear kz)); (repeat ((with_reducible rename _ ≠ _ => kz); clear kz)); omega (config := {})) | omega (config := {}))
  k_with "mine omega" => (first | (with_reducible assumption) | ((with_reducible show @Ne Nat _ _); k_extra "mine ne0") | ((with_reducible show @LT.lt Nat _ _ _); k_extra "mine lg") | ((with_reducible show @LE.le Nat _ _ _); k_extra "mine le") | ((with_reducible show @LT.lt Int _ _ _); k_extra "mine ill") | ((with_reducible show @LE.le Int _ _ _); k_extra "mine ile") | ((with_reducible refine' ⟨?zoa, ?zob⟩); (case zoa => k_extra "mine ile"); (case zob => k_extra "mine ile")) | k_extra "mine omegaF")
  exact True.intro

set_option maxRecDepth 100000

theorem joined_snoc (sep : Array UInt8) (l : List (Array UInt8)) (b : Array UInt8) : Bytes.joined sep (l ++ [b]) = (Bytes.joined sep l ++ (if l.length > 0 then sep else #[])) ++ b := by
  unfold Bytes.joined
  rw [List.zipIdx_append, List.foldl_append]
  simp only [List.zipIdx_cons, List.zipIdx_nil, List.foldl_cons, List.foldl_nil, Nat.zero_add]
  by_cases h : l.length > 0
  · rw [if_pos h, if_pos h]
  · rw [if_neg h, if_neg h, Array.append_empty]

theorem joined_size_le (sep : Array UInt8) (hs : sep.size ≤ 100) : ∀ (n : Nat) (l : List (Array UInt8)), l.length = n → (∀ b ∈ l, b.size ≤ 100) → (Bytes.joined sep l).size ≤ 200 * n := by
  intro n
  induction n with
  | zero => intro l hl _; rw [List.eq_nil_of_length_eq_zero hl]; simp [Bytes.joined]
  | succ n ih =>
    intro l hl h
    have hne : l ≠ [] := fun z => by rw [z] at hl; cases hl
    have e := List.dropLast_concat_getLast hne
    have hd : l.dropLast.length = n := by rw [List.length_dropLast]; omega
    have h1 := ih l.dropLast hd fun x hx => h x (List.dropLast_subset _ hx)
    have h2 := h _ (List.getLast_mem hne)
    rw [← e, joined_snoc, Array.size_append, Array.size_append]
    have h3 : (if l.dropLast.length > 0 then sep else #[]).size ≤ 100 := by
      split
      · exact hs
      · simp
    omega

theorem fold_size_le : ∀ (l : List (Array UInt8)) (a : Nat), (∀ b ∈ l, b.size ≤ 100) → l.toArray.foldl (fun a b => a + b.size) a ≤ a + 100 * l.length := by
  intro l a h
  rw [List.foldl_toArray]
  induction l generalizing a with
  | nil => simp
  | cons b r ih =>
    have h1 := h b (.head _)
    have h2 := ih (a + b.size) fun x hx => h x (.tail _ hx)
    rw [List.foldl_cons, List.length_cons]
    omega

/-- so many turns of the law's loop: what is due, and how many are asked -/
def runJ (sep : Array UInt8) (most : Int) (bs : List (Array UInt8)) (off : Nat) : Nat → Option (Array UInt8) × Nat
  | 0 => (some #[], 0)
  | i + 1 => match runJ sep most bs off i with
    | (none, m) => (none, m)
    | (some d, m) => if ((((d ++ (if i > 0 then sep else #[])) ++ bs.getD (off + i) #[]).size : Nat) : Int) ≤ most then (some ((d ++ (if i > 0 then sep else #[])) ++ bs.getD (off + i) #[]), m + 1) else (none, m + 1)

theorem runJ_none {sep : Array UInt8} {most : Int} {bs : List (Array UInt8)} {off : Nat} {i m : Nat} (h : runJ sep most bs off i = (none, m)) : ∀ j, runJ sep most bs off (i + j) = (none, m)
  | 0 => h
  | j + 1 => by
    show (match runJ sep most bs off (i + j) with | (none, m) => _ | (some d, m) => _) = _
    rw [runJ_none h j]
theorem runJ_stop {sep : Array UInt8} {most : Int} {bs : List (Array UInt8)} {off : Nat} {i m n : Nat} {d : Array UInt8} (h : runJ sep most bs off i = (some d, m)) (hn : i < n)
    (hb : most < ((((d ++ (if i > 0 then sep else #[])) ++ bs.getD (off + i) #[]).size : Nat) : Int)) : runJ sep most bs off n = (none, m + 1) := by
  have e : runJ sep most bs off (i + 1) = (none, m + 1) := by
    show (match runJ sep most bs off i with | (none, m) => _ | (some d, m) => _) = _
    rw [h]
    dsimp only
    rw [if_neg (by omega)]
  have := runJ_none e (n - (i + 1))
  rwa [show i + 1 + (n - (i + 1)) = n by omega] at this
theorem runJ_go {sep : Array UInt8} {most : Int} {bs : List (Array UInt8)} {off : Nat} {i m : Nat} {d : Array UInt8} (h : runJ sep most bs off i = (some d, m))
    (hb : ((((d ++ (if i > 0 then sep else #[])) ++ bs.getD (off + i) #[]).size : Nat) : Int) ≤ most) : runJ sep most bs off (i + 1) = (some ((d ++ (if i > 0 then sep else #[])) ++ bs.getD (off + i) #[]), m + 1) := by
  show (match runJ sep most bs off i with | (none, m) => _ | (some d, m) => _) = _
  rw [h]
  dsimp only
  rw [if_pos hb]

theorem sub_take_succ {bs : List (Array UInt8)} {off i N : Nat} (hi : i < N) (hl : off + N ≤ bs.length) : ((bs.drop off).take N).take (i + 1) = ((bs.drop off).take N).take i ++ [bs.getD (off + i) #[]] := by
  have h1 : i < ((bs.drop off).take N).length := by rw [List.length_take, List.length_drop]; omega
  rw [List.take_succ_eq_append_getElem h1]
  congr 2
  rw [List.getElem_take, List.getElem_drop, List.getD_eq_getElem?_getD, List.getElem?_eq_getElem (by omega)]
  rfl
theorem sub_len {bs : List (Array UInt8)} {off i N : Nat} (hi : i ≤ N) (hl : off + N ≤ bs.length) : (((bs.drop off).take N).take i).length = i := by
  rw [List.length_take, List.length_take, List.length_drop]; omega

theorem joined_step {sep : Array UInt8} {bs : List (Array UInt8)} {off i N : Nat} (hi : i < N) (hl : off + N ≤ bs.length) :
    Bytes.joined sep (((bs.drop off).take N).take (i + 1)) = (Bytes.joined sep (((bs.drop off).take N).take i) ++ (if i > 0 then sep else #[])) ++ bs.getD (off + i) #[] := by
  rw [sub_take_succ hi hl, joined_snoc, sub_len (by omega) hl]

theorem getD_mem {bs : List (Array UInt8)} {k : Nat} (h : ∀ b ∈ bs, b.size ≤ 100) : (bs.getD k #[]).size ≤ 100 := by
  rw [List.getD_eq_getElem?_getD]
  cases e : bs[k]? with
  | none => simp
  | some b => exact h b (List.mem_of_getElem? e)
theorem BytesAre.append : ∀ {vs us bs cs}, BytesAre vs bs → BytesAre us cs → BytesAre (vs ++ us) (bs ++ cs)
  | _, _, _, _, .nil, h => h
  | _, _, _, _, .cons b t g, h => .cons b t (g.append h)
theorem BytesAre.drop : ∀ {vs bs} (k : Nat), BytesAre vs bs → BytesAre (vs.drop k) (bs.drop k)
  | _, _, 0, h => h
  | _, _, _ + 1, .nil => .nil
  | _, _, k + 1, .cons _ _ h => h.drop k
theorem BytesAre.take : ∀ {vs bs} (k : Nat), BytesAre vs bs → BytesAre (vs.take k) (bs.take k)
  | _, _, 0, _ => .nil
  | _, _, _ + 1, .nil => .nil
  | _, _, k + 1, .cons b t h => .cons b t (h.take k)

/-- a frame's map whose three names are bound anew -/
abbrev three (x y z : Str) (u v w : Option Value) (f : Str → Option Value) : Str → Option Value := fun q => if q = x then u else if q = y then v else if q = z then w else f q
theorem three_three (x y z : Str) (u v w a b c : Option Value) (f : Str → Option Value) :
    (fun q => if q = x then a else if q = y then b else if q = z then c else three x y z u v w f q) = three x y z a b c f := by
  funext q
  by_cases h1 : q = x
  · simp [three, h1]
  · by_cases h2 : q = y
    · simp [three, h1, h2]
    · by_cases h3 : q = z <;> simp [three, h1, h2, h3]

section
variable {prog : Program} {w : World} {A : Around} {E : Value → Shared → Prop} {s : Shared} {env : Env} {h₀ : Heap} {L : Addr} {Q : Flow → Shared → Prop}
theorem while_three {test : Expr} {body : List Stmt} {pos : Pos} {m₀ : Str → Option Value} {news : List (Addr × Obj)} (x y z : Str) (J : Nat → Option Value → Option Value → Option Value → List (Addr × Obj) → Prop) (n₀ : Nat) {u₀ v₀ w₀ : Option Value}
    (F : Fr h₀ L s.heap m₀) (N : News h₀ L s.heap news) (hx : m₀ x = u₀) (hy : m₀ y = v₀) (hz : m₀ z = w₀) (hJ : J n₀ u₀ v₀ w₀ news)
    (turn : ∀ n a b c news₁ h₁ tk₁, Fr h₀ L h₁ (three x y z a b c m₀) → News h₀ L h₁ news₁ → J n a b c news₁ →
      wpAny (model prog w) A (isTrue test env (eval test env)) (fun r s₂ =>
        if r = true then wpAny (model prog w) A (execs body env) (WhileStep2 h₀ L s (fun n' m' nx => ∃ a' b' c', m' = three x y z a' b' c' m₀ ∧ J n' a' b' c' nx) Q n) E s₂ else Q .next s₂) E { s with heap := h₁, toks := tk₁ })
    (hE : PassesOwn (model prog w) A env E) :
    wpAny (model prog w) A (exec (.While test body [] pos) env) Q E s := by
  have e0 : m₀ = three x y z u₀ v₀ w₀ m₀ := by
    funext q
    show m₀ q = if q = x then u₀ else if q = y then v₀ else if q = z then w₀ else m₀ q
    by_cases h1 : q = x
    · rw [if_pos h1, h1, hx]
    · rw [if_neg h1]
      by_cases h2 : q = y
      · rw [if_pos h2, h2, hy]
      · rw [if_neg h2]
        by_cases h3 : q = z
        · rw [if_pos h3, h3, hz]
        · rw [if_neg h3]
  refine While_inv2 (fun n m nx => ∃ a b c, m = three x y z a b c m₀ ∧ J n a b c nx) F N ⟨_, _, _, e0, hJ⟩ ?_ hE
  rintro n m₁ nx h tk F₁ N₁ ⟨a, b, c, rfl, hJ₁⟩
  exact turn n a b c nx h tk F₁ N₁ hJ₁
end

/-- the text's def -/
def TextOk (w : World) (p : Program) (loose : List Str) (mean : ExcName → Option Value) (mg mb : Str → Option Value) (f aq : Addr) (bs : List (Array UInt8)) (ex : List (Addr × Obj)) : Prop :=
  ∀ (rest : List (Addr × Obj)) (ws : List Value) (n : Nat) (k : Int) (t : Tok), (∀ q ∈ ex, q ∈ rest) → (∀ q ∈ rest, q.1 ≠ aq) → ws.length ≤ 1000 → 1 ≤ k → k ≤ bs.length →
    Does w p loose mean mg mb (.ref f) [.int k t] 6 ((aq, W.listOf ws.toArray n) :: rest)
      (fun v nw => (∃ tx, v = .bytes (bs.getD (k - 1).toNat #[]) tx) ∧ ∃ n', nw = (aq, W.listOf (ws ++ [Value.int k t]).toArray n') :: rest)
      (fun _ => False)

section
variable {w : World} {p : Program} {loose : List Str} {mean : ExcName → Option Value} {mg mb : Str → Option Value}
    {dp un : Nat} {gd : Option (List Code)} {cn : Str} {cs : Scope} {a : Addr} {ccd : Value} {cl : List (Str × Addr)} {outer : List Env} {A₀ : Around} {base h₀ : Heap} {L : Addr} {m : Str → Option Value}
    {news : List (Addr × Obj)} {s : Shared} {Q E : Value → Shared → Prop} {g : Obj → List (Addr × Obj)}

theorem tick_any {tf sn : Addr} {ws : List Value} {c : Nat} {exT : List (Addr × Obj)} {left : Int}
    (B : Below A₀ base outer h₀) (F : Fr h₀ L s.heap m) (X : (hd.heap_39 w.params).In h₀) (N : News h₀ L s.heap news) (T : Top p loose mean mg mb h₀) (hck : cs.kind = .function) (hdp : dp + 6 < recursionLimit) (hu : un + 96 < cLine)
    (U : UpdF sn (W.listOf ws.toArray c) news g) (hT : TickOk w p loose mean mg mb tf sn left exT) (hx : ∀ q ∈ exT, q ∈ news) (hxs : ∀ q ∈ exT, q.1 ≠ sn) (hl : ws.length ≤ 1000) (hle : (ws.length : Int) + 1 ≤ left)
    (h : ∀ x c' h' tk, Fr h₀ L h' m → News h₀ L h' (g (W.listOf (ws ++ [x]).toArray c')) → Q .none { s with heap := h', toks := tk }) :
    wpAny (model PySem.Challenge.rw_pq0674_01.row.prog w) (ktrTop dp un gd cn cs L a ccd cl outer) (call (.ref tf) []) Q E s := by
  obtain ⟨pre, post, rfl, hg, h1, h2⟩ := U.split
  refine hT (pre ++ post) ws c (fun q hq => ?_) (fun q hq => ?_) hl dp un gd cn cs a ccd cl outer A₀ base h₀ L m s Q E B F X (news_sub N mid_sub) T hck hdp hu ?_ ?_
  · rcases mem_mid (hx q hq) with rfl | e
    · exact absurd rfl (hxs _ hq)
    · exact e
  · rcases List.mem_append.mp hq with hq | hq
    · exact h1 q hq
    · exact h2 q hq
  · rintro _ _ h' tk ⟨rfl, _, x, c', rfl⟩ F' N'
    exact h x c' h' tk F' (by rw [hg]; exact news_sub N' sub_mid)
  · rintro e gg h' tk _ ⟨hlt, _⟩ F' R U
    omega

theorem text_any {tf aq : Addr} {ws : List Value} {c : Nat} {exT : List (Addr × Obj)} {bs : List (Array UInt8)} {k : Int} {t : Tok}
    (B : Below A₀ base outer h₀) (F : Fr h₀ L s.heap m) (X : (hd.heap_39 w.params).In h₀) (N : News h₀ L s.heap news) (T : Top p loose mean mg mb h₀) (hck : cs.kind = .function) (hdp : dp + 6 < recursionLimit) (hu : un + 96 < cLine)
    (U : UpdF aq (W.listOf ws.toArray c) news g) (hT : TextOk w p loose mean mg mb tf aq bs exT) (hx : ∀ q ∈ exT, q ∈ news) (hxs : ∀ q ∈ exT, q.1 ≠ aq) (hl : ws.length ≤ 1000) (hk0 : 1 ≤ k) (hk1 : k ≤ bs.length)
    (h : ∀ tx c' h' tk, Fr h₀ L h' m → News h₀ L h' (g (W.listOf (ws ++ [Value.int k t]).toArray c')) → Q (.bytes (bs.getD (k - 1).toNat #[]) tx) { s with heap := h', toks := tk }) :
    wpAny (model PySem.Challenge.rw_pq0674_01.row.prog w) (ktrTop dp un gd cn cs L a ccd cl outer) (call (.ref tf) [.int k t]) Q E s := by
  obtain ⟨pre, post, rfl, hg, h1, h2⟩ := U.split
  refine hT (pre ++ post) ws c k t (fun q hq => ?_) (fun q hq => ?_) hl hk0 hk1 dp un gd cn cs a ccd cl outer A₀ base h₀ L m s Q E B F X (news_sub N mid_sub) T hck hdp hu ?_ ?_
  · rcases mem_mid (hx q hq) with rfl | e
    · exact absurd rfl (hxs _ hq)
    · exact e
  · rcases List.mem_append.mp hq with hq | hq
    · exact h1 q hq
    · exact h2 q hq
  · rintro _ _ h' tk ⟨⟨tx, rfl⟩, c', rfl⟩ F' N'
    exact h tx c' h' tk F' (by rw [hg]; exact news_sub N' sub_mid)
  · rintro _ _ _ _ _ hf
    exact hf.elim
end

/-! small facts of the joined loop, each shown once -/
/-- so many pieces -/
abbrev seg (bs : List (Array UInt8)) (off N i : Nat) : List (Array UInt8) := ((bs.drop off).take N).take i
theorem seg_len {bs : List (Array UInt8)} {off N i c : Nat} (h : bs.length ≤ c) : (seg bs off N i).length ≤ c := by
  simp only [seg, List.length_take, List.length_drop]
  exact Nat.le_trans (Nat.min_le_right _ _) (Nat.le_trans (Nat.min_le_right _ _) (Nat.le_trans (Nat.sub_le _ _) h))
theorem join_room {sep : Array UInt8} {l : List (Array UInt8)} (hs : sep.size ≤ 100) (hl : l.length ≤ 50) (hb : ∀ b ∈ l, b.size ≤ 100) : (Bytes.joined sep l).size ≤ 1000000 :=
  Nat.le_trans (joined_size_le sep hs _ l rfl hb) (Nat.le_trans (Nat.mul_le_mul_left 200 hl) (by decide))
theorem fold_room {sep : Array UInt8} {l : List (Array UInt8)} (hs : sep.size ≤ 100) (hl : l.length ≤ 50) (hb : ∀ b ∈ l, b.size ≤ 100) : l.toArray.foldl (fun a b => a + b.size) (sep.size * (l.length - 1)) ≤ 1000000 :=
  Nat.le_trans (fold_size_le l _ hb) (Nat.le_trans (Nat.add_le_add (Nat.mul_le_mul hs (Nat.le_trans (Nat.sub_le _ _) hl)) (Nat.mul_le_mul_left 100 hl)) (by decide))
theorem seg_mem {bs : List (Array UInt8)} {off N i c : Nat} (h : ∀ b ∈ bs, b.size ≤ c) : ∀ b ∈ seg bs off N i, b.size ≤ c := fun b hb => h b (List.mem_of_mem_drop (List.mem_of_mem_take (List.mem_of_mem_take hb)))
theorem off_eq {f : Int} (h : 1 ≤ f) (j : Nat) : (f + (j : Int) - 1).toNat = (f - 1).toNat + j := by omega
theorem n_le {f l : Int} {N n c : Nat} (h1 : 1 ≤ f) (hl : l ≤ n) (hN : N = (l - f + 1).toNat) (hc : n ≤ c) : N ≤ c := by omega
theorem idx_lt {f l : Int} {N i : Nat} (hN : N = (l - f + 1).toNat) (h : f + (i : Int) ≤ l) : i < N := by omega
theorem idx_end {f l : Int} {N i : Nat} (hN : N = (l - f + 1).toNat) (hi : i ≤ N) (h : ¬ f + (i : Int) ≤ l) : i = N := by omega
theorem idx_le {f l : Int} {N i n : Nat} (h1 : 1 ≤ f) (hl : l ≤ n) (hN : N = (l - f + 1).toNat) (hi : i < N) : (f - 1).toNat + N ≤ n := by omega
theorem dec_lt {r N i : Nat} (hr : r = N - i) (hi : i < N) : N - (i + 1) < r := by omega
theorem step_eq (f : Int) (i : Nat) : f + (i : Int) + 1 = f + ((i + 1 : Nat) : Int) := by rw [Int.natCast_succ, Int.add_assoc]
theorem pos_of {f : Int} {i : Nat} (h : f < f + (i : Int)) : i > 0 := by omega
theorem not_pos {f : Int} {i : Nat} (h : ¬ f < f + (i : Int)) : ¬ i > 0 := by omega
theorem tick_room {u : Nat} {left : Int} (h : u ≤ 50) (hl : 99 ≤ left) : (u : Int) + 1 ≤ left := by omega
theorem td_len {bs : List (Array UInt8)} {a b c : Nat} (h : bs.length ≤ c) : ((bs.drop a).take b).length ≤ c := by
  rw [List.length_take, List.length_drop]
  exact Nat.le_trans (Nat.min_le_right _ _) (Nat.le_trans (Nat.sub_le _ _) h)
theorem td_mem {bs : List (Array UInt8)} {a b c : Nat} (h : ∀ b ∈ bs, b.size ≤ c) : ∀ x ∈ (bs.drop a).take b, x.size ≤ c := fun x hx => h x (List.mem_of_mem_drop (List.mem_of_mem_take hx))
theorem clamp_nat {y : Int} {n : Nat} (h : 0 ≤ y) : max 0 (min y (n : Int)) = ((min y.toNat n : Nat) : Int) := by
  obtain ⟨y, rfl⟩ := Int.eq_ofNat_of_zero_le h
  rw [Int.toNat_natCast]
  rcases Nat.le_total y n with h | h
  · rw [Nat.min_eq_left h, Int.min_eq_left (Int.ofNat_le.mpr h), Int.max_eq_right (Int.natCast_nonneg _)]
  · rw [Nat.min_eq_right h, Int.min_eq_right (Int.ofNat_le.mpr h), Int.max_eq_right (Int.natCast_nonneg _)]
theorem less_nat (n a : Nat) : (if 0 > (n : Int) - a then 0 else (n : Int) - a).toNat = n - a := by
  split
  · rename_i h
    rw [Nat.sub_eq_zero_of_le (Nat.le_of_lt (Int.ofNat_lt.mp (Int.lt_of_sub_neg h)))]; rfl
  · rw [← Int.toNat_sub n a]
theorem pieces_eq {tl bl : Nat} {kl kf : Int} (h : tl = bl) (h0 : 0 ≤ kf) (h1 : 0 ≤ kl) : ((tl : Int) - kl - (1 + kf) + 1).toNat = min (if 0 > (tl : Int) - kl then 0 else (tl : Int) - kl).toNat bl - (1 + kf - 1).toNat := by
  subst h
  obtain ⟨a, rfl⟩ := Int.eq_ofNat_of_zero_le h1
  obtain ⟨b, rfl⟩ := Int.eq_ofNat_of_zero_le h0
  have e : (1 + (b : Int) - 1) = b := by rw [Int.add_comm, Int.add_sub_cancel]
  rw [less_nat, Nat.min_eq_left (Nat.sub_le _ _), e, Int.toNat_natCast, Nat.sub_sub, ← Int.toNat_sub tl (a + b)]
  congr 1
  rw [Int.natCast_add]
  omega
theorem min_min {a b c : Nat} : min a c - min b c = min a c - b := by
  rcases Nat.le_total b c with h | h
  · rw [Nat.min_eq_left h]
  · rw [Nat.min_eq_right h, Nat.sub_eq_zero_of_le (Nat.min_le_right _ _), Nat.sub_eq_zero_of_le (Nat.le_trans (Nat.min_le_right _ _) h)]
end

-- T2
section
open PySem PySem.W PyProof.Rows PySem.Calls
set_option maxRecDepth 100000

theorem rows_t2 : True := by
  k_with_none
  k_with "mine and" => (first | (with_reducible exact And.left) | ((with_reducible refine andR ?_); first | (with_reducible exact id) | k_extra "mine and"))
  k_with "mine lt1" => (first | (with_reducible assumption) | ((with_reducible refine' viaC ?zvh ?zvk); (case zvh => with_reducible assumption); (case zvk => k_extra "mine and")))
  k_with "mine lt2" => (first | k_extra "mine lt1" | ((with_reducible refine' ltLit ?zlh ?zlk); (case zlh => with_reducible assumption); (case zlk => exact rfl)))
  k_with "mine lt3" => (first | k_extra "mine lt2" | ((with_reducible refine' ltT ?zth ?ztk); (case zth => with_reducible assumption); (case ztk => first | k_extra "mine lt2" | ((with_reducible refine' ltT ?zuh ?zuk); (case zuh => with_reducible assumption); (case zuk => k_extra "mine lt2")))) | ((with_reducible refine lt_dn ?_); first | k_extra "mine lt1" | ((with_reducible refine lt_dn ?_); first | k_extra "mine lt1" | ((with_reducible refine lt_dn ?_); first | k_extra "mine lt1" | ((with_reducible refine lt_dn ?_); first | k_extra "mine lt1" | ((with_reducible refine lt_dn ?_); k_extra "mine lt1"))))))
  k_with "mine lt" => (first | (with_reducible exact lt_one) | ((with_reducible show _ < _ + _); (with_reducible refine lt_up ?_); k_extra "mine lt") | ((fail_if_success (with_reducible show _ < _ + _)); k_extra "mine lt3"))
  k_with "mine ne0" => (first | (with_reducible assumption) | (with_reducible exact Ne.symm (by with_reducible assumption)) | (exact neLits rfl) | ((with_reducible refine Nat.ne_of_gt ?_); k_extra "mine lt") | ((with_reducible refine Nat.ne_of_lt ?_); k_extra "mine lt"))
  k_with "mine ne" => ((try dsimp only); (first | k_extra "mine ne0" | k_extra "mine omegaF"))
  k_with "mine rm" => (first | (with_reducible exact room0 (by with_reducible assumption)) | ((with_reducible refine' roomLe ?zrh ?zrk); (case zrh => with_reducible assumption); (case zrk => exact rfl)) | ((with_reducible refine roomS ?_); k_extra "mine rm"))
  k_with "mine le" => (first | (exact leLits rfl) | ((with_reducible refine' leLit ?zmh ?zmk); (case zmh => with_reducible assumption); (case zmk => exact rfl)) | ((with_reducible refine Nat.le_of_lt ?_); k_extra "mine lt"))
  k_with "mine lg" => (first | (exact ltLits rfl) | k_extra "mine rm" | ((with_reducible refine' ltOf ?znh ?znk); (case znh => with_reducible assumption); (case znk => exact rfl)) | k_extra "mine lt")
  k_with "mine ill" => (first | (with_reducible assumption) | decide | ((with_reducible refine' intLtLt ?zi1h ?zi1k); (case zi1h => with_reducible assumption); (case zi1k => decide)) | ((with_reducible refine' intLeLt ?zi2h ?zi2k); (case zi2h => with_reducible assumption); (case zi2k => decide)) | ((with_reducible refine' intRoom ?zi3h ?zi3k); (case zi3h => with_reducible assumption); (case zi3k => decide)) | ((with_reducible refine' intAddLt ?zi4h ?zi4k); (case zi4h => with_reducible assumption); (case zi4k => decide)) | ((with_reducible refine intS ?_); k_extra "mine ill"))
  k_with "mine ile" => (first | (with_reducible assumption) | decide | ((with_reducible refine intNn ?_); k_extra "mine ile") | ((with_reducible refine' intLtLe ?zi5h ?zi5k); (case zi5h => with_reducible assumption); (case zi5k => decide)) | ((with_reducible refine' intLeLe ?zi6h ?zi6k); (case zi6h => with_reducible assumption); (case zi6k => decide)) | ((with_reducible refine' intGeGe ?zi7h ?zi7k); (case zi7h => with_reducible assumption); (case zi7k => decide)) | ((with_reducible refine' intAddLe ?zi8h ?zi8k); (case zi8h => with_reducible assumption); (case zi8k => decide)) | ((with_reducible refine' intAddGe ?zi9h ?zi9k); (case zi9h => with_reducible assumption); (case zi9k => decide)) | ((with_reducible refine' intSubGe ?zi10h ?zi10k); (case zi10h => with_reducible assumption); (case zi10k => decide)) | ((with_reducible refine' intSubLe ?zi11h ?zi11k); (case zi11h => with_reducible assumption); (case zi11k => decide)))
  k_with "mine omegaF" => (first | ((repeat ((with_reducible rename _ ∧ _ => kz); clear kz)); (repeat ((with_reducible rename _ ≠ _ => kz); clear kz)); omega (config := {})) | omega (config := {}))
  k_with "mine omega" => (first | (with_reducible assumption) | ((with_reducible show @Ne Nat _ _); k_extra "mine ne0") | ((with_reducible show @LT.lt Nat _ _ _); k_extra "mine lg") | ((with_reducible show @LE.le Nat _ _ _); k_extra "mine le") | ((with_reducible show @LT.lt Int _ _ _); k_extra "mine ill") | ((with_reducible show @LE.le Int _ _ _); k_extra "mine ile") | ((with_reducible refine' ⟨?zoa, ?zob⟩); (case zoa => k_extra "mine ile"); (case zob => k_extra "mine ile")) | k_extra "mine omegaF")
  k_with "mine all" => first | ((with_reducible refine' List.forall_mem_cons.mpr ⟨?z155_a, ?z155_b⟩); (case z155_a => k_ne); (case z155_b => k_all)) | (with_reducible exact List.forall_mem_nil _) | (with_reducible assumption) | exact allNe (by with_reducible assumption) (by omega) | exact gapNe (by with_reducible assumption) (by omega) (by omega)
  k_with "mine mem" => first | (with_reducible exact List.Mem.head _) | ((with_reducible refine' List.Mem.tail _ ?_); k_mem) | (with_reducible assumption) | (refine mem_of_eq (by with_reducible assumption) ?_; k_mem) | assumption
  k_with "eval Name" => (k_here; k_dflt (first | ((refine' nameX_L ?z157_F ?z157_v ?_ ?z157_a ?z157_b); (case z157_F => k_asm); (case z157_a => rfl); (case z157_b => rfl); (case z157_v => rfl); k_whole) | ((refine' nameX_C ?z157_N ?z157_c ?z157_m ?z157_d ?_ ?z157_a ?z157_b); (case z157_N => k_asm); (case z157_a => rfl); (case z157_b => rfl); (case z157_c => rfl); (case z157_m => k_mem); (case z157_d => k_asm); k_whole) | ((refine' nameX_F ?z157_N ?z157_c ?z157_m ?z157_d ?_ ?z157_a ?z157_b); (case z157_N => k_asm); (case z157_a => rfl); (case z157_b => rfl); (case z157_c => rfl); (case z157_m => k_mem); (case z157_d => k_asm); k_whole) | ((refine' nameX_K ?z157_F ?z157_X ?z157_T ?z157_e ?_ ?z157_a ?z157_b); (case z157_F => k_asm); (case z157_a => rfl); (case z157_b => rfl); (case z157_X => k_asm); (case z157_T => k_asm);  (case z157_e => k_is); k_whole)))
  k_with "mine room" => ktr_room
  k_with "callWith ref" => (k_here; k_dflt (refine' callWith_K ?z159_k1 ?z159_k2 ?_; (case z159_k1 => k_in); (case z159_k2 => k_is); k_whole))
  k_with "subscriptTail Name BinOp ref int" => (k_here; k_dflt (refine' item_at ?z160_itN ?z160_itl ?z160_it0 ?z160_it1 ?z160_it2 ?_; (case z160_itN => k_asm); (case z160_itl => k_mem); (case z160_it0 => omega); (case z160_it1 => omega); (case z160_it2 => omega)))
  k_with "exec For Tuple Call cons nil" => (k_here; k_dflt (refine For_turns (by k_asm) ?_))
  k_with "exec If" => (k_dflt (refine halt ?_))
  k_with "call type:enumerate" => (k_dflt (refine halt ?_))
  k_with "call builtin:len cons nil" => (k_here; k_dflt (refine' len_any ?z164_leN ?z164_leM ?z164_leh ?_; (case z164_leN => k_asm); (case z164_leM => k_mem); (case z164_leh => (simp only [Array.size_push, List.size_toArray, List.length_append, List.length_cons, List.length_nil]; omega))))
  k_with "call type:list cons nil" => (k_dflt (refine halt ?_))
  k_with "setItem ref int" => (k_here; k_dflt (refine' kda_set (knd := intKind _ _) ?z166_F ?z166_N ?z166_U ?z166_d (intKind_is _ _ _ _) ?z166_z ?_; (case z166_F => k_asm); (case z166_N => k_asm); (case z166_U => k_updF); (case z166_d => assumption); (case z166_z => rw [sizeLine_eq]; omega)); intro _ _ _; intro N'; (try dsimp only at N'); revert N'; intro _; intro _)
  k_with "setItem ref int none" => (k_here; k_dflt (refine' kda_set (knd := intKind _ _) ?z167_F ?z167_N ?z167_U ?z167_d (intKind_is _ _ _ _) ?z167_z ?_; (case z167_F => k_asm); (case z167_N => k_asm); (case z167_U => k_updF); (case z167_d => assumption); (case z167_z => rw [sizeLine_eq]; omega)); intro _ _ _; intro N'; (try dsimp only at N'); revert N'; intro _; intro _)
  k_with "setItem ref int int" => (k_here; k_dflt (refine' kda_set (knd := intKind _ _) ?z168_F ?z168_N ?z168_U ?z168_d (intKind_is _ _ _ _) ?z168_z ?_; (case z168_F => k_asm); (case z168_N => k_asm); (case z168_U => k_updF); (case z168_d => assumption); (case z168_z => rw [sizeLine_eq]; omega)); intro _ _ _; intro N'; (try dsimp only at N'); revert N'; intro _; intro _)
  k_with "setItem ref int ref" => (k_here; k_dflt (refine' kda_set (knd := intKind _ _) ?z169_F ?z169_N ?z169_U ?z169_d (intKind_is _ _ _ _) ?z169_z ?_; (case z169_F => k_asm); (case z169_N => k_asm); (case z169_U => k_updF); (case z169_d => assumption); (case z169_z => rw [sizeLine_eq]; omega)); intro _ _ _; intro N'; (try dsimp only at N'); revert N'; intro _; intro _)
  k_with "call ref" => (k_here; first | ((with_reducible show wpAny _ _ (call (Value.ref 65) [Value.ref _, Value.int _ _]) _ _ _); k_dflt (refine' struck_call ?z170_scB ?z170_scF ?z170_scX ?z170_scN ?z170_scT ?z170_sck ?z170_scU ?z170_scD ?z170_scI ?z170_scl ?z170_sc0 ?z170_sc1 ?z170_sc2 ?z170_sc3 ?z170_scd ?z170_scu ?_; (case z170_scB => k_asm); (case z170_scF => k_asm); (case z170_scX => k_asm); (case z170_scN => k_asm); (case z170_scT => k_asm); (case z170_sck => rfl); (case z170_scU => k_updF); (case z170_scD => k_mem); (case z170_scI => assumption); (case z170_scl => assumption); (case z170_sc0 => omega); (case z170_sc1 => omega); (case z170_sc2 => omega); (case z170_sc3 => omega); (case z170_scd => ktr_room); (case z170_scu => ktr_units)); intro _ _ _ _ _ _ _ _; intro N'; (try dsimp only at N'); revert N'; intro _) | ((with_reducible show wpAny _ _ (call (Value.ref 72) _) _ _ _); k_dflt (refine' counter_again ?z170_ccB ?z170_ccF ?z170_ccX ?z170_ccN ?z170_ccT ?z170_cck ?z170_ccC ?z170_ccU ?z170_ccM ?z170_ccD ?z170_ccV ?z170_ccd ?z170_ccu ?_; (case z170_ccB => k_asm); (case z170_ccF => k_asm); (case z170_ccX => k_asm); (case z170_ccN => k_asm); (case z170_ccT => k_asm); (case z170_cck => rfl); (case z170_ccC => assumption); (case z170_ccU => k_updF); (case z170_ccM => k_mem); (case z170_ccD => assumption); (case z170_ccV => assumption); (case z170_ccd => ktr_room); (case z170_ccu => ktr_units)); intro _ _ _ _ _; intro N'; (try dsimp only at N'); revert N'; intro _; intro _ _ _; refine halt ?_) | ((with_reducible show wpAny _ _ (call (Value.ref 79) _) _ _ _); k_dflt (refine halt ?_)) | ((with_reducible show wpAny _ _ (call (Value.ref 86) _) _ _ _); k_dflt (refine halt ?_)))
  k_with "my enterTC" => (refine' code_turnC ?z171_k1 ?z171_k2 ?z171_k3 ?z171_k4 ?z171_k5 ?z171_XB ?z171_TB ?z171_D ?z171_T0 ?z171_kA ?z171_kF ?z171_kK ?z171_k6 ?z171_k7 ?z171_k8 ?z171_k9 ?z171_kB ?z171_kD ?_ ?z171_c2 ?z171_c3 ?z171_c4; (case z171_kA => exact rfl); (case z171_kF => exact rfl); (case z171_kK => assumption); (case z171_k2 => k_asm); (case z171_k1 => k_asm); (case z171_XB => assumption); (case z171_TB => assumption); (case z171_D => assumption); (case z171_T0 => exact KtsTurn.refl); (case z171_k3 => k_asm); (case z171_k4 => k_asm); (case z171_k5 => k_asm); (case z171_k6 => k_is); (case z171_k7 => k_is); (case z171_k8 => ktr_room); (case z171_k9 => exact BindsTo.of_eq rfl); (case z171_kB => exact rfl); (case z171_kD => decide +kernel); (case z171_c2 => exact rfl); (case z171_c3 => exact rfl); (case z171_c4 => exact rfl); k_whole; walk_at "my tail4")
  k_with "compareOp Eq ref ref" => (k_here; k_dflt (first | ((refine' one_tuple ?z172_N ?z172_m1 ?z172_m2 ?z172_t1 ?z172_t2 ?z172_hne ?z172_u ?_); (case z172_N => k_asm); (case z172_m1 => k_mem); (case z172_m2 => k_mem); (case z172_t1 => k_mem); (case z172_t2 => k_mem); (case z172_hne => k_ne); (case z172_u => ktr_units)) | ((refine' two_nil ?z172_N ?z172_m1 ?z172_m2 ?z172_u ?_); (case z172_N => k_asm); (case z172_m1 => k_mem); (case z172_m2 => k_mem); (case z172_u => ktr_units))))
  k_with "compareOp NotEq ref ref" => (k_here; k_dflt (refine' dict_same_ne ?z173_N ?z173_m1 ?z173_m2 ?z173_h1 ?z173_h2 ?z173_l1 ?z173_l2 ?z173_u ?_; (case z173_N => k_asm); (case z173_m1 => k_mem); (case z173_m2 => k_mem); (case z173_h1 => assumption); (case z173_h2 => assumption); (case z173_l1 => assumption); (case z173_l2 => assumption); (case z173_u => ktr_units)))
  exact True.intro

def Flag (_ : Nat) : Prop := True
theorem haltF {P : Prop} {n : Nat} (_ : Flag n) (h : Halt P) : P := h
def CutB (th : Bool) (s : Shared) (v : Value) (s' : Shared) : Prop := v = .bool th ∧ ∃ tk, s' = { s with toks := tk }
/-- what comes behind an expression that tells a truth is walked once -/
theorem cut_bool {prog : Program} {w : World} {A : Around} {E : Value → Shared → Prop} {s : Shared} {e : Expr} {env : Env} {Q : Value → Shared → Prop} (th : Bool)
    (h : wpAny (model prog w) A (eval e env) (CutB th s) E s) (k : ∀ tk, Q (.bool th) { s with toks := tk }) : wpAny (model prog w) A (eval e env) Q E s :=
  wpAny_mono h (fun v s' ⟨e1, tk, e2⟩ => by subst e1 e2; exact k tk) fun _ _ x => x
def CutL (h₀ : Heap) (L : Addr) (m : Str → Option Value) (news : List (Addr × Obj)) (gs : List Int) (s : Shared) (v : Value) (s' : Shared) : Prop :=
  ∃ gl us cg h tk, v = .ref gl ∧ s' = { s with heap := h, toks := tk } ∧ Fr h₀ L h m ∧ News h₀ L h ((gl, W.listOf (List.toArray us) cg) :: news) ∧ (∀ p ∈ news, p.1 < gl) ∧ IntsAre us gs
/-- what comes behind an expression that makes a list of ints is walked once -/
theorem cut_list {prog : Program} {w : World} {A : Around} {E : Value → Shared → Prop} {s : Shared} {h₀ : Heap} {L : Addr} {m : Str → Option Value} {news : List (Addr × Obj)} {e : Expr} {env : Env} {Q : Value → Shared → Prop}
    (_F : Fr h₀ L s.heap m) (_N : News h₀ L s.heap news) (gs : List Int)
    (h : wpAny (model prog w) A (eval e env) (CutL h₀ L m news gs s) E s)
    (k : ∀ gl us cg h tk, Fr h₀ L h m → News h₀ L h ((gl, W.listOf (List.toArray us) cg) :: news) → (∀ p ∈ news, p.1 < gl) → IntsAre us gs → Q (.ref gl) { s with heap := h, toks := tk }) : wpAny (model prog w) A (eval e env) Q E s :=
  wpAny_mono h (fun v s' ⟨gl, us, cg, h, tk, e1, e2, F, N, l, i⟩ => by subst e1 e2; exact k gl us cg h tk F N l i) fun _ _ x => x

theorem rows_t21 : True := by
  k_with "eval Compare" => (k_dflt (refine haltF (by with_reducible assumption : Flag 1) ?_))
  k_with "eval IfExp" => (k_dflt (refine haltF (by with_reducible assumption : Flag 2) ?_))
  exact True.intro

set_option maxHeartbeats 16000000 in
theorem taken_right_spec {w : World} {p : Program} {loose : List Str} {mean : ExcName → Option Value} {mg mb : Str → Option Value}
    {dp un : Nat} {gd : Option (List Code)} {cn : Str} {cs : Scope} {a : Addr} {ccd : Value} {cl : List (Str × Addr)} {outer : List Env} {A₀ : Around} {base h₀ : Heap} {L : Addr} {m : Str → Option Value}
    {s : Shared} {Q E : Value → Shared → Prop} {an D tl c0 : Addr} {oc0 : Obj} {vs0 : Array Value} {t0 : Tok} {ws texts : List Value} {ns : List Int} {t : Int} {tkt : Tok} {n nD nT : Nat} {rest : List (Addr × Obj)}
    (B : Below A₀ base outer h₀) (F : Fr h₀ L s.heap m) (X : (hd.heap_39 w.params).In h₀)
    (N : News h₀ L s.heap ((an, W.listOf #[.ref D, .int t tkt] n) :: (tl, W.listOf texts.toArray nT) :: (D, W.listOf ws.toArray nD) :: (95, tabObj #[]) :: (67, tabObj #[rawInt 47, rawInt 4, .ref c0]) :: (c0, oc0) :: rest)) (T : Top p loose mean mg mb h₀) (hck : cs.kind = .function)
    (hd0 : oc0.data = .fields vs0) (hv0 : vs0[1]? = some (.str (Str.ofString "_law_counter.<locals>.count") t0))
    (XB : (hd.heap_39 w.params).In base) (TB : Top p loose mean mg mb base) (DI : KtsDicts (outer.filterMap (·.frame)) h₀)
    (hI : IntsAre ws ns) (hlen : ns.length ≤ 63) (ht0 : 0 ≤ t) (ht : t < 900) (hlt : texts.length ≤ 5)
    (o0 : @LT.lt Nat _ 107 D) (o1 : @LT.lt Nat _ D an) (o2 : @Ne Nat tl an) (o2a : @Ne Nat tl D) (o2b : @Ne Nat tl 67) (o2c : @Ne Nat tl 95) (o3 : @LT.lt Nat _ tl c0) (o3a : @LT.lt Nat _ an c0) (hra : ∀ q ∈ rest, q.1 ≠ an) (hr8 : ∀ q ∈ rest, q.1 ≠ 95) (hr6 : ∀ q ∈ rest, q.1 ≠ 67)
    (hC : CodeHd base 71 67) (hP : CodeHd base 99 95)
    (hdp : dp + 100 < recursionLimit) (hu : un + 1000 < cLine)
    (hend : ∀ h₀' ps t1 h' tk, KtsTurn (outer.filterMap (·.frame)) h₀ h₀' → Fr h₀' L h' m →
      News h₀' L h' ((an, W.listOf #[.ref D, .int (t + 1 + 1) t1] n) :: (tl, W.listOf texts.toArray nT) :: (D, W.listOf ws.toArray nD) :: (67, tabObj #[rawInt 47, rawInt 4, .ref c0]) :: (c0, oc0) :: (95, tabObj ps) :: rest) →
      Below A₀ base outer h₀' → (hd.heap_39 w.params).In h₀' → Top p loose mean mg mb h₀' → KtsDicts (outer.filterMap (·.frame)) h₀' → Q (.bool true) { s with heap := h', toks := tk }) :
    wpAny (model PySem.Challenge.rw_pq0674_01.row.prog w) (ktrTop dp un gd cn cs L a ccd cl outer) (call (.ref 100) [.ref an, .ref tl]) Q E s := by
  revert X; k_fill; intro X
  refine wpAny_call ?_
  k_dflt (walk_at "my enterTC")
  rename _ ∧ _ => lE
  rename_i g1 L1 hA tkA FG1 FA B1 X1 T1 D1 oCo oCp oCc oCb oCk oCa dCo dCp dCc dCb dCk dCa NA
  refine byG fun G hG => ?_
  obtain ⟨lE1, lE2, lE3, lE4, lE5, lE6, hAR⟩ := lE
  refine hG ?_
  clear hG G
  k_steps
  rename_i at_ ta1 tat hq0 tkq0 la lb left tl1 tl2 hq1 tkq1 kl0 kl1 sn hq2 lsn tol hq2b ltol bk hq3 ob0 lob hs1 fs1 hi1 fi1 lbk du hq4 od0 lod hs0 fs0 hi0 fi0 ldu DT hq5 lDT hq6 hq7 oAt dAt hq8 hq9 hq10 oTo dTo hq11 oBk dBk hq12 F9 N9
  clear hs1 fs1 fi1 hs0 fs0 fi0 lDT
  unfold Halt
  refine byG fun G hG => ?_
  obtain ⟨R, hR, N2⟩ := seal3 N9
  refine hG ?_
  clear hG G
  have hRb : ∀ q ∈ R, q.1 ≠ bk := by rw [hR]; k_all
  have hRd : ∀ q ∈ R, q.1 ≠ du := by rw [hR]; k_all
  have hRt : (tl, W.listOf texts.toArray nT) ∈ R := by rw [hR]; k_mem
  clear N9
  refine ktu_enum (by rfl) F9 N2 (.tail _ (.tail _ hRt)) (by rfl) (by rfl) rfl ?_
  intro I hIlt
  refine enum_start (Str.ofString "number") (Str.ofString "text") (by rfl) (by rfl) ?_
  refine enum_inv (fun i nw => ∃ ob od, nw = (bk, ob) :: (du, od) :: R ∧ ob.IsDictOf (intKind PySem.Challenge.rw_pq0674_01.row.prog w) (fillTo texts i) ∧ od.IsDictOf (intKind PySem.Challenge.rw_pq0674_01.row.prog w) (fillTo texts i)) ?step ?done texts.length 0 none none _ (by omega) ⟨ob0, od0, rfl, hi1, hi0⟩
  case step =>
    clear F9 N2
    intro i v u1 u2 news hv hJJ T t h9 tk9 hT F9
    refine byG fun G hG => ?_
    obtain ⟨ob, od, rfl, hO1, hO2⟩ := hJJ
    refine hG ?_
    clear hG G
    refine AllObj.cons fun o1 hc1 => AllObj.cons fun o2 hc2 => AllObj.nil fun N9 => ?_
    have hi : i < texts.length := (List.getElem?_eq_some_iff.mp hv).1
    have hfl := fillTo_len texts i
    dsimp only [List.cons_append, List.nil_append] at N9
    have hbI := ltN (hIlt _ (.head _))
    have hdI := ltN (hIlt _ (.tail _ (.head _)))
    have hrI : ∀ p ∈ R, p.1 < I := fun p hp => hIlt p (.tail _ (.tail _ hp))
    k_steps
    refine ⟨_, _, _, (bk, _) :: (du, _) :: R, rfl, by assumption, by assumption, off2R hbI hdI hrI, ⟨.tail _ (.tail _ hRt), trivial⟩, ⟨_, _, two_two _ _ _ _ _ _ _⟩, _, _, rfl, ?_, ?_⟩
    · rw [fillTo_succ hv]; assumption
    · rw [fillTo_succ hv]; assumption
  case done =>
    intro u1 u2 news h9 tk9 hJJ F8 N9
    clear N2 F9
    refine byG fun G hG => ?_
    obtain ⟨ob, od, rfl, hO1, hO2⟩ := hJJ
    subst hR
    refine hG ?_
    clear hG G
    have hfl := fillTo_len texts texts.length
    have hsz : texts.toArray.size = texts.length := List.size_toArray
    have fl1 : Flag 1 := True.intro
    k_steps
    unfold Halt
    clear fl1
    refine byG fun G hG => ?_
    obtain ⟨th, hth⟩ : ∃ th : Bool, th = decide (1 ≤ at_ ∧ at_ ≤ (texts.length : Int)) := ⟨_, rfl⟩
    refine hG ?_
    clear hG G
    refine cut_bool th ?ct1 ?_
    case ct1 =>
      by_cases hx : 1 ≤ at_ ∧ at_ ≤ (texts.length : Int)
      · rw [decide_eq_true hx] at hth
        subst hth
        k_steps
        exact ⟨congrArg Value.bool (decide_eq_true (by omega)), _, rfl⟩
      · rw [decide_eq_false hx] at hth
        subst hth
        have hnt : at_ < 1 ∨ (texts.toArray.size : Int) < at_ := by omega
        rcases hnt with hnt | hnt
        · k_steps
          exact ⟨congrArg Value.bool (decide_eq_false (by omega)), _, rfl⟩
        · k_steps
          exact ⟨congrArg Value.bool (decide_eq_false (by omega)), _, rfl⟩
    intro tkb
    have fl2 : Flag 2 := True.intro
    k_steps
    unfold Halt
    clear fl2
    rename Fr _ _ _ _ => F5
    rename News _ _ _ _ => N5
    rename _ = Data.cell (some (Value.int _ _)) => dBd
    refine byG fun G hG => ?_
    obtain ⟨n1, hn1⟩ : ∃ n1 : Nat, n1 = if th = true then ((texts.length : Int) - at_).toNat else 0 := ⟨_, rfl⟩
    obtain ⟨gls, hgls⟩ : ∃ g : List Int, g = if th = true then ups at_ n1 else [] := ⟨_, rfl⟩
    refine hG ?_
    clear hG G
    have hgl : gls.length = n1 := by
      rw [hgls]
      cases th
      · exact hn1.symm
      · exact ups_length _ _
    have hn5 : n1 ≤ 5 := by rw [hn1]; split <;> omega
    refine cut_list F5 N5 gls ?ct2 ?_
    case ct2 =>
      cases th
      · rw [if_neg Bool.false_ne_true] at hgls
        k_steps
        rename Fr _ _ _ _ => F6
        rename News _ _ _ _ => N6
        exact ⟨_, [], _, _, _, rfl, rfl, F6, N6, fun p hp => ktn_ltOf (by assumption) p hp, by rw [hgls]; exact .nil⟩
      · rw [if_pos rfl] at hgls hn1
        have hx := of_decide_eq_true hth.symm
        k_steps
        rename IsRange _ _ _ _ _ _ _ _ => rgX
        unfold Halt
        rename Fr _ _ _ _ => F6
        rename News _ _ _ _ => N6
        refine list_up (by rfl) F6 N6 rgX (by omega) (by omega) (by omega) (by omega) ?_
        intro gl us cg h6 tk6 F7 N7 lg hIg
        try k_steps
        exact ⟨gl, us, cg, _, _, rfl, rfl, F7, N7, lg, by rw [hgls, hn1]; exact hIg⟩
    intro gl us cg h6 tk6 F6 N6 lg hIg
    have hus : us.length = n1 := by rw [hIg.length, hgl]
    k_lt lg
    clear F5 N5
    k_steps
    unfold Halt
    rename Fr _ _ _ _ => F7
    rename News _ _ _ _ => N7
    k_dflt (refine' moved_call ?mcB F7 ?mcX N7 ?mcT ?mck ?mcU hO2 ?mcG ?mcg hIg ?mcl lod kl0 ?mc1 ?mcd ?mcu ?_; (case mcB => k_asm); (case mcX => k_asm); (case mcT => k_asm); (case mck => rfl); (case mcU => k_updF); (case mcG => k_mem); (case mcg => k_ne); (case mcl => rw [hgl]; omega); (case mc1 => omega); (case mcd => ktr_room); (case mcu => ktr_units))
    intro b od2 h8 tk8 hb hO3 F8 N8
    (try dsimp only at N8)
    clear F7 N7
    rw [hgl] at hb
    have hln3 : (mvs 1 (fillTo texts texts.length) (gls.take left.toNat)).length ≤ 600 := by
      have := mvs_len 1 (gls.take left.toNat) (fillTo texts texts.length)
      rw [List.length_take, hgl] at this
      omega
    k_steps
    unfold Halt
    rename Fr _ _ _ _ => F7
    rename News _ _ _ _ => N7
    refine' cut_st F7 N7 du ?cuU (fun o => if th = true ∧ (n1 : Int) ≤ left then o.IsDictOf (intKind PySem.Challenge.rw_pq0674_01.row.prog w) (stored (mvs 1 (fillTo texts texts.length) (ups at_ n1)) (texts.toArray.size : Int) .none) else o.IsDictOf (intKind PySem.Challenge.rw_pq0674_01.row.prog w) (mvs 1 (fillTo texts texts.length) (gls.take left.toNat))) ?cuA ?cuB
    case cuU => k_updF
    case cuA =>
      refine wpAny_If ?_
      cases th
      · k_steps
        exact ⟨rfl, _, _, _, rfl, by assumption, by assumption, by show if _ ∧ _ then _ else _; rw [if_neg (fun h => Bool.false_ne_true h.1)]; assumption⟩
      · rw [if_pos rfl] at hgls
        by_cases hle : (n1 : Int) ≤ left
        · rw [decide_eq_true hle] at hb
          subst hb
          rw [List.take_of_length_le (by rw [hgl]; omega), hgls] at hO3 hln3
          k_steps
          exact ⟨rfl, _, _, _, rfl, by assumption, by assumption, by show if _ ∧ _ then _ else _; rw [if_pos ⟨rfl, hle⟩]; assumption⟩
        · rw [decide_eq_false hle] at hb
          subst hb
          k_steps
          exact ⟨rfl, _, _, _, rfl, by assumption, by assumption, by show if _ ∧ _ then _ else _; rw [if_neg (fun h => hle h.2)]; assumption⟩
    case cuB =>
      intro od3 h8 tk8 F8 N8 hP3
      (try dsimp only at N8)
      clear F7 N7
      k_steps
      rename_i pf pc pco pvs pt pct pdc ph ptk pd1 pd2 pl1 pl2 h9b oPut kF9 kN9 dPut f1 ex1 h10 tk10 F10 N10 le1 Tk1 fo1
      clear kF9 kN9
      unfold Halt
      have hgt : ∀ q ∈ ex1, @LT.lt Nat _ pf q.1 := fun q hq => le1 q hq _ (.head _)
      clear le1
      refine byG fun G hG => ?_
      obtain ⟨of1, mf1, hf1⟩ := fo1
      have N11 := news_turn N10
      simp only [List.cons_append] at N11
      obtain ⟨rest1, hr1⟩ : ∃ r, r = rest ++ ex1 := ⟨_, rfl⟩
      rw [← hr1] at N11
      refine hG ?_
      clear N10 hG G
      have hgap : Gap L1 pf rest1 := by rw [hr1]; exact gap_of hAR hgt
      have hra1 : ∀ q ∈ rest1, q.1 ≠ an := by rw [hr1]; exact neApp hra hgt (by omega)
      have hr81 : ∀ q ∈ rest1, q.1 ≠ 95 := by rw [hr1]; exact neApp hr8 hgt (by omega)
      have hr61 : ∀ q ∈ rest1, q.1 ≠ 67 := by rw [hr1]; exact neApp hr6 hgt (by omega)
      have hx1 : ∀ q ∈ ex1, q ∈ rest1 := by rw [hr1]; exact fun q hq => List.mem_append_right _ hq
      have hrx : ∀ q ∈ rest, q ∈ rest1 := by rw [hr1]; exact fun q hq => List.mem_append_left _ hq
      clear hr1
      k_steps
      rename_i h9c oCnt kF10 kN10 dCnt lf lc lco lvs lt lct h11 tk11 F11 N11a ld1 ld2 ll1 ll2
      clear kF10 kN10
      unfold Halt
      refine byG fun G hG => ?_
      obtain ⟨OT, N12, hOb, hOs, hOo, hOT, hin⟩ := take2o (bk := bk) (ob := ob) (sn := sn) (os := W.listOf #[] 0) (tol := tol) (ot := W.listOf #[] 0) N11a (by k_mem) (by k_mem) (by k_mem)
      have i1 := (List.forall_mem_cons.mp hin).1 (by k_ne) (by k_ne) (by k_ne)
      replace hin := (List.forall_mem_cons.mp hin).2
      have i2 := (List.forall_mem_cons.mp hin).1 (by k_ne) (by k_ne) (by k_ne)
      replace hin := (List.forall_mem_cons.mp hin).2
      have i3 := (List.forall_mem_cons.mp hin).1 (by k_ne) (by k_ne) (by k_ne)
      replace hin := (List.forall_mem_cons.mp hin).2
      have i4 := (List.forall_mem_cons.mp hin).1 (by k_ne) (by k_ne) (by k_ne)
      replace hin := (List.forall_mem_cons.mp hin).2
      have i5 := (List.forall_mem_cons.mp hin).1 (by k_ne) (by k_ne) (by k_ne)
      replace hin := (List.forall_mem_cons.mp hin).2
      replace hin := (List.forall_mem_cons.mp hin).2
      have i7 := (List.forall_mem_cons.mp hin).1 (by k_ne) (by k_ne) (by k_ne)
      replace hin := (List.forall_mem_cons.mp hin).2
      replace hin := (List.forall_mem_cons.mp hin).2
      replace hin := (List.forall_mem_cons.mp hin).2
      have i10 := (List.forall_mem_cons.mp hin).1 (by k_ne) (by k_ne) (by k_ne)
      replace hin := (List.forall_mem_cons.mp hin).2
      have i11 := (List.forall_mem_cons.mp hin).1 (by k_ne) (by k_ne) (by k_ne)
      replace hin := (List.forall_mem_cons.mp hin).2
      have i12 := (List.forall_mem_cons.mp hin).1 (by k_ne) (by k_ne) (by k_ne)
      replace hin := (List.forall_mem_cons.mp hin).2
      have i13 := (List.forall_mem_cons.mp hin).1 (by k_ne) (by k_ne) (by k_ne)
      replace hin := (List.forall_mem_cons.mp hin).2
      have i14 := (List.forall_mem_cons.mp hin).1 (by k_ne) (by k_ne) (by k_ne)
      replace hin := (List.forall_mem_cons.mp hin).2
      have i15 := (List.forall_mem_cons.mp hin).1 (by k_ne) (by k_ne) (by k_ne)
      replace hin := (List.forall_mem_cons.mp hin).2
      have i16 := (List.forall_mem_cons.mp hin).1 (by k_ne) (by k_ne) (by k_ne)
      replace hin := (List.forall_mem_cons.mp hin).2
      have i17 := (List.forall_mem_cons.mp hin).1 (by k_ne) (by k_ne) (by k_ne)
      replace hin := (List.forall_mem_cons.mp hin).2
      have i18 := (List.forall_mem_cons.mp hin).1 (by k_ne) (by k_ne) (by k_ne)
      replace hin := (List.forall_mem_cons.mp hin).2
      have i19 := (List.forall_mem_cons.mp hin).1 (by k_ne) (by k_ne) (by k_ne)
      replace hin := (List.forall_mem_cons.mp hin).2
      have i20 := (List.forall_mem_cons.mp hin).1 (by k_ne) (by k_ne) (by k_ne)
      replace hin := (List.forall_mem_cons.mp hin).2
      have i21 := (List.forall_mem_cons.mp hin).1 (by k_ne) (by k_ne) (by k_ne)
      replace hin := (List.forall_mem_cons.mp hin).2
      obtain ⟨ps9, i19⟩ : ∃ ps, ((95 : Nat), tabObj ps) ∈ OT := ⟨_, i19⟩
      have hxO : ∀ q ∈ ex1, q ∈ OT := fun q hq => hin q (hx1 q hq) (Nat.ne_of_gt (Nat.lt_trans (by omega) (hgt q hq))) (Nat.ne_of_gt (Nat.lt_trans (by omega) (hgt q hq))) (Nat.ne_of_gt (Nat.lt_trans (by omega) (hgt q hq)))
      have hrO : ∀ q ∈ rest, q ∈ OT := fun q hq => hin q (hrx q hq) (allNe hAR (by omega) q hq) (allNe hAR (by omega) q hq) (allNe hAR (by omega) q hq)
      have hxT : ∀ q ∈ (c0, oc0) :: ex1, q ∈ OT := List.forall_mem_cons.mpr ⟨i21, hxO⟩
      clear hin N11a hx1 hrx
      obtain ⟨exP, hxP, hPut⟩ : ∃ ex, (∀ q ∈ ex, q ∈ OT) ∧ PutOk w p loose mean mg mb pf bk ex := take3 (P := PutOk w p loose mean mg mb pf bk) i3 i4 i14 (put_ok pd1 pd2 dBk)
      refine hG ?_
      clear hG G
      have hs0 : ∀ q ∈ (an, W.listOf #[.ref D, .int (t + 1 + 1) tl1] n) :: (tl, W.listOf texts.toArray nT) :: (D, W.listOf ws.toArray nD) :: (67, tabObj #[rawInt 47, rawInt 4, .ref c0]) :: (c0, oc0) :: (95, tabObj ps9) :: rest, q ∈ OT := List.forall_mem_cons.mpr ⟨i16, List.forall_mem_cons.mpr ⟨i17, List.forall_mem_cons.mpr ⟨i18, List.forall_mem_cons.mpr ⟨i20, List.forall_mem_cons.mpr ⟨i21, List.forall_mem_cons.mpr ⟨i19, hrO⟩⟩⟩⟩⟩⟩
      have hsub : ∀ (ob' os' ot' : Obj), ∀ q ∈ (an, W.listOf #[.ref D, .int (t + 1 + 1) tl1] n) :: (tl, W.listOf texts.toArray nT) :: (D, W.listOf ws.toArray nD) :: (67, tabObj #[rawInt 47, rawInt 4, .ref c0]) :: (c0, oc0) :: (95, tabObj ps9) :: rest, q ∈ (bk, ob') :: (sn, os') :: (tol, ot') :: OT := fun ob' os' ot' q hq => .tail _ (.tail _ (.tail _ (hs0 q hq)))
      cases th
      · have hnt : at_ < 1 ∨ (texts.toArray.size : Int) < at_ := by
          have hx := of_decide_eq_false hth.symm
          omega
        rw [if_neg Bool.false_ne_true] at hgls hn1
        subst hgls
        have hD4 := hP3
        rw [if_neg (fun h => Bool.false_ne_true h.1), List.take_nil, show mvs 1 (fillTo texts texts.length) [] = fillTo texts texts.length from rfl] at hD4
        rw [decide_eq_true (by omega)] at hb
        subst hb
        have hLam := lam_not (p := p) (loose := loose) (mean := mean) (mg := mg) (mb := mb) (c0 := 0) (cT := 0) hOb hOs hOo (by omega) (by omega) hO1 hnt i2 ld1 ld2 i15 dAt i14 dBk i13 dBd i12 dCnt i11 dPut i10 dTo i1
        k_dflt (refine refused_spec (f := lf) (d := 14) B1 F11 X1 N12 T1 rfl XB TB D1 (.tail _ (.tail _ (.tail _ i1))) (.inl ⟨_, _, _, _, rfl⟩) hLam (by ktr_room) (by ktr_units) ?_ ?_)
        · intro v nw h12 tk12 hJJ F12 N13
          refine byG fun G hG => ?_
          obtain ⟨Dt, cT4, hDt, rfl⟩ := hJJ
          refine hG ?_
          clear F11 N12 hLam hG G
          k_lt hDt
          k_steps
          unfold Halt
          refine wpAny_If ?_
          k_steps
          all_goals first
            | (rename Fr _ _ _ _ => kFz; rename News _ _ _ _ => kNz; exact hend h₀ ps9 tl1 _ _ KtsTurn.refl kFz (news_sub kNz (fun q hq => .tail _ (.tail _ (.tail _ (hsub _ _ _ q hq))))) B X T DI)
            | (exfalso; rename _ ≠ _ => hx; simp only [List.size_toArray, List.length_nil] at hx; revert hx; split <;> omega)
        · rintro h₀' nw h12 tk12 hf
          exact hf.elim
      · have hx := of_decide_eq_true hth.symm
        rw [if_pos rfl] at hgls hn1
        subst hgls
        have hval : (valueAt (fillTo texts texts.length) at_).getD .none = texts.getD (at_ - 1).toNat .none := by
          rw [valueAt_fill, if_pos (by omega)]; rfl
        have hLam := lam_take (left := left) (n := n1) (c0 := 0) (cT := 0) hPut Tk1 hxP hxT i3 (.inl ⟨_, _, _, _, rfl⟩) (hxO _ mf1) (.inl hf1) hOb hOs hOo (by omega) (by omega) hO1 (by omega) (by omega) lob kl0 (by omega) (by omega) (by omega) i2 ld1 ld2 i15 dAt i14 dBk i13 dBd i12 dCnt i11 dPut i10 dTo i1
        k_dflt (refine refused_spec (f := lf) (d := 14) B1 F11 X1 N12 T1 rfl XB TB D1 (.tail _ (.tail _ (.tail _ i1))) (.inl ⟨_, _, _, _, rfl⟩) hLam (by ktr_room) (by ktr_units) ?_ ?_)
        · intro v nw h12 tk12 hJJ F12 N13
          refine byG fun G hG => ?_
          obtain ⟨hle, Dt, ob4, ws4, c4, cT4, hO4, hw4, hDt, rfl⟩ := hJJ
          refine hG ?_
          clear hG G
          rw [hval] at N13
          have hD4 := hP3
          rw [if_pos ⟨rfl, hle⟩] at hD4
          rw [decide_eq_true hle] at hb
          subst hb
          clear F11 N12 hLam
          k_lt hDt
          k_steps
          unfold Halt
          refine wpAny_If ?_
          k_steps
          all_goals first
            | (rename Fr _ _ _ _ => kFz; rename News _ _ _ _ => kNz; exact hend h₀ ps9 tl1 _ _ KtsTurn.refl kFz (news_sub kNz (fun q hq => .tail _ (.tail _ (.tail _ (hsub _ _ _ q hq))))) B X T DI)
            | (exfalso; rename _ ≠ _ => hx; simp only [List.size_toArray] at hx; revert hx; split <;> omega)
        · intro h₀' nw h12 tk12 hJJ KT F12 N13 B12 X12 T12 D12
          refine byG fun G hG => ?_
          obtain ⟨hle, ob4, ws4, c4, hO4, hw4, rfl⟩ := hJJ
          refine hG ?_
          clear hG G
          have hD4 := hP3
          rw [if_neg (fun h => by have := h.2; omega)] at hD4
          rw [decide_eq_false (by omega)] at hb
          subst hb
          clear F11 N12 hLam
          k_steps
          unfold Halt
          refine wpAny_If ?_
          k_steps
          all_goals first
            | (rename Fr _ _ _ _ => kFz; rename News _ _ _ _ => kNz; exact hend _ ps9 tl1 _ _ (by assumption) kFz (news_sub kNz (fun q hq => .tail _ (hsub _ _ _ q hq))) (by assumption) (by assumption) (by assumption) (by assumption))
            | (exfalso; rename _ ≠ _ => hx; simp only [List.size_toArray] at hx; revert hx; split <;> omega)
end

-- J1
section
open PySem PySem.W PyProof.Rows PySem.Calls
set_option maxRecDepth 100000

theorem rows_j1 : True := by
  k_with_none
  k_with "mine and" => (first | (with_reducible exact And.left) | ((with_reducible refine andR ?_); first | (with_reducible exact id) | k_extra "mine and"))
  k_with "mine lt1" => (first | (with_reducible assumption) | ((with_reducible refine' viaC ?zvh ?zvk); (case zvh => with_reducible assumption); (case zvk => k_extra "mine and")))
  k_with "mine lt2" => (first | k_extra "mine lt1" | ((with_reducible refine' ltLit ?zlh ?zlk); (case zlh => with_reducible assumption); (case zlk => exact rfl)))
  k_with "mine lt3" => (first | k_extra "mine lt2" | ((with_reducible refine' ltT ?zth ?ztk); (case zth => with_reducible assumption); (case ztk => first | k_extra "mine lt2" | ((with_reducible refine' ltT ?zuh ?zuk); (case zuh => with_reducible assumption); (case zuk => k_extra "mine lt2")))) | ((with_reducible refine lt_dn ?_); first | k_extra "mine lt1" | ((with_reducible refine lt_dn ?_); first | k_extra "mine lt1" | ((with_reducible refine lt_dn ?_); first | k_extra "mine lt1" | ((with_reducible refine lt_dn ?_); first | k_extra "mine lt1" | ((with_reducible refine lt_dn ?_); k_extra "mine lt1"))))))
  k_with "mine lt" => (first | (with_reducible exact lt_one) | ((with_reducible show _ < _ + _); (with_reducible refine lt_up ?_); k_extra "mine lt") | ((fail_if_success (with_reducible show _ < _ + _)); k_extra "mine lt3"))
  k_with "mine ne0" => (first | (with_reducible assumption) | (with_reducible exact Ne.symm (by with_reducible assumption)) | (exact neLits rfl) | ((with_reducible refine Nat.ne_of_gt ?_); k_extra "mine lt") | ((with_reducible refine Nat.ne_of_lt ?_); k_extra "mine lt"))
  k_with "mine ne" => ((try dsimp only); (first | k_extra "mine ne0" | k_extra "mine omegaF"))
  k_with "mine rm" => (first | (with_reducible exact room0 (by with_reducible assumption)) | ((with_reducible refine' roomLe ?zrh ?zrk); (case zrh => with_reducible assumption); (case zrk => exact rfl)) | ((with_reducible refine roomS ?_); k_extra "mine rm"))
  k_with "mine le" => (first | (exact leLits rfl) | ((with_reducible refine' leLit ?zmh ?zmk); (case zmh => with_reducible assumption); (case zmk => exact rfl)) | ((with_reducible refine Nat.le_of_lt ?_); k_extra "mine lt"))
  k_with "mine lg" => (first | (exact ltLits rfl) | k_extra "mine rm" | ((with_reducible refine' ltOf ?znh ?znk); (case znh => with_reducible assumption); (case znk => exact rfl)) | k_extra "mine lt")
  k_with "mine ill" => (first | (with_reducible assumption) | decide | ((with_reducible refine' intLtLt ?zi1h ?zi1k); (case zi1h => with_reducible assumption); (case zi1k => decide)) | ((with_reducible refine' intLeLt ?zi2h ?zi2k); (case zi2h => with_reducible assumption); (case zi2k => decide)) | ((with_reducible refine' intRoom ?zi3h ?zi3k); (case zi3h => with_reducible assumption); (case zi3k => decide)) | ((with_reducible refine' intAddLt ?zi4h ?zi4k); (case zi4h => with_reducible assumption); (case zi4k => decide)) | ((with_reducible refine intS ?_); k_extra "mine ill"))
  k_with "mine ile" => (first | (with_reducible assumption) | decide | ((with_reducible refine intNn ?_); k_extra "mine ile") | ((with_reducible refine' intLtLe ?zi5h ?zi5k); (case zi5h => with_reducible assumption); (case zi5k => decide)) | ((with_reducible refine' intLeLe ?zi6h ?zi6k); (case zi6h => with_reducible assumption); (case zi6k => decide)) | ((with_reducible refine' intGeGe ?zi7h ?zi7k); (case zi7h => with_reducible assumption); (case zi7k => decide)) | ((with_reducible refine' intAddLe ?zi8h ?zi8k); (case zi8h => with_reducible assumption); (case zi8k => decide)) | ((with_reducible refine' intAddGe ?zi9h ?zi9k); (case zi9h => with_reducible assumption); (case zi9k => decide)) | ((with_reducible refine' intSubGe ?zi10h ?zi10k); (case zi10h => with_reducible assumption); (case zi10k => decide)) | ((with_reducible refine' intSubLe ?zi11h ?zi11k); (case zi11h => with_reducible assumption); (case zi11k => decide)))
  k_with "mine omegaF" => (first | ((repeat ((with_reducible rename _ ∧ _ => kz); clear kz)); (repeat ((with_reducible rename _ ≠ _ => kz); clear kz)); omega (config := {})) | omega (config := {}))
  k_with "mine omega" => (first | (with_reducible assumption) | ((with_reducible show @Ne Nat _ _); k_extra "mine ne0") | ((with_reducible show @LT.lt Nat _ _ _); k_extra "mine lg") | ((with_reducible show @LE.le Nat _ _ _); k_extra "mine le") | ((with_reducible show @LT.lt Int _ _ _); k_extra "mine ill") | ((with_reducible show @LE.le Int _ _ _); k_extra "mine ile") | ((with_reducible refine' ⟨?zoa, ?zob⟩); (case zoa => k_extra "mine ile"); (case zob => k_extra "mine ile")) | k_extra "mine omegaF")
  k_with "mine all" => first | ((with_reducible refine' List.forall_mem_cons.mpr ⟨?z30_a, ?z30_b⟩); (case z30_a => k_ne); (case z30_b => k_all)) | (with_reducible exact List.forall_mem_nil _) | (with_reducible assumption)
  k_with "mine mem" => first | (with_reducible exact List.Mem.head _) | (with_reducible assumption) | ((with_reducible refine' List.Mem.tail _ ?_); k_mem) | assumption
  k_with "mine room" => ktr_room
  k_with "eval Name" => (k_here; k_dflt (first | ((refine' nameX_L ?z33_F ?z33_v ?_ ?z33_a ?z33_b); (case z33_F => k_asm); (case z33_a => rfl); (case z33_b => rfl); (case z33_v => rfl); k_whole) | ((refine' nameX_F ?z33_N ?z33_c ?z33_m ?z33_d ?_ ?z33_a ?z33_b); (case z33_N => k_asm); (case z33_a => rfl); (case z33_b => rfl); (case z33_c => rfl); (case z33_m => k_mem); (case z33_d => k_asm); k_whole) | ((refine' nameX_K ?z33_F ?z33_X ?z33_T ?z33_e ?_ ?z33_a ?z33_b); (case z33_F => k_asm); (case z33_a => rfl); (case z33_b => rfl); (case z33_X => k_asm); (case z33_T => k_asm);  (case z33_e => k_is); k_whole)))
  k_with "subscriptTail Name BinOp ref int" => (k_here; k_dflt (refine' item_at ?z34_itN ?z34_itl ?z34_it0 ?z34_it1 ?z34_it2 ?_; (case z34_itN => k_asm); (case z34_itl => k_mem); (case z34_it0 => omega); (case z34_it1 => omega); (case z34_it2 => omega)))
  k_with "my enterN" => (refine' code_nest ?z35_k1 ?z35_k2 ?z35_k3 ?z35_k4 ?z35_k5 ?z35_kA ?z35_kF ?z35_kK ?z35_k6 ?z35_k7 ?z35_k8 ?z35_k9 ?z35_kB ?_ ?z35_c2 ?z35_c3 ?z35_c4 ?z35_c5; (case z35_kA => exact rfl); (case z35_kF => exact rfl); (case z35_kK => assumption); (case z35_k1 => k_asm); (case z35_k2 => k_asm); (case z35_k3 => k_asm); (case z35_k4 => k_asm); (case z35_k5 => k_asm); (case z35_k6 => k_mem); (case z35_k7 => exact codeRec_news (by k_asm) (by k_mem) (by assumption) (by assumption)); (case z35_k8 => ktr_room); (case z35_k9 => exact BindsTo.of_eq rfl); (case z35_c5 => decide); (case z35_kB => exact locs rfl); (case z35_c2 => exact rfl); (case z35_c3 => exact rfl); (case z35_c4 => exact rfl); k_whole; walk_at "my tail1")
  exact True.intro

set_option maxHeartbeats 2000000 in
theorem text_ok {w : World} {p : Program} {loose : List Str} {mean : ExcName → Option Value} {mg mb : Str → Option Value} {pf pc ca ct aq tl : Addr} {pco oA oT : Obj} {pvs : Array Value} {pt : Tok} {pct pdc pm : Value} {qual : Str} {q1 q2 q4 q5 q6 q7 q8 q9 q10 q11 : Pos}
    {texts : List Value} {nT : Nat} {bs : List (Array UInt8)}
    (pd1 : pco.data = .fields pvs) (pd2 : pvs[1]? = some (.str qual pt)) (dA : oA.data = .cell (some (.ref aq))) (dT : oT.data = .cell (some (.ref tl))) (hb : BytesAre texts bs) (hl5 : texts.length ≤ 5) :
    TextOk w p loose mean mg mb pf aq bs [(pf, fnMade (Str.ofString "text_at") qual { posonlyargs := [], args := [{ arg := Str.ofString "at", annotation := none, pos := q1 }], vararg := none, kwonlyargs := [], kw_defaults := [], kwarg := none, defaults := [] }
      [.Expr (.Call (.Attribute (.Name (Str.ofString "asked") q2) (Str.ofString "append") ⟨104, 8, 104, 20⟩) [.Name (Str.ofString "at") q4] [] ⟨104, 8, 104, 24⟩) q5, .Return (some (.Subscript (.Name (Str.ofString "texts") q7) (.BinOp (.Name (Str.ofString "at") q8) .Sub (.Constant (.int 1) 0 q9) q10) q11)) q6]
      { kind := .function, names := [(Str.ofString "at", .local), (Str.ofString "asked", .free), (Str.ofString "texts", .free)], isGenerator := false, isCoroutine := false }
      [(Str.ofString "texts", ct), (Str.ofString "asked", ca)] pdc pm pc pct), (pc, pco), (ca, oA), (ct, oT), (tl, W.listOf texts.toArray nT)] := by
  intro rest ws n k t hex haq hl hk0 hk1
  have m1 := hex _ (.head _)
  have m2 := hex _ (.tail _ (.head _))
  have m3 := hex _ (.tail _ (.tail _ (.head _)))
  have m4 := hex _ (.tail _ (.tail _ (.tail _ (.head _))))
  have m5 := hex _ (.tail _ (.tail _ (.tail _ (.tail _ (.head _)))))
  have hbl := hb.length
  unfold Does
  intro dp un gd cn cs a ccd cl outer A₀ base h₀ L m s Q E B F X N T hck hdp hu hok hexc
  revert X; k_fill; intro X
  refine wpAny_call ?_
  k_dflt (walk_at "my enterN")
  k_steps
  rename_i kF kN _ _
  have hkl : (k - 1).toNat < bs.length := by omega
  obtain ⟨tx, htx⟩ := hb.get _ hkl
  have hv : texts.getD (k - 1).toNat Value.none = .bytes (bs.getD (k - 1).toNat #[]) tx := by rw [List.getD_eq_getElem?_getD, htx]; rfl
  exact hok _ _ _ _ ⟨⟨tx, hv⟩, _, by rw [List.push_toArray]⟩ kF kN
end

-- J2
section
open PySem PySem.W PyProof.Rows PySem.Calls
open PySem.Builtin
set_option maxRecDepth 100000

theorem ups_succ (a : Int) (n : Nat) : ups a (n + 1) = ups a n ++ [a + (n : Int)] := by
  unfold ups
  rw [List.range_succ, List.map_append]; rfl

theorem rows_j2 : True := by
  k_with_none
  k_with "mine and" => (first | (with_reducible exact And.left) | ((with_reducible refine andR ?_); first | (with_reducible exact id) | k_extra "mine and"))
  k_with "mine lt1" => (first | (with_reducible assumption) | ((with_reducible refine' viaC ?zvh ?zvk); (case zvh => with_reducible assumption); (case zvk => k_extra "mine and")))
  k_with "mine lt2" => (first | k_extra "mine lt1" | ((with_reducible refine' ltLit ?zlh ?zlk); (case zlh => with_reducible assumption); (case zlk => exact rfl)))
  k_with "mine lt3" => (first | k_extra "mine lt2" | ((with_reducible refine' ltT ?zth ?ztk); (case zth => with_reducible assumption); (case ztk => first | k_extra "mine lt2" | ((with_reducible refine' ltT ?zuh ?zuk); (case zuh => with_reducible assumption); (case zuk => k_extra "mine lt2")))) | ((with_reducible refine lt_dn ?_); first | k_extra "mine lt1" | ((with_reducible refine lt_dn ?_); first | k_extra "mine lt1" | ((with_reducible refine lt_dn ?_); first | k_extra "mine lt1" | ((with_reducible refine lt_dn ?_); first | k_extra "mine lt1" | ((with_reducible refine lt_dn ?_); k_extra "mine lt1"))))))
  k_with "mine lt" => (first | (with_reducible exact lt_one) | ((with_reducible show _ < _ + _); (with_reducible refine lt_up ?_); k_extra "mine lt") | ((fail_if_success (with_reducible show _ < _ + _)); k_extra "mine lt3"))
  k_with "mine ne0" => (first | (with_reducible assumption) | (with_reducible exact Ne.symm (by with_reducible assumption)) | (exact neLits rfl) | ((with_reducible refine Nat.ne_of_gt ?_); k_extra "mine lt") | ((with_reducible refine Nat.ne_of_lt ?_); k_extra "mine lt"))
  k_with "mine ne" => ((try dsimp only); (first | k_extra "mine ne0" | k_extra "mine omegaF"))
  k_with "mine rm" => (first | (with_reducible exact room0 (by with_reducible assumption)) | ((with_reducible refine' roomLe ?zrh ?zrk); (case zrh => with_reducible assumption); (case zrk => exact rfl)) | ((with_reducible refine roomS ?_); k_extra "mine rm"))
  k_with "mine le" => (first | (exact leLits rfl) | ((with_reducible refine' leLit ?zmh ?zmk); (case zmh => with_reducible assumption); (case zmk => exact rfl)) | ((with_reducible refine Nat.le_of_lt ?_); k_extra "mine lt"))
  k_with "mine lg" => (first | (exact ltLits rfl) | k_extra "mine rm" | ((with_reducible refine' ltOf ?znh ?znk); (case znh => with_reducible assumption); (case znk => exact rfl)) | k_extra "mine lt")
  k_with "mine ill" => (first | (with_reducible assumption) | decide | ((with_reducible refine' intLtLt ?zi1h ?zi1k); (case zi1h => with_reducible assumption); (case zi1k => decide)) | ((with_reducible refine' intLeLt ?zi2h ?zi2k); (case zi2h => with_reducible assumption); (case zi2k => decide)) | ((with_reducible refine' intRoom ?zi3h ?zi3k); (case zi3h => with_reducible assumption); (case zi3k => decide)) | ((with_reducible refine' intAddLt ?zi4h ?zi4k); (case zi4h => with_reducible assumption); (case zi4k => decide)) | ((with_reducible refine intS ?_); k_extra "mine ill"))
  k_with "mine ile" => (first | (with_reducible assumption) | decide | ((with_reducible refine intNn ?_); k_extra "mine ile") | ((with_reducible refine' intLtLe ?zi5h ?zi5k); (case zi5h => with_reducible assumption); (case zi5k => decide)) | ((with_reducible refine' intLeLe ?zi6h ?zi6k); (case zi6h => with_reducible assumption); (case zi6k => decide)) | ((with_reducible refine' intGeGe ?zi7h ?zi7k); (case zi7h => with_reducible assumption); (case zi7k => decide)) | ((with_reducible refine' intAddLe ?zi8h ?zi8k); (case zi8h => with_reducible assumption); (case zi8k => decide)) | ((with_reducible refine' intAddGe ?zi9h ?zi9k); (case zi9h => with_reducible assumption); (case zi9k => decide)) | ((with_reducible refine' intSubGe ?zi10h ?zi10k); (case zi10h => with_reducible assumption); (case zi10k => decide)) | ((with_reducible refine' intSubLe ?zi11h ?zi11k); (case zi11h => with_reducible assumption); (case zi11k => decide)))
  k_with "mine omegaF" => (first | ((repeat ((with_reducible rename _ ∧ _ => kz); clear kz)); (repeat ((with_reducible rename _ ≠ _ => kz); clear kz)); omega (config := {})) | omega (config := {}))
  k_with "mine omega" => (first | (with_reducible assumption) | ((with_reducible show @Ne Nat _ _); k_extra "mine ne0") | ((with_reducible show @LT.lt Nat _ _ _); k_extra "mine lg") | ((with_reducible show @LE.le Nat _ _ _); k_extra "mine le") | ((with_reducible show @LT.lt Int _ _ _); k_extra "mine ill") | ((with_reducible show @LE.le Int _ _ _); k_extra "mine ile") | ((with_reducible refine' ⟨?zoa, ?zob⟩); (case zoa => k_extra "mine ile"); (case zob => k_extra "mine ile")) | k_extra "mine omegaF")
  k_with "mine all" => first | ((with_reducible refine' List.forall_mem_cons.mpr ⟨?z36_a, ?z36_b⟩); (case z36_a => k_ne); (case z36_b => k_all)) | (with_reducible exact List.forall_mem_nil _) | (with_reducible assumption) | exact allNe (by with_reducible assumption) (by omega)
  k_with "mine mem" => first | (with_reducible exact List.Mem.head _) | ((with_reducible refine' List.Mem.tail _ ?_); k_mem) | (with_reducible assumption) | assumption
  k_with "mine room" => ktr_room
  k_with "callWith ref" => (k_here; k_dflt (first | (refine' callWith_kept ?z39_lk1 ?_; (case z39_lk1 => exact KeptAt.of (by k_asm) (by k_mem) (by assumption)); k_whole) | (refine' callWith_kept0 ?z39_lk2 ?_; (case z39_lk2 => exact KeptAt.of (by k_asm) (by k_mem) (by assumption)); k_whole; try dsimp only [List.nil_append, List.cons_append])))
  k_with "And" => ((with_reducible show KeptAt _ _ ∧ _); refine ⟨KeptAt.of (by k_asm) (by k_mem) (by assumption), ?_⟩; try dsimp only [List.nil_append, List.cons_append])
  k_with "KeptAt" => exact KeptAt.of (by assumption) (by k_mem) (by assumption)
  k_with "call ref" => (k_here; first | ((with_reducible show wpAny _ _ (call _ [Value.int _ _]) _ _ _); k_dflt (refine' text_any ?z42_xaB ?z42_xaF ?z42_xaX ?z42_xaN ?z42_xaT ?z42_xak ?z42_xad ?z42_xau ?z42_xaU ?z42_xaH ?z42_xax ?z42_xas ?z42_xal ?z42_xa0 ?z42_xa1 ?_; (case z42_xaB => k_asm); (case z42_xaF => k_asm); (case z42_xaX => k_asm); (case z42_xaN => k_asm); (case z42_xaT => k_asm); (case z42_xak => rfl); (case z42_xad => ktr_room); (case z42_xau => ktr_units); (case z42_xaH => assumption); (case z42_xaU => k_updF); (case z42_xax => (intro q9 hq9; (repeat refine List.Mem.tail _ ?_); revert q9; assumption)); (case z42_xas => assumption); (case z42_xal => omega); (case z42_xa0 => omega); (case z42_xa1 => omega)); intro _ _ _ _ _; intro N'; (try dsimp only at N'); revert N'; intro _) | ((with_reducible show wpAny _ _ (call _ []) _ _ _); k_dflt (refine' tick_any ?z42_taB ?z42_taF ?z42_taX ?z42_taN ?z42_taT ?z42_tak ?z42_tad ?z42_tau ?z42_taU ?z42_taH ?z42_tax ?z42_tas ?z42_tal ?z42_ta0 ?_; (case z42_taB => k_asm); (case z42_taF => k_asm); (case z42_taX => k_asm); (case z42_taN => k_asm); (case z42_taT => k_asm); (case z42_tak => rfl); (case z42_tad => ktr_room); (case z42_tau => ktr_units); (case z42_taH => assumption); (case z42_taU => k_updF); (case z42_tax => (intro q9 hq9; (repeat refine List.Mem.tail _ ?_); revert q9; assumption)); (case z42_tas => assumption); (case z42_tal => omega); (case z42_ta0 => omega)); intro _ _ _ _ _; intro N'; (try dsimp only at N'); revert N'; intro _))
  k_with "my enterD" => (refine' code_def ?z43_k1 ?z43_k2 ?z43_k3 ?z43_k4 ?z43_k5 ?z43_kA ?z43_kF ?z43_kK ?z43_k6 ?z43_k7 ?z43_k8 ?z43_k9 ?z43_kB ?_ ?z43_c2 ?z43_c3 ?z43_c4 ?z43_c5; (case z43_kA => exact rfl); (case z43_kF => exact rfl); (case z43_kK => assumption); (case z43_k1 => k_asm); (case z43_k2 => k_asm); (case z43_k3 => k_asm); (case z43_k4 => k_asm); (case z43_k5 => k_asm); (case z43_k6 => k_is); (case z43_k7 => k_is); (case z43_k8 => ktr_room); (case z43_k9 => first | exact binds_K (by k_in) rfl (by k_is) rfl rfl rfl | exact BindsTo.of_eq rfl); (case z43_c5 => decide); (case z43_kB => exact locs rfl); (case z43_c2 => exact rfl); (case z43_c3 => exact rfl); (case z43_c4 => exact rfl); k_whole; walk_at "my tail1")
  k_with "exec While Compare" => (k_here; k_dflt (refine halt ?_))
  k_with "call builtin:len" => (k_here; (with_reducible show wpAny _ _ (call (Value.builtin _) [Value.bytes _ _]) _ _ _); k_dflt (refine' len_bytes ?z45_lbz ?_; (case z45_lbz => first | exact Nat.le_trans (getD_mem (by assumption)) (by decide) | exact Nat.le_trans (m := 100) (by assumption) (by decide))))
  k_with "call builtin:list.append" => (k_here; (with_reducible show wpAny _ _ (call (Value.builtin _) [Value.ref _, _]) _ _ _); k_dflt (refine' append_K ?z46_k1 ?z46_k2 ?z46_k3 ?_ ?z46_z; (case z46_k1 => k_asm); (case z46_k2 => k_asm); (case z46_k3 => k_updF); (case z46_z => (simp only [List.size_toArray, sizeLine_eq]; omega)); k_whole); intro _ _; intro N'; (try dsimp only at N'); revert N'; intro _)
  k_with "getMethod bytes" => (k_here; k_dflt (refine join_method ?_))
  k_with "call builtin:bytes.join" => (k_here; k_dflt (refine' join_call ?z48_jcN ?z48_jcl ?z48_jcb ?z48_jcz ?z48_jcf ?_; (case z48_jcN => k_asm); (case z48_jcl => k_mem); (case z48_jcb => assumption); (case z48_jcz => assumption); (case z48_jcf => assumption)); intro _ _)
  exact True.intro

theorem size_step (d sep b : Array UInt8) (i : Nat) : ((d ++ (if i > 0 then sep else #[])) ++ b).size = d.size + (b.size + if i > 0 then sep.size else 0) := by
  rw [Array.size_append, Array.size_append]
  split
  · omega
  · simp

/-- what holds between the turns, with a bound -/
abbrev MostInv (sep : Array UInt8) (bs : List (Array UInt8)) (first most : Int) (rest : List (Addr × Obj)) (pc aq sn : Addr) (N : Nat) (r : Nat) (a b c : Option Value) (nx : List (Addr × Obj)) : Prop :=
  ∃ i ps ks us cp ca cu ta tb, r = N - i ∧ i ≤ N ∧ a = some (.int (first + (i : Int)) ta) ∧ b = some (.int (((Bytes.joined sep (seg bs (first - 1).toNat N i)).size : Nat) : Int) tb) ∧
    nx = (pc, W.listOf (List.toArray ps) cp) :: (aq, W.listOf (List.toArray ks) ca) :: (sn, W.listOf (List.toArray us) cu) :: rest ∧
    runJ sep most bs (first - 1).toNat i = (some (Bytes.joined sep (seg bs (first - 1).toNat N i)), i) ∧ BytesAre ps (seg bs (first - 1).toNat N i) ∧ IntsAre ks (ups first i) ∧ us.length = i

set_option maxHeartbeats 8000000 in
theorem joined_most {w : World} {p : Program} {loose : List Str} {mean : ExcName → Option Value} {mg mb : Str → Option Value} {tf ck aq sn : Addr} {otf ock : Obj} {rest exT exK : List (Addr × Obj)} {bs : List (Array UInt8)} {sep : Array UInt8} {first last most left : Int} {tS tF tL tM : Tok} {N c0 c1 : Nat}
    (hT : TextOk w p loose mean mg mb tf aq bs exT) (hK : TickOk w p loose mean mg mb ck sn left exK) (hxT : ∀ q ∈ exT, q ∈ rest) (hxK : ∀ q ∈ exK, q ∈ rest) (mtf : (tf, otf) ∈ rest) (ktf : Keeps otf) (mck : (ck, ock) ∈ rest) (kck : Keeps ock)
    (har : ∀ q ∈ rest, q.1 ≠ aq) (hsr : ∀ q ∈ rest, q.1 ≠ sn) (has : @LT.lt Nat _ sn aq) (hs : sep.size ≤ 100) (hbs : ∀ b ∈ bs, b.size ≤ 100) (hf1 : 1 ≤ first) (hf2 : first ≤ 100) (hll : last ≤ bs.length) (hl0 : -10 ≤ last) (hbl : bs.length ≤ 50) (hle : 99 ≤ left)
    (hN : N = (last - first + 1).toNat) (hm0 : 0 ≤ most) (hm1 : most ≤ 1000) :
    Does w p loose mean mg mb (.ref 38) [.ref tf, .bytes sep tS, .int first tF, .int last tL, .int most tM, .ref ck] 10 ((aq, W.listOf #[] c0) :: (sn, W.listOf #[] c1) :: rest)
      (fun v nw => ∃ r m ks us c c', runJ sep most bs (first - 1).toNat N = (r, m) ∧ (r = none ∧ v = .none ∨ ∃ d t, r = some d ∧ v = .bytes d t) ∧ m ≤ N ∧ IntsAre ks (ups first m) ∧ us.length = m ∧ nw = (aq, W.listOf (List.toArray ks) c) :: (sn, W.listOf (List.toArray us) c') :: rest)
      (fun _ => False) := by
  have hxTs : ∀ q ∈ exT, q.1 ≠ aq := fun q hq => har q (hxT q hq)
  have hxKs : ∀ q ∈ exK, q.1 ≠ sn := fun q hq => hsr q (hxK q hq)
  unfold Does
  intro dp un gd cn cs a ccd cl outer A₀ base h₀ L m s Q E B F X NN T hck hdp hu hok hexc
  revert X; k_fill; intro X
  refine wpAny_call ?_
  k_dflt (walk_at "my enterD")
  k_steps
  rename_i g1 L1 h1 FG1 B1 X1 T1 tk1 pc h2 l1 DT h3 l2 h4 h5 h6 h7 F1 N1
  have l1a := l1.1
  have l1s := l1.2.1
  have l1r := l1.2.2
  unfold Halt
  replace N1 := news_tl N1
  refine while_three (Str.ofString "at") (Str.ofString "size") (Str.ofString "text") (MostInv sep bs first most rest pc aq sn N) N F1 N1 rfl rfl rfl ?_ ?_ ?_
  · exact ⟨0, [], [], [], _, _, _, _, _, rfl, Nat.zero_le _, by simp; rfl, by simp [Bytes.joined]; rfl, rfl, by simp [runJ, Bytes.joined], .nil, .nil, rfl⟩
  · intro r a' b' c' nx h4 tk4 F4 N4 hJJ
    refine byG fun G hG => ?_
    obtain ⟨i, ps, ks, us, cp, ca, cu, ta, tb, hr, hi, rfl, rfl, rfl, hrun, hps, hks, hus⟩ := hJJ
    refine hG ?_
    clear F1 N1 hG G
    have hpl := hps.length
    have hkl := hks.length
    rw [ups_length] at hkl
    have hJz : (Bytes.joined sep (seg bs (first - 1).toNat N i)).size ≤ 1000000 := join_room hs (seg_len hbl) (seg_mem hbs)
    have hJf : (seg bs (first - 1).toNat N i).toArray.foldl (fun a b => a + b.size) (sep.size * ((seg bs (first - 1).toNat N i).length - 1)) ≤ 1000000 := fold_room hs (seg_len hbl) (seg_mem hbs)
    have hp2 : ps.length ≤ 60 := by
      rw [hpl]
      exact seg_len (Nat.le_trans hbl (by decide))
    have he := off_eq hf1
    have hi50 : i ≤ 50 := Nat.le_trans hi (n_le hf1 hll hN hbl)
    have hu50 : us.length ≤ 50 := Nat.le_trans (Nat.le_of_eq hus) hi50
    have hk50 : ks.length ≤ 50 := Nat.le_trans (Nat.le_of_eq hkl) hi50
    have hu1 := tick_room hu50 hle
    have hups : ∀ {ks : List Value} {t : Tok}, IntsAre ks (ups first i) → IntsAre (ks ++ [.int (first + (i : Int)) t]) (ups first (i + 1)) := fun h => by
      rw [ups_succ]
      exact h.append (.cons _ _ .nil)
    k_steps
    all_goals (try (dsimp only [WhileStep2]))
    · rename _ < _ => hbig
      k_steps
      have hi1 : i < N := idx_lt hN (by with_reducible assumption)
      have hz : ((Bytes.joined sep (seg bs (first - 1).toNat N i) ++ (if i > 0 then sep else #[])) ++ bs.getD ((first - 1).toNat + i) #[]).size = (Bytes.joined sep (seg bs (first - 1).toNat N i)).size + ((bs.getD ((first - 1).toNat + i) #[]).size + sep.size) := by
        rw [size_step, if_pos (pos_of (by with_reducible assumption))]
      rw [he i] at hbig
      have hst := runJ_stop hrun hi1 (by rw [hz]; omega)
      rename Fr _ _ _ _ => kFz
      rename News _ _ _ _ => kNz
      exact hok _ _ _ _ ⟨none, i + 1, ks ++ [_], us ++ [_], _, _, hst, .inl ⟨rfl, rfl⟩, by omega, hups hks, by simp [hus], rfl⟩ kFz (news_tl kNz)
    · rename ¬ _ < _ => hbig
      have hi1 : i < N := idx_lt hN (by with_reducible assumption)
      have hz : ((Bytes.joined sep (seg bs (first - 1).toNat N i) ++ (if i > 0 then sep else #[])) ++ bs.getD ((first - 1).toNat + i) #[]).size = (Bytes.joined sep (seg bs (first - 1).toNat N i)).size + ((bs.getD ((first - 1).toNat + i) #[]).size + sep.size) := by
        rw [size_step, if_pos (pos_of (by with_reducible assumption))]
      rw [he i] at hbig
      have hgo := runJ_go hrun (by rw [hz]; omega)
      have hst := joined_step (sep := sep) hi1 (idx_le hf1 hll hN hi1)
      rw [← hst] at hgo hz
      rename Fr _ _ _ _ => kFz
      rename News _ _ _ _ => kNz
      refine ⟨_, _, _, _, N - (i + 1), rfl, kFz, kNz, dec_lt hr hi1, _, _, _, three_three _ _ _ _ _ _ _ _ _ _, i + 1, ps ++ [_], ks ++ [_], us ++ [_], _, _, _, _, _, rfl, hi1, congrArg some (congrArg (Value.int · _) (step_eq _ _)), congrArg some (congrArg (Value.int · _) ?_), by rw [List.push_toArray], hgo, ?_, hups hks, by simp [hus]⟩
      · rw [hz, he i]; simp only [Int.natCast_add]
      · rw [seg, sub_take_succ hi1 (idx_le hf1 hll hN hi1), he i]
        exact hps.append (.cons _ _ .nil)
    · rename _ < _ => hbig
      k_steps
      have hi1 : i < N := idx_lt hN (by with_reducible assumption)
      have hz : ((Bytes.joined sep (seg bs (first - 1).toNat N i) ++ (if i > 0 then sep else #[])) ++ bs.getD ((first - 1).toNat + i) #[]).size = (Bytes.joined sep (seg bs (first - 1).toNat N i)).size + ((bs.getD ((first - 1).toNat + i) #[]).size + 0) := by
        rw [size_step, if_neg (not_pos (by with_reducible assumption))]
      rw [he i] at hbig
      have hst := runJ_stop hrun hi1 (by rw [hz]; omega)
      rename Fr _ _ _ _ => kFz
      rename News _ _ _ _ => kNz
      exact hok _ _ _ _ ⟨none, i + 1, ks ++ [_], us ++ [_], _, _, hst, .inl ⟨rfl, rfl⟩, by omega, hups hks, by simp [hus], rfl⟩ kFz (news_tl kNz)
    · rename ¬ _ < _ => hbig
      have hi1 : i < N := idx_lt hN (by with_reducible assumption)
      have hz : ((Bytes.joined sep (seg bs (first - 1).toNat N i) ++ (if i > 0 then sep else #[])) ++ bs.getD ((first - 1).toNat + i) #[]).size = (Bytes.joined sep (seg bs (first - 1).toNat N i)).size + ((bs.getD ((first - 1).toNat + i) #[]).size + 0) := by
        rw [size_step, if_neg (not_pos (by with_reducible assumption))]
      rw [he i] at hbig
      have hgo := runJ_go hrun (by rw [hz]; omega)
      have hst := joined_step (sep := sep) hi1 (idx_le hf1 hll hN hi1)
      rw [← hst] at hgo hz
      rename Fr _ _ _ _ => kFz
      rename News _ _ _ _ => kNz
      refine ⟨_, _, _, _, N - (i + 1), rfl, kFz, kNz, dec_lt hr hi1, _, _, _, three_three _ _ _ _ _ _ _ _ _ _, i + 1, ps ++ [_], ks ++ [_], us ++ [_], _, _, _, _, _, rfl, hi1, congrArg some (congrArg (Value.int · _) (step_eq _ _)), congrArg some (congrArg (Value.int · _) ?_), by rw [List.push_toArray], hgo, ?_, hups hks, by simp [hus]⟩
      · rw [hz, he i]; simp only [Int.natCast_add]; rfl
      · rw [seg, sub_take_succ hi1 (idx_le hf1 hll hN hi1), he i]
        exact hps.append (.cons _ _ .nil)
    · have hiN : i = N := idx_end hN hi (by with_reducible assumption)
      subst hiN
      rename_i kFz kNz _ _
      exact hok _ _ _ _ ⟨_, i, ks, us, _, _, hrun, .inr ⟨_, _, rfl, rfl⟩, Nat.le_refl _, hks, hus, rfl⟩ kFz (news_tl kNz)
  · first | passes_own | with_unfolding_all passes_own
end

-- J3
section
open PySem PySem.W PyProof.Rows PySem.Calls
open PySem.Builtin
set_option maxRecDepth 100000

theorem rows_j3 : True := by
  k_with_none
  k_with "mine and" => (first | (with_reducible exact And.left) | ((with_reducible refine andR ?_); first | (with_reducible exact id) | k_extra "mine and"))
  k_with "mine lt1" => (first | (with_reducible assumption) | ((with_reducible refine' viaC ?zvh ?zvk); (case zvh => with_reducible assumption); (case zvk => k_extra "mine and")))
  k_with "mine lt2" => (first | k_extra "mine lt1" | ((with_reducible refine' ltLit ?zlh ?zlk); (case zlh => with_reducible assumption); (case zlk => exact rfl)))
  k_with "mine lt3" => (first | k_extra "mine lt2" | ((with_reducible refine' ltT ?zth ?ztk); (case zth => with_reducible assumption); (case ztk => first | k_extra "mine lt2" | ((with_reducible refine' ltT ?zuh ?zuk); (case zuh => with_reducible assumption); (case zuk => k_extra "mine lt2")))) | ((with_reducible refine lt_dn ?_); first | k_extra "mine lt1" | ((with_reducible refine lt_dn ?_); first | k_extra "mine lt1" | ((with_reducible refine lt_dn ?_); first | k_extra "mine lt1" | ((with_reducible refine lt_dn ?_); first | k_extra "mine lt1" | ((with_reducible refine lt_dn ?_); k_extra "mine lt1"))))))
  k_with "mine lt" => (first | (with_reducible exact lt_one) | ((with_reducible show _ < _ + _); (with_reducible refine lt_up ?_); k_extra "mine lt") | ((fail_if_success (with_reducible show _ < _ + _)); k_extra "mine lt3"))
  k_with "mine ne0" => (first | (with_reducible assumption) | (with_reducible exact Ne.symm (by with_reducible assumption)) | (exact neLits rfl) | ((with_reducible refine Nat.ne_of_gt ?_); k_extra "mine lt") | ((with_reducible refine Nat.ne_of_lt ?_); k_extra "mine lt"))
  k_with "mine ne" => ((try dsimp only); (first | k_extra "mine ne0" | k_extra "mine omegaF"))
  k_with "mine rm" => (first | (with_reducible exact room0 (by with_reducible assumption)) | ((with_reducible refine' roomLe ?zrh ?zrk); (case zrh => with_reducible assumption); (case zrk => exact rfl)) | ((with_reducible refine roomS ?_); k_extra "mine rm"))
  k_with "mine le" => (first | (exact leLits rfl) | ((with_reducible refine' leLit ?zmh ?zmk); (case zmh => with_reducible assumption); (case zmk => exact rfl)) | ((with_reducible refine Nat.le_of_lt ?_); k_extra "mine lt"))
  k_with "mine lg" => (first | (exact ltLits rfl) | k_extra "mine rm" | ((with_reducible refine' ltOf ?znh ?znk); (case znh => with_reducible assumption); (case znk => exact rfl)) | k_extra "mine lt")
  k_with "mine ill" => (first | (with_reducible assumption) | decide | ((with_reducible refine' intLtLt ?zi1h ?zi1k); (case zi1h => with_reducible assumption); (case zi1k => decide)) | ((with_reducible refine' intLeLt ?zi2h ?zi2k); (case zi2h => with_reducible assumption); (case zi2k => decide)) | ((with_reducible refine' intRoom ?zi3h ?zi3k); (case zi3h => with_reducible assumption); (case zi3k => decide)) | ((with_reducible refine' intAddLt ?zi4h ?zi4k); (case zi4h => with_reducible assumption); (case zi4k => decide)) | ((with_reducible refine intS ?_); k_extra "mine ill"))
  k_with "mine ile" => (first | (with_reducible assumption) | decide | ((with_reducible refine intNn ?_); k_extra "mine ile") | ((with_reducible refine' intLtLe ?zi5h ?zi5k); (case zi5h => with_reducible assumption); (case zi5k => decide)) | ((with_reducible refine' intLeLe ?zi6h ?zi6k); (case zi6h => with_reducible assumption); (case zi6k => decide)) | ((with_reducible refine' intGeGe ?zi7h ?zi7k); (case zi7h => with_reducible assumption); (case zi7k => decide)) | ((with_reducible refine' intAddLe ?zi8h ?zi8k); (case zi8h => with_reducible assumption); (case zi8k => decide)) | ((with_reducible refine' intAddGe ?zi9h ?zi9k); (case zi9h => with_reducible assumption); (case zi9k => decide)) | ((with_reducible refine' intSubGe ?zi10h ?zi10k); (case zi10h => with_reducible assumption); (case zi10k => decide)) | ((with_reducible refine' intSubLe ?zi11h ?zi11k); (case zi11h => with_reducible assumption); (case zi11k => decide)))
  k_with "mine omegaF" => (first | ((repeat ((with_reducible rename _ ∧ _ => kz); clear kz)); (repeat ((with_reducible rename _ ≠ _ => kz); clear kz)); omega (config := {})) | omega (config := {}))
  k_with "mine omega" => (first | (with_reducible assumption) | ((with_reducible show @Ne Nat _ _); k_extra "mine ne0") | ((with_reducible show @LT.lt Nat _ _ _); k_extra "mine lg") | ((with_reducible show @LE.le Nat _ _ _); k_extra "mine le") | ((with_reducible show @LT.lt Int _ _ _); k_extra "mine ill") | ((with_reducible show @LE.le Int _ _ _); k_extra "mine ile") | ((with_reducible refine' ⟨?zoa, ?zob⟩); (case zoa => k_extra "mine ile"); (case zob => k_extra "mine ile")) | k_extra "mine omegaF")
  k_with "mine all" => first | ((with_reducible refine' List.forall_mem_cons.mpr ⟨?z49_a, ?z49_b⟩); (case z49_a => k_ne); (case z49_b => k_all)) | (with_reducible exact List.forall_mem_nil _) | (with_reducible assumption) | exact allNe (by with_reducible assumption) (by omega)
  k_with "mine mem" => first | (with_reducible exact List.Mem.head _) | ((with_reducible refine' List.Mem.tail _ ?_); k_mem) | (with_reducible assumption) | assumption
  k_with "mine room" => ktr_room
  k_with "callWith ref" => (k_here; k_dflt (first | (refine' callWith_kept ?z52_lk1 ?_; (case z52_lk1 => exact KeptAt.of (by k_asm) (by k_mem) (by assumption)); k_whole) | (refine' callWith_kept0 ?z52_lk2 ?_; (case z52_lk2 => exact KeptAt.of (by k_asm) (by k_mem) (by assumption)); k_whole; try dsimp only [List.nil_append, List.cons_append])))
  k_with "And" => ((with_reducible show KeptAt _ _ ∧ _); refine ⟨KeptAt.of (by k_asm) (by k_mem) (by assumption), ?_⟩; try dsimp only [List.nil_append, List.cons_append])
  k_with "KeptAt" => exact KeptAt.of (by assumption) (by k_mem) (by assumption)
  k_with "call ref" => (k_here; first | ((with_reducible show wpAny _ _ (call _ [Value.int _ _]) _ _ _); k_dflt (refine' text_any ?z55_xaB ?z55_xaF ?z55_xaX ?z55_xaN ?z55_xaT ?z55_xak ?z55_xad ?z55_xau ?z55_xaU ?z55_xaH ?z55_xax ?z55_xas ?z55_xal ?z55_xa0 ?z55_xa1 ?_; (case z55_xaB => k_asm); (case z55_xaF => k_asm); (case z55_xaX => k_asm); (case z55_xaN => k_asm); (case z55_xaT => k_asm); (case z55_xak => rfl); (case z55_xad => ktr_room); (case z55_xau => ktr_units); (case z55_xaH => assumption); (case z55_xaU => k_updF); (case z55_xax => (intro q9 hq9; (repeat refine List.Mem.tail _ ?_); revert q9; assumption)); (case z55_xas => assumption); (case z55_xal => omega); (case z55_xa0 => omega); (case z55_xa1 => omega)); intro _ _ _ _ _; intro N'; (try dsimp only at N'); revert N'; intro _) | ((with_reducible show wpAny _ _ (call _ []) _ _ _); k_dflt (refine' tick_any ?z55_taB ?z55_taF ?z55_taX ?z55_taN ?z55_taT ?z55_tak ?z55_tad ?z55_tau ?z55_taU ?z55_taH ?z55_tax ?z55_tas ?z55_tal ?z55_ta0 ?_; (case z55_taB => k_asm); (case z55_taF => k_asm); (case z55_taX => k_asm); (case z55_taN => k_asm); (case z55_taT => k_asm); (case z55_tak => rfl); (case z55_tad => ktr_room); (case z55_tau => ktr_units); (case z55_taH => assumption); (case z55_taU => k_updF); (case z55_tax => (intro q9 hq9; (repeat refine List.Mem.tail _ ?_); revert q9; assumption)); (case z55_tas => assumption); (case z55_tal => omega); (case z55_ta0 => omega)); intro _ _ _ _ _; intro N'; (try dsimp only at N'); revert N'; intro _))
  k_with "my enterD" => (refine' code_def ?z56_k1 ?z56_k2 ?z56_k3 ?z56_k4 ?z56_k5 ?z56_kA ?z56_kF ?z56_kK ?z56_k6 ?z56_k7 ?z56_k8 ?z56_k9 ?z56_kB ?_ ?z56_c2 ?z56_c3 ?z56_c4 ?z56_c5; (case z56_kA => exact rfl); (case z56_kF => exact rfl); (case z56_kK => assumption); (case z56_k1 => k_asm); (case z56_k2 => k_asm); (case z56_k3 => k_asm); (case z56_k4 => k_asm); (case z56_k5 => k_asm); (case z56_k6 => k_is); (case z56_k7 => k_is); (case z56_k8 => ktr_room); (case z56_k9 => first | exact binds_K (by k_in) rfl (by k_is) rfl rfl rfl | exact BindsTo.of_eq rfl); (case z56_c5 => decide); (case z56_kB => exact locs rfl); (case z56_c2 => exact rfl); (case z56_c3 => exact rfl); (case z56_c4 => exact rfl); k_whole; walk_at "my tail1")
  k_with "exec While Compare" => (k_here; k_dflt (refine halt ?_))
  k_with "call builtin:len" => (k_here; (with_reducible show wpAny _ _ (call (Value.builtin _) [Value.bytes _ _]) _ _ _); k_dflt (refine' len_bytes ?z58_lbz ?_; (case z58_lbz => first | exact Nat.le_trans (getD_mem (by assumption)) (by decide) | exact Nat.le_trans (m := 100) (by assumption) (by decide))))
  k_with "call builtin:list.append" => (k_here; (with_reducible show wpAny _ _ (call (Value.builtin _) [Value.ref _, _]) _ _ _); k_dflt (refine' append_K ?z59_k1 ?z59_k2 ?z59_k3 ?_ ?z59_z; (case z59_k1 => k_asm); (case z59_k2 => k_asm); (case z59_k3 => k_updF); (case z59_z => (simp only [List.size_toArray, sizeLine_eq]; omega)); k_whole); intro _ _; intro N'; (try dsimp only at N'); revert N'; intro _)
  k_with "getMethod bytes" => (k_here; k_dflt (refine join_method ?_))
  k_with "call builtin:bytes.join" => (k_here; k_dflt (refine' join_call ?z61_jcN ?z61_jcl ?z61_jcb ?z61_jcz ?z61_jcf ?_; (case z61_jcN => k_asm); (case z61_jcl => k_mem); (case z61_jcb => assumption); (case z61_jcz => assumption); (case z61_jcf => assumption)); intro _ _)
  exact True.intro

/-- what holds between the turns, without a bound -/
abbrev FreeInv (sep : Array UInt8) (bs : List (Array UInt8)) (first : Int) (ws : List Value) (rest : List (Addr × Obj)) (pc aq : Addr) (N : Nat) (r : Nat) (a b c : Option Value) (nx : List (Addr × Obj)) : Prop :=
  ∃ i ps ks cp ca ta tb, r = N - i ∧ i ≤ N ∧ a = some (.int (first + (i : Int)) ta) ∧ b = some (.int (((Bytes.joined sep (seg bs (first - 1).toNat N i)).size : Nat) : Int) tb) ∧
    nx = (pc, W.listOf (List.toArray ps) cp) :: (aq, W.listOf (List.toArray ks) ca) :: rest ∧ BytesAre ps (seg bs (first - 1).toNat N i) ∧ ks.length = ws.length + i

set_option maxHeartbeats 8000000 in
theorem joined_free {w : World} {p : Program} {loose : List Str} {mean : ExcName → Option Value} {mg mb : Str → Option Value} {tf aq : Addr} {otf : Obj} {rest exT : List (Addr × Obj)} {bs : List (Array UInt8)} {sep : Array UInt8} {first last : Int} {tS tF tL : Tok} {N c0 : Nat} {ws : List Value}
    (hT : TextOk w p loose mean mg mb tf aq bs exT) (hxT : ∀ q ∈ exT, q ∈ rest) (mtf : (tf, otf) ∈ rest) (ktf : Keeps otf)
    (har : ∀ q ∈ rest, q.1 ≠ aq) (hs : sep.size ≤ 100) (hbs : ∀ b ∈ bs, b.size ≤ 100) (hf1 : 1 ≤ first) (hf2 : first ≤ 100) (hll : last ≤ bs.length) (hl0 : -10 ≤ last) (hbl : bs.length ≤ 50)
    (hN : N = (last - first + 1).toNat) (hws : ws.length ≤ 100) :
    Does w p loose mean mg mb (.ref 38) [.ref tf, .bytes sep tS, .int first tF, .int last tL] 10 ((aq, W.listOf ws.toArray c0) :: rest)
      (fun v nw => ∃ ks c t, v = .bytes (Bytes.joined sep ((bs.drop (first - 1).toNat).take N)) t ∧ nw = (aq, W.listOf (List.toArray ks) c) :: rest)
      (fun _ => False) := by
  have hxTs : ∀ q ∈ exT, q.1 ≠ aq := fun q hq => har q (hxT q hq)
  unfold Does
  intro dp un gd cn cs a ccd cl outer A₀ base h₀ L m s Q E B F X NN T hck hdp hu hok hexc
  revert X; k_fill; intro X
  refine wpAny_call ?_
  k_dflt (walk_at "my enterD")
  k_steps
  rename_i g1 L1 h1 FG1 B1 X1 T1 tk1 pc h2 l1 DT h3 l2 h4 h5 h6 h7 F1 N1
  have l1a := l1.1
  have l1r := l1.2
  unfold Halt
  replace N1 := news_tl N1
  refine while_three (Str.ofString "at") (Str.ofString "size") (Str.ofString "text") (FreeInv sep bs first ws rest pc aq N) N F1 N1 rfl rfl rfl ?_ ?_ ?_
  · exact ⟨0, [], ws, _, _, _, _, rfl, Nat.zero_le _, by simp; rfl, by simp [Bytes.joined]; rfl, rfl, .nil, rfl⟩
  · intro r a' b' c' nx h4 tk4 F4 N4 hJJ
    refine byG fun G hG => ?_
    obtain ⟨i, ps, ks, cp, ca, ta, tb, hr, hi, rfl, rfl, rfl, hps, hkl⟩ := hJJ
    refine hG ?_
    clear F1 N1 hG G
    have hpl := hps.length
    have hJz : (Bytes.joined sep (seg bs (first - 1).toNat N i)).size ≤ 1000000 := join_room hs (seg_len hbl) (seg_mem hbs)
    have hJf : (seg bs (first - 1).toNat N i).toArray.foldl (fun a b => a + b.size) (sep.size * ((seg bs (first - 1).toNat N i).length - 1)) ≤ 1000000 := fold_room hs (seg_len hbl) (seg_mem hbs)
    have hp2 : ps.length ≤ 60 := by
      rw [hpl]
      exact seg_len (Nat.le_trans hbl (by decide))
    have hk2 : ks.length ≤ 150 := Nat.le_trans (Nat.le_of_eq hkl) (Nat.add_le_add hws (Nat.le_trans hi (n_le hf1 hll hN hbl)))
    have he := off_eq hf1
    have hi50 : i ≤ 50 := Nat.le_trans hi (n_le hf1 hll hN hbl)
    k_steps
    all_goals (try (dsimp only [WhileStep2]))
    · have hi1 : i < N := idx_lt hN (by with_reducible assumption)
      have hz : ((Bytes.joined sep (seg bs (first - 1).toNat N i) ++ (if i > 0 then sep else #[])) ++ bs.getD ((first - 1).toNat + i) #[]).size = (Bytes.joined sep (seg bs (first - 1).toNat N i)).size + ((bs.getD ((first - 1).toNat + i) #[]).size + sep.size) := by
        rw [size_step, if_pos (pos_of (by with_reducible assumption))]
      have hst := joined_step (sep := sep) hi1 (idx_le hf1 hll hN hi1)
      rw [← hst] at hz
      rename Fr _ _ _ _ => kFz
      rename News _ _ _ _ => kNz
      refine ⟨_, _, _, _, N - (i + 1), rfl, kFz, kNz, dec_lt hr hi1, _, _, _, three_three _ _ _ _ _ _ _ _ _ _, i + 1, ps ++ [_], ks ++ [_], _, _, _, _, rfl, hi1, congrArg some (congrArg (Value.int · _) (step_eq _ _)), congrArg some (congrArg (Value.int · _) ?_), by rw [List.push_toArray], ?_, by simp [hkl]; omega⟩
      · rw [hz, he i]; simp only [Int.natCast_add]
      · rw [seg, sub_take_succ hi1 (idx_le hf1 hll hN hi1), he i]
        exact hps.append (.cons _ _ .nil)
    · have hi1 : i < N := idx_lt hN (by with_reducible assumption)
      have hz : ((Bytes.joined sep (seg bs (first - 1).toNat N i) ++ (if i > 0 then sep else #[])) ++ bs.getD ((first - 1).toNat + i) #[]).size = (Bytes.joined sep (seg bs (first - 1).toNat N i)).size + ((bs.getD ((first - 1).toNat + i) #[]).size + 0) := by
        rw [size_step, if_neg (not_pos (by with_reducible assumption))]
      have hst := joined_step (sep := sep) hi1 (idx_le hf1 hll hN hi1)
      rw [← hst] at hz
      rename Fr _ _ _ _ => kFz
      rename News _ _ _ _ => kNz
      refine ⟨_, _, _, _, N - (i + 1), rfl, kFz, kNz, dec_lt hr hi1, _, _, _, three_three _ _ _ _ _ _ _ _ _ _, i + 1, ps ++ [_], ks ++ [_], _, _, _, _, rfl, hi1, congrArg some (congrArg (Value.int · _) (step_eq _ _)), congrArg some (congrArg (Value.int · _) ?_), by rw [List.push_toArray], ?_, by simp [hkl]; omega⟩
      · rw [hz, he i]; simp only [Int.natCast_add]; rfl
      · rw [seg, sub_take_succ hi1 (idx_le hf1 hll hN hi1), he i]
        exact hps.append (.cons _ _ .nil)
    · have hiN : i = N := idx_end hN hi (by with_reducible assumption)
      subst hiN
      rename_i kFz kNz _ _
      have e : seg bs (first - 1).toNat i i = (bs.drop (first - 1).toNat).take i := by rw [seg, List.take_take, Nat.min_self]
      exact hok _ _ _ _ ⟨ks, _, _, congrArg (fun l => Value.bytes (Bytes.joined sep l) _) e, rfl⟩ kFz (news_tl kNz)
  · first | passes_own | with_unfolding_all passes_own
end

-- J4
section
open PySem PySem.W PyProof.Rows PySem.Calls
open PySem.Builtin
set_option maxRecDepth 100000

/-- an item of a display of three bytes, by a bounded place -/
theorem item_bytes3 {prog : Program} {w : World} {A : Around} {E : Value → Shared → Prop} {s : Shared} {h₀ : Heap} {L : Addr} {news : List (Addr × Obj)} {value fe : PySem.Expr} {fas : List PySem.Expr} {fks : List Keyword} {fps : Pos} {l : Addr} {a b c : Array UInt8} {k : Int} {ta tb tc u : Tok} {n : Nat} {Q : Value → Shared → Prop}
    (N : News h₀ L s.heap news) (hl : (l, W.listOf #[.bytes a ta, .bytes b tb, .bytes c tc] n) ∈ news)
    (h0 : 0 ≤ k) (h1 : k < 3) (ha : a.size ≤ 3) (hb : b.size ≤ 3) (hc : c.size ≤ 3)
    (h : ∀ v t, v.size ≤ 3 → Q (.bytes v t) s) :
    wpAny (model prog w) A (subscriptTail value (.Call fe fas fks fps) (.ref l) (.int k u)) Q E s := by
  have hs : subscripted (.Call fe fas fks fps) false (.ref l) (.int k u) = operate [.ref l, .int k u] (getItem (.ref l) (.int k u)) := rfl
  have hL : s.heap.IsList l #[.bytes a ta, .bytes b tb, .bytes c tc] := ⟨_, (N _ hl).1, rfl, n, rfl⟩
  have hk : k = 0 ∨ k = 1 ∨ k = 2 := by omega
  rcases hk with rfl | rfl | rfl
  · exact tail_any hL.typeIs slot_list_getitem.lookup (wpAny_getItem_list hL (by decide) (by decide) rfl (h a ta ha)) hs
  · exact tail_any hL.typeIs slot_list_getitem.lookup (wpAny_getItem_list hL (by decide) (by decide) rfl (h b tb hb)) hs
  · exact tail_any hL.typeIs slot_list_getitem.lookup (wpAny_getItem_list hL (by decide) (by decide) rfl (h c tc hc)) hs

/-- an item of a list of bytes, by a place in it -/
theorem item_bytes {prog : Program} {w : World} {A : Around} {E : Value → Shared → Prop} {s : Shared} {h₀ : Heap} {L : Addr} {news : List (Addr × Obj)} {Q : Value → Shared → Prop} {value l r : PySem.Expr} {op : Operator} {ps : Pos} {a : Addr} {vs : List Value} {bs : List (Array UInt8)} {k : Int} {u : Tok} {n : Nat} (N : News h₀ L s.heap news) (hl : (a, W.listOf vs.toArray n) ∈ news) (hb : BytesAre vs bs) (h0 : 0 ≤ k) (h1 : k < bs.length) (h2 : bs.length ≤ 1000)
    (h : ∀ t, Q (.bytes (bs.getD k.toNat #[]) t) s) : wpAny (model prog w) A (subscriptTail value (.BinOp l op r ps) (.ref a) (.int k u)) Q E s := by
  have hvl := hb.length
  obtain ⟨t, ht⟩ := hb.get k.toNat (by omega)
  refine item_at N hl h0 (by omega) (by omega) ?_
  rw [List.getD_eq_getElem?_getD, ht]
  exact h t

/-- one turn of the law's loop -/
def stepJ (sep : Array UInt8) (most : Int) (bs : List (Array UInt8)) (first : Int) (p : Option (Array UInt8) × Nat) (k : Int) : Option (Array UInt8) × Nat :=
  match p with
  | (none, m) => (none, m)
  | (some d, m) => if ((((d ++ (if k > first then sep else #[])) ++ bs.getD (k - 1).toNat #[]).size : Nat) : Int) ≤ most then (some ((d ++ (if k > first then sep else #[])) ++ bs.getD (k - 1).toNat #[]), m + 1) else (none, m + 1)

theorem fold_run (sep : Array UInt8) (most : Int) (bs : List (Array UInt8)) (first : Int) (h1 : 1 ≤ first) : ∀ n : Nat, (rangeKs first n).foldl (stepJ sep most bs first) (some #[], 0) = runJ sep most bs (first - 1).toNat n
  | 0 => rfl
  | n + 1 => by
    have e : rangeKs first (n + 1) = rangeKs first n ++ [first + (n : Int)] := by unfold rangeKs; rw [List.range_succ, List.map_append]; rfl
    rw [e, List.foldl_append, fold_run sep most bs first h1 n]
    show stepJ sep most bs first (runJ sep most bs (first - 1).toNat n) (first + (n : Int)) = match runJ sep most bs (first - 1).toNat n with
      | (none, m) => (none, m)
      | (some d, m) => _
    unfold stepJ
    have e1 : (first + (n : Int) > first) = (n > 0) := by rw [eq_iff_iff]; omega
    have e2 := off_eq h1 n
    simp only [e1, e2]

/-- how a value says what is due -/
def DueV (r : Option (Array UInt8)) (v : Value) : Prop := (r = none ∧ v = .none) ∨ ∃ d t, r = some d ∧ v = .bytes d t

theorem sealN {h₀ h : Heap} {L : Addr} {news : List (Addr × Obj)} (N : News h₀ L h news) : ∃ R, R = news ∧ News h₀ L h R := ⟨_, rfl, N⟩

section
variable {prog : Program} {w : World} {A : Around} {E : Value → Shared → Prop} {s : Shared} {env : Env} {h₀ : Heap} {x : Str} {body : List Stmt} {Q : Flow → Shared → Prop}
/-- a loop over a range that stores two names -/
theorem range_two {σ : Type} {r : Addr} {a₀ b₀ : Int} {t₀ u₀ v₀ : Tok} {n : Nat} {m₀ : Str → Option Value} {news : List (Addr × Obj)} (y z : Str) (V : σ → Value → Value → Prop) (g : σ → Int → σ) (c₀ : σ) {va ua : Value}
    (hh : A.handled = none) (hr : IsRange s.heap r a₀ b₀ 1 t₀ u₀ v₀) (hsmall : Builtin.Range.small a₀ b₀ 1 = true) (hn : Builtin.Range.rangeSize a₀ b₀ 1 = (n : Int)) (F : Fr h₀ env.locals s.heap m₀) (N : News h₀ env.locals s.heap news)
    (hy : m₀ y = some va) (hz : m₀ z = some ua) (hV : V c₀ va ua)
    (turn : ∀ k t c v u h tk own, k ∈ rangeKs a₀ n → V c v u → Fr h₀ env.locals h (fun q => if q = x then some (.int k t) else if q = y then some v else if q = z then some u else m₀ q) → News h₀ env.locals h (news ++ own) →
      wpAny (model prog w) A (execs body env) (InvPostN h₀ env.locals (fun m' nx => nx = news ∧ ∃ v' u', V (g c k) v' u' ∧ m' y = some v' ∧ m' z = some u' ∧ ∀ q, q ≠ x → q ≠ y → q ≠ z → m' q = m₀ q) own (news.map (·.1)) { s with heap := h, toks := tk } Q) E { s with heap := h, toks := tk })
    (done : ∀ (f : Str → Option Value) v u h tk, V ((rangeKs a₀ n).foldl g c₀) v u → Fr h₀ env.locals h (fun q => if q = x then f q else if q = y then some v else if q = z then some u else m₀ q) → News h₀ env.locals h news → Q .next { s with heap := h, toks := tk }) :
    wpAny (model prog w) A (pyIter (.ref r)) (fun it s₂ => LoopAtV prog w A h₀ env x body Q E it s₂) E s := by
  refine iter_rangeS (σ := σ) (fun c m nx => nx = news ∧ ∃ v u, V c v u ∧ m y = some v ∧ m z = some u ∧ ∀ q, q ≠ x → q ≠ y → q ≠ z → m q = m₀ q) g c₀ hh hr hsmall hn F N ⟨rfl, _, _, hV, hy, hz, fun _ _ _ _ => rfl⟩ ?_ ?_
  · rintro k t c m₁ nx h tk own hk hoff ⟨rfl, v, u, hV₁, ha, hb, hm⟩ F₁ N₁
    rw [map_two ha hb hm] at F₁
    exact turn k t c v u h tk own hk hV₁ F₁ N₁
  · rintro m₁ nx h tk ⟨rfl, v, u, hV₁, ha, hb, hm⟩ F₁ N₁
    refine done m₁ v u h tk hV₁ ?_ N₁
    rw [done_two ha hb hm]; exact F₁
end

theorem inv_end {h₀ : Heap} {L : Addr} {J : (Str → Option Value) → List (Addr × Obj) → Prop} {own news : List (Addr × Obj)} {s₁ s₂ : Shared} {Q : Flow → Shared → Prop} {h' : Heap} {tk : Nat} {m' : Str → Option Value}
    (F : Fr h₀ L h' m') (N : News h₀ L h' (news ++ own)) (hs : s₂ = { s₁ with heap := h', toks := tk }) (hJ : J m' news) : InvPostN h₀ L J own (news.map (·.1)) s₁ Q .next s₂ :=
  ⟨h', tk, m', news ++ own, news, hs, F, N, fun p hp => List.mem_append_left _ hp, fun p hp => List.mem_append_right _ hp, rfl, hJ⟩
theorem stepJ_none (sep : Array UInt8) (most : Int) (bs : List (Array UInt8)) (first : Int) (m : Nat) (k : Int) : stepJ sep most bs first (none, m) k = (none, m) := rfl
theorem stepJ_go {sep : Array UInt8} {most : Int} {bs : List (Array UInt8)} {first : Int} {d x : Array UInt8} {m : Nat} {k : Int} (hx : (if k > first then sep else #[]) = x) (h : ((((d ++ x) ++ bs.getD (k - 1).toNat #[]).size : Nat) : Int) ≤ most) :
    stepJ sep most bs first (some d, m) k = (some ((d ++ x) ++ bs.getD (k - 1).toNat #[]), m + 1) := by
  unfold stepJ
  dsimp only
  rw [hx, if_pos h]
theorem stepJ_stop {sep : Array UInt8} {most : Int} {bs : List (Array UInt8)} {first : Int} {d x : Array UInt8} {m : Nat} {k : Int} (hx : (if k > first then sep else #[]) = x) (h : ¬ ((((d ++ x) ++ bs.getD (k - 1).toNat #[]).size : Nat) : Int) ≤ most) :
    stepJ sep most bs first (some d, m) k = (none, m + 1) := by
  unfold stepJ
  dsimp only
  rw [hx, if_neg h]

theorem due_ne {prog : Program} {w : World} {A : Around} {E : Value → Shared → Prop} {s : Shared} {Q : Value → Shared → Prop} {r : Option (Array UInt8)} {u v : Value} (hu : DueV r u) (hv : DueV r v) (h : Q (.bool false) s) : wpAny (model prog w) A (compareOp .NotEq u v) Q E s := by
  rcases hu with ⟨rfl, rfl⟩ | ⟨d, t, rfl, rfl⟩
  · rcases hv with ⟨_, rfl⟩ | ⟨d', t', e, _⟩
    · exact EqNone.ne_none_none h
    · cases e
  · rcases hv with ⟨e, _⟩ | ⟨d', t', e, rfl⟩
    · cases e
    · cases e
      refine ne_bytes ?_
      rwa [bne_self_eq_false]
theorem eq_bytes_same {prog : Program} {w : World} {A : Around} {E : Value → Shared → Prop} {s : Shared} {Q : Value → Shared → Prop} {b c : Array UInt8} {t u : Tok} (e : b = c) (h : Q (.bool true) s) : wpAny (model prog w) A (compareOp .Eq (.bytes b t) (.bytes c u)) Q E s := by
  subst e
  refine eq_bytes ?_
  rwa [beq_self_eq_true]
theorem take5 {P : List (Addr × Obj) → Prop} {news : List (Addr × Obj)} {x y z u v : Addr × Obj} (m1 : x ∈ news) (m2 : y ∈ news) (m3 : z ∈ news) (m4 : u ∈ news) (m5 : v ∈ news) (h : P [x, y, z, u, v]) : ∃ ex, (∀ q ∈ ex, q ∈ news) ∧ P ex :=
  ⟨_, fun q hq => by
    simp only [List.mem_cons, List.not_mem_nil, or_false] at hq
    rcases hq with rfl | rfl | rfl | rfl | rfl <;> assumption, h⟩

theorem slice_bytes {prog : Program} {w : World} {A : Around} {E : Value → Shared → Prop} {s : Shared} {h₀ : Heap} {L l : Addr} {m : Str → Option Value} {news : List (Addr × Obj)} {value slice : PySem.Expr} {vs : List Value} {bs : List (Array UInt8)} {x y : Int} {tx ty : Tok} {n : Nat} {Q : Value → Shared → Prop}
    (F : Fr h₀ L s.heap m) (N : News h₀ L s.heap news) (hm : (l, W.listOf vs.toArray n) ∈ news) (hb : BytesAre vs bs) (hx : 0 ≤ x) (hy : 0 ≤ y) (hl : bs.length ≤ 1000)
    (h : ∀ D us h', Fr h₀ L h' m → News h₀ L h' ((D, W.listOf (List.toArray us) 0) :: news) → (∀ p ∈ news, p.1 < D) → BytesAre us ((bs.drop x.toNat).take (min y.toNat bs.length - x.toNat)) → Q (.ref D) { s with heap := h' })
    (hs : subscripted slice false (.ref l) (.ref s.heap.objs.size) = operate [.ref s.heap.objs.size, .ref l] (getItem (.ref l) (.ref s.heap.objs.size))) (ht : ∀ r, letTemporaryGo value (.ref l) r = pure ()) :
    wpAny (model prog w) A (subscriptTail value slice (.ref l) (.ref s.heap.objs.size)) Q E { s with heap := s.heap.push { cls := .type "slice", data := .fields #[.int x tx, .int y ty, .none] } } := by
  have hvl := hb.length
  have e : sliceBounds (some x) (some y) none vs.toArray.size = (((min x.toNat vs.toArray.size : Nat) : Int), ((min y.toNat vs.toArray.size : Nat) : Int), 1) := by
    simp only [sliceBounds, Option.getD_none, show (1 : Int) > 0 by decide, if_true, if_neg (show ¬ (x < 0) by omega), if_neg (show ¬ (y < 0) by omega)]
    rw [clamp_nat hx, clamp_nat hy]
  have e2 : slicePick vs.toArray (some x) (some y) none = ((vs.drop x.toNat).take (min y.toNat bs.length - x.toNat)).toArray := by
    rw [kmk_pick_nat _ e]
    show ((vs.drop (min x.toNat vs.toArray.size)).take (min y.toNat vs.toArray.size - min x.toNat vs.toArray.size)).toArray = _
    rw [List.size_toArray, kmk_drop_min, hvl, min_min]
  refine kmk_slice F N ⟨_, (N _ hm).1, rfl, n, rfl⟩ (IsPart.int x tx) (IsPart.int y ty) (fun D h' F' N' l1 => h D _ h' F' (e2 ▸ N') l1 ((hb.drop _).take _)) hs ht ?_
  rw [List.size_toArray, sizeLine_eq]
  omega
theorem fitJ {sep : Array UInt8} {bs : List (Array UInt8)} {a b : Nat} (hs : sep.size ≤ 3) (hbs : ∀ b ∈ bs, b.size ≤ 100) (hl : bs.length ≤ 5) : (Bytes.joined sep ((bs.drop a).take b)).size ≤ 1000000 := join_room (Nat.le_trans hs (by decide)) (td_len (Nat.le_trans hl (by decide))) (td_mem hbs)
theorem fitF {sep : Array UInt8} {bs : List (Array UInt8)} {a b : Nat} (hs : sep.size ≤ 3) (hbs : ∀ b ∈ bs, b.size ≤ 100) (hl : bs.length ≤ 5) : ((bs.drop a).take b).toArray.foldl (fun a b => a + b.size) (sep.size * (((bs.drop a).take b).length - 1)) ≤ 1000000 := fold_room (Nat.le_trans hs (by decide)) (td_len (Nat.le_trans hl (by decide))) (td_mem hbs)

theorem fit0 : (#[] : Array UInt8).size ≤ 3 := by decide
theorem fit1 {d x : Array UInt8} (h : ∀ d', some d = some d' → d'.size ≤ 30) (hx : x.size ≤ 3) : d.size + x.size ≤ 16777216 := by
  have := h d rfl
  omega
theorem fit2 {d x b : Array UInt8} (h : ∀ d', some d = some d' → d'.size ≤ 30) (hx : x.size ≤ 3) (hb : b.size ≤ 100) : (d ++ x).size + b.size ≤ 16777216 := by
  have := h d rfl
  rw [Array.size_append]
  omega
theorem fit3 {d x b : Array UInt8} (h : ∀ d', some d = some d' → d'.size ≤ 30) (hx : x.size ≤ 3) (hb : b.size ≤ 100) : ((d ++ x) ++ b).size ≤ 1099511627776 := by
  have := h d rfl
  rw [Array.size_append, Array.size_append]
  omega

theorem rows_j4 : True := by
  k_with_none
  k_with "mine and" => (first | (with_reducible exact And.left) | ((with_reducible refine andR ?_); first | (with_reducible exact id) | k_extra "mine and"))
  k_with "mine lt1" => (first | (with_reducible assumption) | ((with_reducible refine' viaC ?zvh ?zvk); (case zvh => with_reducible assumption); (case zvk => k_extra "mine and")))
  k_with "mine lt2" => (first | k_extra "mine lt1" | ((with_reducible refine' ltLit ?zlh ?zlk); (case zlh => with_reducible assumption); (case zlk => exact rfl)))
  k_with "mine lt3" => (first | k_extra "mine lt2" | ((with_reducible refine' ltT ?zth ?ztk); (case zth => with_reducible assumption); (case ztk => first | k_extra "mine lt2" | ((with_reducible refine' ltT ?zuh ?zuk); (case zuh => with_reducible assumption); (case zuk => k_extra "mine lt2")))) | ((with_reducible refine lt_dn ?_); first | k_extra "mine lt1" | ((with_reducible refine lt_dn ?_); first | k_extra "mine lt1" | ((with_reducible refine lt_dn ?_); first | k_extra "mine lt1" | ((with_reducible refine lt_dn ?_); first | k_extra "mine lt1" | ((with_reducible refine lt_dn ?_); k_extra "mine lt1"))))))
  k_with "mine lt" => (first | (with_reducible exact lt_one) | ((with_reducible show _ < _ + _); (with_reducible refine lt_up ?_); k_extra "mine lt") | ((fail_if_success (with_reducible show _ < _ + _)); k_extra "mine lt3"))
  k_with "mine ne0" => (first | (with_reducible assumption) | (with_reducible exact Ne.symm (by with_reducible assumption)) | (exact neLits rfl) | ((with_reducible refine Nat.ne_of_gt ?_); k_extra "mine lt") | ((with_reducible refine Nat.ne_of_lt ?_); k_extra "mine lt"))
  k_with "mine ne" => ((try dsimp only); (first | k_extra "mine ne0" | k_extra "mine omegaF"))
  k_with "mine rm" => (first | (with_reducible exact room0 (by with_reducible assumption)) | ((with_reducible refine' roomLe ?zrh ?zrk); (case zrh => with_reducible assumption); (case zrk => exact rfl)) | ((with_reducible refine roomS ?_); k_extra "mine rm"))
  k_with "mine le" => (first | (exact leLits rfl) | ((with_reducible refine' leLit ?zmh ?zmk); (case zmh => with_reducible assumption); (case zmk => exact rfl)) | ((with_reducible refine Nat.le_of_lt ?_); k_extra "mine lt"))
  k_with "mine lg" => (first | (exact ltLits rfl) | k_extra "mine rm" | ((with_reducible refine' ltOf ?znh ?znk); (case znh => with_reducible assumption); (case znk => exact rfl)) | k_extra "mine lt")
  k_with "mine ill" => (first | (with_reducible assumption) | decide | ((with_reducible refine' intLtLt ?zi1h ?zi1k); (case zi1h => with_reducible assumption); (case zi1k => decide)) | ((with_reducible refine' intLeLt ?zi2h ?zi2k); (case zi2h => with_reducible assumption); (case zi2k => decide)) | ((with_reducible refine' intRoom ?zi3h ?zi3k); (case zi3h => with_reducible assumption); (case zi3k => decide)) | ((with_reducible refine' intAddLt ?zi4h ?zi4k); (case zi4h => with_reducible assumption); (case zi4k => decide)) | ((with_reducible refine intS ?_); k_extra "mine ill"))
  k_with "mine ile" => (first | (with_reducible assumption) | decide | ((with_reducible refine intNn ?_); k_extra "mine ile") | ((with_reducible refine' intLtLe ?zi5h ?zi5k); (case zi5h => with_reducible assumption); (case zi5k => decide)) | ((with_reducible refine' intLeLe ?zi6h ?zi6k); (case zi6h => with_reducible assumption); (case zi6k => decide)) | ((with_reducible refine' intGeGe ?zi7h ?zi7k); (case zi7h => with_reducible assumption); (case zi7k => decide)) | ((with_reducible refine' intAddLe ?zi8h ?zi8k); (case zi8h => with_reducible assumption); (case zi8k => decide)) | ((with_reducible refine' intAddGe ?zi9h ?zi9k); (case zi9h => with_reducible assumption); (case zi9k => decide)) | ((with_reducible refine' intSubGe ?zi10h ?zi10k); (case zi10h => with_reducible assumption); (case zi10k => decide)) | ((with_reducible refine' intSubLe ?zi11h ?zi11k); (case zi11h => with_reducible assumption); (case zi11k => decide)))
  k_with "mine omegaF" => (first | ((repeat ((with_reducible rename _ ∧ _ => kz); clear kz)); (repeat ((with_reducible rename _ ≠ _ => kz); clear kz)); omega (config := {})) | omega (config := {}))
  k_with "mine omega" => (first | (with_reducible assumption) | ((with_reducible show @Ne Nat _ _); k_extra "mine ne0") | ((with_reducible show @LT.lt Nat _ _ _); k_extra "mine lg") | ((with_reducible show @LE.le Nat _ _ _); k_extra "mine le") | ((with_reducible show @LT.lt Int _ _ _); k_extra "mine ill") | ((with_reducible show @LE.le Int _ _ _); k_extra "mine ile") | ((with_reducible refine' ⟨?zoa, ?zob⟩); (case zoa => k_extra "mine ile"); (case zob => k_extra "mine ile")) | k_extra "mine omegaF")
  k_with "mine all" => first | ((with_reducible refine' List.forall_mem_cons.mpr ⟨?z62_a, ?z62_b⟩); (case z62_a => k_ne); (case z62_b => k_all)) | (with_reducible exact List.forall_mem_nil _) | (with_reducible assumption) | exact allNe (by with_reducible assumption) (by omega) | exact gapNe (by with_reducible assumption) (by omega) (by omega)
  k_with "mine mem" => first | (with_reducible exact List.Mem.head _) | ((with_reducible refine' List.Mem.tail _ ?_); k_mem) | (with_reducible assumption) | assumption
  k_with "eval Name" => (k_here; k_dflt (first | ((refine' nameX_L ?z64_F ?z64_v ?_ ?z64_a ?z64_b); (case z64_F => k_asm); (case z64_a => rfl); (case z64_b => rfl); (case z64_v => rfl); k_whole) | ((refine' nameX_C ?z64_N ?z64_c ?z64_m ?z64_d ?_ ?z64_a ?z64_b); (case z64_N => k_asm); (case z64_a => rfl); (case z64_b => rfl); (case z64_c => rfl); (case z64_m => k_mem); (case z64_d => k_asm); k_whole) | ((refine' nameX_F ?z64_N ?z64_c ?z64_m ?z64_d ?_ ?z64_a ?z64_b); (case z64_N => k_asm); (case z64_a => rfl); (case z64_b => rfl); (case z64_c => rfl); (case z64_m => k_mem); (case z64_d => k_asm); k_whole) | ((refine' nameX_K ?z64_F ?z64_X ?z64_T ?z64_e ?_ ?z64_a ?z64_b); (case z64_F => k_asm); (case z64_a => rfl); (case z64_b => rfl); (case z64_X => k_asm); (case z64_T => k_asm);  (case z64_e => k_is); k_whole)))
  k_with "mine room" => ktr_room
  k_with "callWith ref" => (k_here; k_dflt (refine' callWith_K ?z66_k1 ?z66_k2 ?_; (case z66_k1 => k_in); (case z66_k2 => k_is); k_whole))
  k_with "subscriptTail Name Call ref int" => (k_here; k_dflt (refine' item_bytes3 ?z67_itN ?z67_itl ?z67_it0 ?z67_it1 ?z67_ita ?z67_itb ?z67_itc ?_; (case z67_itN => k_asm); (case z67_itl => k_mem); (case z67_it0 => omega); (case z67_it1 => omega); (case z67_ita => decide); (case z67_itb => decide); (case z67_itc => decide)); intro _ _ _)
  k_with "call builtin:len cons nil" => (k_here; k_dflt (refine' len_any ?z68_leN ?z68_leM ?z68_leh ?_; (case z68_leN => k_asm); (case z68_leM => k_mem); (case z68_leh => (simp only [Array.size_push, List.size_toArray, List.length_append, List.length_cons, List.length_nil]; omega))))
  k_with "call ref" => (k_here; first | ((with_reducible show wpAny _ _ (call (Value.ref 65) [Value.ref _, Value.int _ _]) _ _ _); k_dflt (refine' struck_call ?z69_scB ?z69_scF ?z69_scX ?z69_scN ?z69_scT ?z69_sck ?z69_scU ?z69_scD ?z69_scI ?z69_scl ?z69_sc0 ?z69_sc1 ?z69_sc2 ?z69_sc3 ?z69_scd ?z69_scu ?_; (case z69_scB => k_asm); (case z69_scF => k_asm); (case z69_scX => k_asm); (case z69_scN => k_asm); (case z69_scT => k_asm); (case z69_sck => rfl); (case z69_scU => k_updF); (case z69_scD => k_mem); (case z69_scI => assumption); (case z69_scl => assumption); (case z69_sc0 => omega); (case z69_sc1 => omega); (case z69_sc2 => omega); (case z69_sc3 => omega); (case z69_scd => ktr_room); (case z69_scu => ktr_units)); intro _ _ _ _ _ _ _ _; intro N'; (try dsimp only at N'); revert N'; intro _) | ((with_reducible show wpAny _ _ (call (Value.ref 72) _) _ _ _); k_dflt (refine' counter_again ?z69_ccB ?z69_ccF ?z69_ccX ?z69_ccN ?z69_ccT ?z69_cck ?z69_ccC ?z69_ccU ?z69_ccM ?z69_ccD ?z69_ccV ?z69_ccd ?z69_ccu ?_; (case z69_ccB => k_asm); (case z69_ccF => k_asm); (case z69_ccX => k_asm); (case z69_ccN => k_asm); (case z69_ccT => k_asm); (case z69_cck => rfl); (case z69_ccC => assumption); (case z69_ccU => k_updF); (case z69_ccM => k_mem); (case z69_ccD => assumption); (case z69_ccV => assumption); (case z69_ccd => ktr_room); (case z69_ccu => ktr_units)); intro _ _ _ _ _; intro N'; (try dsimp only at N'); revert N'; intro _; intro _ _ _; refine halt ?_) | ((with_reducible show wpAny _ _ (call (Value.ref 38) _) _ _ _); k_dflt (refine halt ?_)))
  k_with "exec For Name Call cons nil" => (k_dflt (refine halt ?_))
  k_with "call builtin:len" => (k_here; (with_reducible show wpAny _ _ (call (Value.builtin _) [Value.bytes _ _]) _ _ _); k_dflt (refine' len_bytes ?z71_lbz ?_; (case z71_lbz => with_reducible exact fit3 (by with_reducible assumption) (by with_reducible first | assumption | exact fit0) (getD_mem (by with_reducible assumption)))))
  k_with "binaryOp Add bytes bytes" => (k_here; k_dflt (refine' KBy.add_bytes ?z72_abz ?_; (case z72_abz => first | (with_reducible exact fit2 (by with_reducible assumption) (by with_reducible first | assumption | exact fit0) (getD_mem (by with_reducible assumption))) | (with_reducible exact fit1 (by with_reducible assumption) (by with_reducible first | assumption | exact fit0)))); intro _ _)
  k_with "subscriptTail Name BinOp ref int" => (k_here; k_dflt (refine' item_bytes ?z73_itN ?z73_itl ?z73_itb ?z73_it0 ?z73_it1 ?z73_it2 ?_; (case z73_itN => k_asm); (case z73_itl => k_mem); (case z73_itb => assumption); (case z73_it0 => omega); (case z73_it1 => omega); (case z73_it2 => omega)); intro _)
  k_with "InvPostN" => (k_dflt (refine halt ?_))
  k_with "compareOp NotEq" => (k_here; (with_reducible refine due_ne (by with_reducible assumption) (by with_reducible assumption) ?_))
  k_with "compareOp NotEq ref ref" => (k_here; k_dflt (refine' ne_intsK ?z76_neA ?z76_neI ?z76_neB ?z76_neJ ?z76_neu ?_; (case z76_neA => exact News.isList (by k_asm) (by k_mem)); (case z76_neI => assumption); (case z76_neB => exact News.isList (by k_asm) (by k_mem)); (case z76_neJ => assumption); (case z76_neu => ktr_units)))
  k_with "subscriptTail Name Slice ref ref" => (k_here; k_dflt (refine' slice_bytes ?z77_slF ?z77_slN ?z77_slm ?z77_slb ?z77_slx ?z77_sly ?z77_sll ?_ ?z77_sls ?z77_slt; (case z77_slF => k_asm); (case z77_slN => k_asm); (case z77_slm => k_mem); (case z77_slb => assumption); (case z77_slx => omega); (case z77_sly => (split <;> omega)); (case z77_sll => omega); (case z77_sls => with_unfolding_all rfl); (case z77_slt => kmk_pure)); intro _ _ _ _ _ _ _)
  k_with "getMethod bytes" => (k_here; k_dflt (refine join_method ?_))
  k_with "call builtin:bytes.join" => (k_here; k_dflt (refine' join_call ?z79_jcN ?z79_jcl ?z79_jcb ?z79_jcz ?z79_jcf ?_; (case z79_jcN => k_asm); (case z79_jcl => k_mem); (case z79_jcb => assumption); (case z79_jcz => exact fitJ (by assumption) (by assumption) (by assumption)); (case z79_jcf => exact fitF (by assumption) (by assumption) (by assumption))); intro _ _)
  k_with "compareOp Eq bytes bytes" => (k_here; k_dflt (refine halt ?_))
  k_with "pyIter ref" => (k_dflt (refine halt ?_))
  k_with "my enterC" => (refine' code_defC ?z82_k1 ?z82_k2 ?z82_k3 ?z82_k4 ?z82_k5 ?z82_kA ?z82_kF ?z82_kK ?z82_k6 ?z82_k7 ?z82_k8 ?z82_k9 ?z82_kB ?z82_kD ?_ ?z82_c2 ?z82_c3 ?z82_c4; (case z82_kA => exact rfl); (case z82_kF => exact rfl); (case z82_kK => assumption); (case z82_k1 => k_asm); (case z82_k2 => k_asm); (case z82_k3 => k_asm); (case z82_k4 => k_asm); (case z82_k5 => k_asm); (case z82_k6 => k_is); (case z82_k7 => k_is); (case z82_k8 => ktr_room); (case z82_k9 => exact BindsTo.of_eq rfl); (case z82_kB => exact rfl); (case z82_kD => decide +kernel); (case z82_c2 => exact rfl); (case z82_c3 => exact rfl); (case z82_c4 => exact rfl); k_whole; walk_at "my tail2")
  exact True.intro

set_option maxHeartbeats 16000000 in
theorem joined_right_spec {w : World} {p : Program} {loose : List Str} {mean : ExcName → Option Value} {mg mb : Str → Option Value}
    {dp un : Nat} {gd : Option (List Code)} {cn : Str} {cs : Scope} {a : Addr} {ccd : Value} {cl : List (Str × Addr)} {outer : List Env} {A₀ : Around} {base h₀ : Heap} {L : Addr} {m : Str → Option Value}
    {s : Shared} {Q E : Value → Shared → Prop} {an D tl c0 : Addr} {oc0 : Obj} {vs0 : Array Value} {t0 : Tok} {ws texts : List Value} {bs : List (Array UInt8)} {ns : List Int} {t : Int} {tkt : Tok} {n nD nT : Nat} {rest : List (Addr × Obj)}
    (B : Below A₀ base outer h₀) (F : Fr h₀ L s.heap m) (X : (hd.heap_39 w.params).In h₀)
    (N : News h₀ L s.heap ((an, W.listOf #[.ref D, .int t tkt] n) :: (tl, W.listOf texts.toArray nT) :: (D, W.listOf ws.toArray nD) :: (102, tabObj #[]) :: (67, tabObj #[rawInt 47, rawInt 4, .ref c0]) :: (c0, oc0) :: rest)) (T : Top p loose mean mg mb h₀) (hck : cs.kind = .function)
    (hd0 : oc0.data = .fields vs0) (hv0 : vs0[1]? = some (.str (Str.ofString "_law_counter.<locals>.count") t0))
    (hI : IntsAre ws ns) (hlen : ns.length ≤ 63) (ht0 : 0 ≤ t) (ht : t < 900) (hbA : BytesAre texts bs) (hb5 : bs.length ≤ 5) (hbs : ∀ b ∈ bs, b.size ≤ 100)
    (o0 : @LT.lt Nat _ 107 D) (o1 : @LT.lt Nat _ D an) (o2 : @Ne Nat tl an) (o2a : @Ne Nat tl D) (o2b : @Ne Nat tl 67) (o2c : @Ne Nat tl 102) (o3 : @LT.lt Nat _ tl c0) (o3a : @LT.lt Nat _ an c0) (hra : ∀ q ∈ rest, q.1 ≠ an) (hr8 : ∀ q ∈ rest, q.1 ≠ 102) (hr6 : ∀ q ∈ rest, q.1 ≠ 67)
    (hC : CodeHd base 71 67) (hP : CodeHd base 106 102)
    (hdp : dp + 100 < recursionLimit) (hu : un + 1000 < cLine)
    (hend : ∀ ps h' tk, Fr h₀ L h' m → News h₀ L h' ((67, tabObj #[rawInt 47, rawInt 4, .ref c0]) :: (102, tabObj ps) :: rest) → Q (.bool true) { s with heap := h', toks := tk }) :
    wpAny (model PySem.Challenge.rw_pq0674_01.row.prog w) (ktrTop dp un gd cn cs L a ccd cl outer) (call (.ref 107) [.ref an, .ref tl]) Q E s := by
  revert X; k_fill; intro X
  have htl : texts.length = bs.length := hbA.length
  refine wpAny_call ?_
  k_dflt (walk_at "my enterC")
  rename _ ∧ _ => lE
  rename_i g1 L1 hA tkA FG1 FA B1 X1 T1 oCa oCt dCa dCt NA
  refine byG fun G hG => ?_
  obtain ⟨lE1, lE2, lE3, lE4, lE5, lE6, hAR⟩ := lE
  refine hG ?_
  clear hG G
  k_steps
  unfold Halt
  rename_i ls h23 lls k3 t13 t23 h22 tk4 k30 k31 sep tsep hsep kf t12 tF h21 tk3 kf0 kf1 DT2 h20 lDT2 h19 h18 h17 tkA2 kl t11 t21 h16 tk2b kl0 kl1 most t1m tM h15 tk1b km0 km1 sn h14 lsn aq h13 laq DT1 h12 lDT1 h11 h10 h9 h8 h7 oA dA tkA1 tf tc oc vst tt ctt dct h6 tk6 td1 td2 ltc ltf h5 DT0 h4 lDT0 h3 h2 h1 F9 N9
  refine For_invVF F9 (by exact rfl) (by exact rfl) ?_
  k_steps
  unfold Halt
  rename_i F9 N9 e0 h0 tk0 tR uR vR rgX F8 N8 keep8
  clear F9 N9
  refine byG fun G hG => ?_
  obtain ⟨NN, hNN⟩ : ∃ N : Nat, N = (((texts.length : Int) - kl) - (1 + kf) + 1).toNat := ⟨_, rfl⟩
  obtain ⟨NW, hNW, N8w⟩ := sealN N8
  refine hG ?_
  clear N8 hG G
  refine range_two (n := NN) (Str.ofString "due") (Str.ofString "many") (fun (c : Option (Array UInt8) × Nat) v u => DueV c.1 v ∧ (∀ d, c.1 = some d → d.size ≤ 30) ∧ ∃ t, u = .int (c.2 : Nat) t) (stepJ sep most bs (1 + kf)) (some #[], 0) (by rfl) rgX (small_one (by omega) (by omega) (by omega) (by omega)) ?rsz F8 N8w rfl rfl ⟨.inr ⟨_, _, rfl, rfl⟩, fun d e => by cases e; decide, _, rfl⟩ ?turn ?done
  case rsz => rw [rangeSize_nat, hNN]; congr 2; omega
  case turn =>
    rintro k tk ⟨r, mm⟩ v u hh tkk own hk hJJ Fz Nz
    refine byG fun G hG => ?_
    obtain ⟨hDv, hdz, tu, rfl⟩ := hJJ
    refine hG ?_
    clear hG G
    have hkb := mem_rangeKs hk
    have hm1 : (L1 + 1, oCt) ∈ NW ++ own := List.mem_append_left _ (by rw [hNW]; k_mem)
    have hm2 : (tl, W.listOf texts.toArray nT) ∈ NW ++ own := List.mem_append_left _ (by rw [hNW]; k_mem)
    clear hNW F8 N8w
    rcases hDv with ⟨hr, rfl⟩ | ⟨d, td, hr, rfl⟩
    · dsimp only at hr
      subst hr
      k_steps
      unfold Halt
      rename Fr _ _ _ _ => Fz
      rename News _ _ _ _ => Nz
      refine inv_end Fz Nz rfl ⟨rfl, _, _, ⟨.inl ⟨rfl, rfl⟩, fun d e => (by cases e), tu, rfl⟩, rfl, rfl, fun q h1 h2 h3 => by simp only [h1, h2, h3, if_false]⟩
    · dsimp only at hr
      subst hr
      dsimp only at hdz
      k_steps
      · unfold Halt
        rename_i hgt _ _ _ _ _ _ hsz _ F4 N4
        have hst := stepJ_go (m := mm) (if_pos (show k > 1 + kf from hgt) : (if k > 1 + kf then sep else #[]) = sep) hsz
        refine inv_end F4 N4 rfl ⟨rfl, _, _, ⟨.inr ⟨_, _, congrArg Prod.fst hst, rfl⟩, fun d' e => ?_, _, congrArg (Value.int · _) (congrArg (fun p => ((p.2 : Nat) : Int)) hst).symm⟩, rfl, rfl, fun q h1 h2 h3 => by simp only [h1, h2, h3, if_false]⟩
        rw [hst] at e
        cases e
        omega
      · unfold Halt
        rename_i hgt _ _ _ _ _ _ hsz _ F4 N4
        have hst := stepJ_stop (m := mm) (if_pos (show k > 1 + kf from hgt) : (if k > 1 + kf then sep else #[]) = sep) hsz
        refine inv_end F4 N4 rfl ⟨rfl, _, _, ⟨.inl ⟨congrArg Prod.fst hst, rfl⟩, fun d' e => ?_, _, congrArg (Value.int · _) (congrArg (fun p => ((p.2 : Nat) : Int)) hst).symm⟩, rfl, rfl, fun q h1 h2 h3 => by simp only [h1, h2, h3, if_false]⟩
        rw [hst] at e
        cases e
      · unfold Halt
        rename_i hgt _ _ _ _ _ _ hsz _ F4 N4
        have hst := stepJ_go (m := mm) (if_neg (show ¬ k > 1 + kf from hgt) : (if k > 1 + kf then sep else #[]) = #[]) hsz
        refine inv_end F4 N4 rfl ⟨rfl, _, _, ⟨.inr ⟨_, _, congrArg Prod.fst hst, rfl⟩, fun d' e => ?_, _, congrArg (Value.int · _) (congrArg (fun p => ((p.2 : Nat) : Int)) hst).symm⟩, rfl, rfl, fun q h1 h2 h3 => by simp only [h1, h2, h3, if_false]⟩
        rw [hst] at e
        cases e
        omega
      · unfold Halt
        rename_i hgt _ _ _ _ _ _ hsz _ F4 N4
        have hst := stepJ_stop (m := mm) (if_neg (show ¬ k > 1 + kf from hgt) : (if k > 1 + kf then sep else #[]) = #[]) hsz
        refine inv_end F4 N4 rfl ⟨rfl, _, _, ⟨.inl ⟨congrArg Prod.fst hst, rfl⟩, fun d' e => ?_, _, congrArg (Value.int · _) (congrArg (fun p => ((p.2 : Nat) : Int)) hst).symm⟩, rfl, rfl, fun q h1 h2 h3 => by simp only [h1, h2, h3, if_false]⟩
        rw [hst] at e
        cases e
  case done =>
    intro fz v u hh tkk hJJ Fz Nz
    refine byG fun G hG => ?_
    obtain ⟨hDv, hdz, tu, rfl⟩ := hJJ
    rw [fold_run sep most bs (1 + kf) (by omega)] at hDv hdz Fz
    obtain ⟨r, mm, hrun⟩ : ∃ r m, runJ sep most bs (1 + kf - 1).toNat NN = (r, m) := ⟨_, _, rfl⟩
    rw [hrun] at hDv hdz Fz
    clear F8 N8w
    subst hNW
    refine hG ?_
    clear hG G
    dsimp only at hDv hdz
    k_steps
    rename_i f1 ex1 h10 tk10 F10 N10 le1 Tk1 fo1
    unfold Halt
    have hgt : ∀ q ∈ ex1, @LT.lt Nat _ DT0 q.1 := fun q hq => le1 q hq _ (.head _)
    clear le1
    refine byG fun G hG => ?_
    obtain ⟨of1, mf1, hf1⟩ := fo1
    have N11 := news_turn N10
    simp only [List.cons_append] at N11
    obtain ⟨rest1, hr1⟩ : ∃ r, r = rest ++ ex1 := ⟨_, rfl⟩
    rw [← hr1] at N11
    refine hG ?_
    clear N10 hG G
    have hgap : Gap L1 DT0 rest1 := by rw [hr1]; exact gap_of hAR hgt
    have hra1 : ∀ q ∈ rest1, q.1 ≠ an := by rw [hr1]; exact neApp hra hgt (by omega)
    have hr81 : ∀ q ∈ rest1, q.1 ≠ 102 := by rw [hr1]; exact neApp hr8 hgt (by omega)
    have hr61 : ∀ q ∈ rest1, q.1 ≠ 67 := by rw [hr1]; exact neApp hr6 hgt (by omega)
    have hrx : ∀ q ∈ rest, q ∈ rest1 := by rw [hr1]; exact fun q hq => List.mem_append_left _ hq
    have hx1 : ∀ q ∈ ex1, q ∈ rest1 := by rw [hr1]; exact fun q hq => List.mem_append_right _ hq
    clear hr1
    k_steps
    unfold Halt
    refine byG fun G hG => ?_
    obtain ⟨OT, N12, hOb, hOs, hin⟩ := take2 (bk := aq) (ob := W.listOf #[] 0) (sn := sn) (os := W.listOf #[] 0) N11 (by k_mem) (by k_mem)
    obtain ⟨i1, hin⟩ := List.forall_mem_cons.mp hin
    obtain ⟨i2, hin⟩ := List.forall_mem_cons.mp hin
    obtain ⟨i3, hin⟩ := List.forall_mem_cons.mp hin
    obtain ⟨i4, hin⟩ := List.forall_mem_cons.mp hin
    obtain ⟨i5, hin⟩ := List.forall_mem_cons.mp hin
    obtain ⟨i6, hin⟩ := List.forall_mem_cons.mp hin
    obtain ⟨i7, hin⟩ := List.forall_mem_cons.mp hin
    obtain ⟨i8, hin⟩ := List.forall_mem_cons.mp hin
    obtain ⟨i9, hin⟩ := List.forall_mem_cons.mp hin
    obtain ⟨i10, hin⟩ := List.forall_mem_cons.mp hin
    obtain ⟨i11, hin⟩ := List.forall_mem_cons.mp hin
    obtain ⟨i12, hin⟩ := List.forall_mem_cons.mp hin
    obtain ⟨i13, hin⟩ := List.forall_mem_cons.mp hin
    obtain ⟨i14, hin⟩ := List.forall_mem_cons.mp hin
    obtain ⟨i15, hin⟩ := List.forall_mem_cons.mp hin
    obtain ⟨i16, hin⟩ := List.forall_mem_cons.mp hin
    clear i1 i4 i5 i6 i7 i8 i11 i13
    replace i2 := i2 (by k_ne) (by k_ne)
    replace i3 := i3 (by k_ne) (by k_ne)
    replace i9 := i9 (by k_ne) (by k_ne)
    replace i10 := i10 (by k_ne) (by k_ne)
    replace i12 := i12 (by k_ne) (by k_ne)
    replace i14 := i14 (by k_ne) (by k_ne)
    obtain ⟨ps2, i14⟩ : ∃ ps, ((102 : Nat), tabObj ps) ∈ OT := ⟨_, i14⟩
    replace i15 := i15 (by k_ne) (by k_ne)
    replace i16 := i16 (by k_ne) (by k_ne)
    have hxO : ∀ q ∈ ex1, q ∈ OT := fun q hq => hin q (hx1 q hq) (Nat.ne_of_gt (Nat.lt_trans (by omega) (hgt q hq))) (Nat.ne_of_gt (Nat.lt_trans (by omega) (hgt q hq)))
    have hxK : ∀ q ∈ (c0, oc0) :: ex1, q ∈ OT := List.forall_mem_cons.mpr ⟨i16, hxO⟩
    have hrO : ∀ q ∈ rest, q ∈ OT := fun q hq => hin q (hrx q hq) (allNe hAR (by omega) q hq) (allNe hAR (by omega) q hq)
    clear hin hx1 hrx
    have dCt' : oCt.data = .cell (some (.ref tl)) := dCt
    clear dCt dCa
    obtain ⟨exT, hxT, hTx⟩ : ∃ ex, (∀ q ∈ ex, q ∈ OT) ∧ TextOk w p loose mean mg mb tf aq bs ex := take5 (P := TextOk w p loose mean mg mb tf aq bs) i2 i3 i9 i10 i12 (text_ok td1 td2 dA dCt' hbA (by omega))
    refine hG ?_
    clear hG G
    rename Fr _ _ _ _ => F11
    k_dflt (refine joined_most (N := NN) (left := 99) hTx Tk1 hxT hxK i2 (.inl ⟨_, _, _, _, rfl⟩) (hxO _ mf1) (.inl hf1) hOb hOs (by omega) (by omega) hbs (by omega) (by omega) (by (try simp only [List.size_toArray]); omega) (by (try simp only [List.size_toArray]); omega) (by omega) (by omega) (by (try simp only [List.size_toArray]); omega) (by omega) (by omega) _ _ _ _ _ _ _ _ _ _ base g1 L1 _ _ _ _ B1 F11 X1 N12 T1 rfl (by ktr_room) (by ktr_units) ?_ ?_)
    · intro v2 nw h12 tk12 hJJ F12 N13
      refine byG fun G hG => ?_
      obtain ⟨r2, m2, ks, us, cA, cS, hrun2, hv2, hmN, hks, hus, rfl⟩ := hJJ
      obtain ⟨e1, e2⟩ := Prod.mk.inj (hrun.symm.trans hrun2)
      subst e1 e2
      refine hG ?_
      clear hG G
      change DueV r v2 at hv2
      clear F11 N12 N11
      k_steps
      · exfalso
        rename _ ≠ _ => hx
        simp only [List.size_toArray] at hx
        exact hx (by rw [hus])
      · unfold Halt
        rename _ ∧ _ ∧ AllLt _ OT => lD
        rename News _ _ _ _ => N14
        rename Fr _ _ _ _ => F14
        refine byG fun G hG => ?_
        obtain ⟨lDa, lDs, lDr⟩ := lD
        refine hG ?_
        clear hG G
        have hkl := hks.length
        rw [ups_length] at hkl
        k_dflt (refine joined_free (N := NN) (ws := ks) hTx (fun q hq => .tail _ (.tail _ (hxT q hq))) (.tail _ (.tail _ i2)) (.inl ⟨_, _, _, _, rfl⟩) (List.forall_mem_cons.mpr ⟨Nat.ne_of_gt lDa, List.forall_mem_cons.mpr ⟨Nat.ne_of_lt (by omega), hOb⟩⟩) (by omega) hbs (by omega) (by omega) (by (try simp only [List.size_toArray]); omega) (by (try simp only [List.size_toArray]); omega) (by omega) (by (try simp only [List.size_toArray]); omega) (by omega) _ _ _ _ _ _ _ _ _ _ base g1 L1 _ _ _ _ B1 F14 X1 (news_perm N14) T1 rfl (by ktr_room) (by ktr_units) ?_ ?_)
        · intro v3 nw3 h13 tk13 hJJ F15 N15
          refine byG fun G hG => ?_
          obtain ⟨ks3, cA3, t3, rfl, rfl⟩ := hJJ
          refine hG ?_
          clear hG G
          clear F14 N14
          k_steps
          unfold Halt
          refine eq_bytes_same (congrArg (fun k => Bytes.joined sep (List.take k (List.drop (1 + kf - 1).toNat bs))) ?_) ?_
          · rw [hNN]
            exact pieces_eq htl kf0 kl0
          · k_steps
            rename Fr _ _ _ _ => Fq
            rename News _ _ _ _ => Nq
            exact hend ps2 _ _ Fq (news_sub Nq (List.forall_mem_cons.mpr ⟨.tail _ (.tail _ (.tail _ (.tail _ i15))), List.forall_mem_cons.mpr ⟨.tail _ (.tail _ (.tail _ (.tail _ i14))), fun q hq => .tail _ (.tail _ (.tail _ (.tail _ (hrO q hq))))⟩⟩))
        · rintro _ _ _ _ _ hf
          exact hf.elim
      · exfalso
        rename ¬ ups _ _ = _ => hx
        exact hx (by rw [show (1 + kf + (mm : Int) - (1 + kf)).toNat = mm by omega]; rfl)
    · rintro _ _ _ _ _ hf
      exact hf.elim
end

-- L1
section
open PySem PySem.W PyProof.Rows PySem.Calls
set_option maxRecDepth 100000

section
variable {prog : Program} {w : World} {A : Around} {h₀ : Heap} {L : Addr} {m : Str → Option Value} {env : Env} {elt : PySem.Expr} {x : Str} {scope : Scope} {cl : List (Str × Addr)} {s : Shared} {S : List (Addr × Obj) → Prop} {P : Nat → Value → Prop} {Fin : List Value → List (Addr × Obj) → Prop} {news : List (Addr × Obj)}
/-- a comprehension turn by turn, by what holds between the turns -/
theorem comp_inv {n : Nat} (J : Nat → List Value → List (Addr × Obj) → Prop) (h0 : J 0 [] news)
    (turn : ∀ i ys news v I oI C oC D m₂ h tk (E' : Value → Shared → Prop), i < n → J i ys news → P i v → LCg.NsObj oC m₂ → m₂ x = some v → Fr h₀ L h m → News h₀ L h ((I, oI) :: (C, oC) :: (D, LCg.lst ys) :: news) → LCg.Off3 I C D news → ((@Ne Nat I C) ∧ (@Ne Nat I D) ∧ (@Ne Nat C D)) →
      wpAny (model prog w) A (eval elt (compEnvC scope cl C env)) (LCg.CompEnd h₀ L m { s with heap := h, toks := tk } I oI C oC D (LCg.lst ys) S (fun y news' => J (i + 1) (ys ++ [y]) news')) E' { s with heap := h, toks := tk })
    (fin : ∀ ys news, J n ys news → Fin ys news) : LCg.CompRest prog w A h₀ L m env elt x scope cl s S P Fin n 0 [] news := by
  have key : ∀ (j i : Nat) (ys : List Value) (news : List (Addr × Obj)), i + j = n → J i ys news → LCg.CompRest prog w A h₀ L m env elt x scope cl s S P Fin j i ys news := by
    intro j
    induction j with
    | zero =>
      intro i ys news hi hJ
      obtain rfl : i = n := by omega
      exact LCg.CompRest.zero (fin ys news hJ)
    | succ j ih =>
      intro i ys news hi hJ
      refine LCg.CompRest.succ ?_
      intro v I oI C oC D m₂ h tk E' hv hC hx F N off ne
      refine wpAny_mono (turn i ys news v I oI C oC D m₂ h tk E' (by omega) hJ hv hC hx F N off ne) (fun y s₂ hq => ?_) fun _ _ e => e
      obtain ⟨h', tk', nw, e, F', N', off', hS, hJ'⟩ := hq
      exact ⟨h', tk', nw, e, F', N', off', hS, ih (i + 1) _ nw (by omega) hJ'⟩
  exact key n 0 [] news (by omega) h0
end

theorem law_turn {h₀ h : Heap} {L : Addr} {x l d c t1 t2 t3 t4 : Addr × Obj} (N : News h₀ L h [x, l, d, c, t1, t2, t3, t4]) : News h₀ L h (l :: x :: d :: t4 :: t3 :: [c, t1, t2]) :=
  news_sub N fun p hp => by
    simp only [List.mem_cons, List.not_mem_nil, or_false] at hp ⊢
    rcases hp with h | h | h | h | h | h | h | h <;> simp only [h, true_or, or_true]

theorem law_turn2 {h₀ h : Heap} {L : Addr} {l x d t3 c1 t4 c t1 t2 : Addr × Obj} (N : News h₀ L h (l :: x :: d :: t3 :: c1 :: t4 :: [c, t1, t2])) : News h₀ L h (l :: x :: d :: t2 :: t3 :: c1 :: [c, t1, t4]) :=
  news_sub N fun p hp => by
    simp only [List.mem_cons, List.not_mem_nil, or_false] at hp ⊢
    rcases hp with h | h | h | h | h | h | h | h | h <;> simp only [h, true_or, or_true]
theorem law_turn3 {h₀ h : Heap} {L : Addr} {l x d t3 c1 t2 c t1 t4 : Addr × Obj} (N : News h₀ L h (l :: x :: d :: t3 :: c1 :: t2 :: [c, t1, t4])) : News h₀ L h (l :: x :: d :: t1 :: t3 :: c1 :: [c, t2, t4]) :=
  news_sub N fun p hp => by
    simp only [List.mem_cons, List.not_mem_nil, or_false] at hp ⊢
    rcases hp with h | h | h | h | h | h | h | h | h <;> simp only [h, true_or, or_true]
theorem fr_down {h₀ h₁ h : Heap} {L : Addr} {m : Str → Option Value} (F : Fr h₁ L h m) (k : ∀ b o, h₀.get? b = some o → h₁.get? b = some o) (e : h₁.objs.size = h₀.objs.size) : Fr h₀ L h m :=
  ⟨F.ns, fun b o x => F.keep b o (k b o x), Nat.le_trans (Nat.le_of_eq e.symm) F.above⟩

theorem rows_l1 : True := by
  k_with_none
  k_with "mine and" => (first | (with_reducible exact And.left) | ((with_reducible refine andR ?_); first | (with_reducible exact id) | k_extra "mine and"))
  k_with "mine lt1" => (first | (with_reducible assumption) | ((with_reducible refine' viaC ?zvh ?zvk); (case zvh => with_reducible assumption); (case zvk => k_extra "mine and")))
  k_with "mine lt2" => (first | k_extra "mine lt1" | ((with_reducible refine' ltLit ?zlh ?zlk); (case zlh => with_reducible assumption); (case zlk => exact rfl)))
  k_with "mine lt3" => (first | k_extra "mine lt2" | ((with_reducible refine' ltT ?zth ?ztk); (case zth => with_reducible assumption); (case ztk => first | k_extra "mine lt2" | ((with_reducible refine' ltT ?zuh ?zuk); (case zuh => with_reducible assumption); (case zuk => k_extra "mine lt2")))) | ((with_reducible refine lt_dn ?_); first | k_extra "mine lt1" | ((with_reducible refine lt_dn ?_); first | k_extra "mine lt1" | ((with_reducible refine lt_dn ?_); first | k_extra "mine lt1" | ((with_reducible refine lt_dn ?_); first | k_extra "mine lt1" | ((with_reducible refine lt_dn ?_); k_extra "mine lt1"))))))
  k_with "mine lt" => (first | (with_reducible exact lt_one) | ((with_reducible show _ < _ + _); (with_reducible refine lt_up ?_); k_extra "mine lt") | ((fail_if_success (with_reducible show _ < _ + _)); k_extra "mine lt3"))
  k_with "mine ne0" => (first | (with_reducible assumption) | (with_reducible exact Ne.symm (by with_reducible assumption)) | (exact neLits rfl) | ((with_reducible refine Nat.ne_of_gt ?_); k_extra "mine lt") | ((with_reducible refine Nat.ne_of_lt ?_); k_extra "mine lt"))
  k_with "mine ne" => ((try dsimp only); (first | k_extra "mine ne0" | k_extra "mine omegaF"))
  k_with "mine rm" => (first | (with_reducible exact room0 (by with_reducible assumption)) | ((with_reducible refine' roomLe ?zrh ?zrk); (case zrh => with_reducible assumption); (case zrk => exact rfl)) | ((with_reducible refine roomS ?_); k_extra "mine rm"))
  k_with "mine le" => (first | (exact leLits rfl) | ((with_reducible refine' leLit ?zmh ?zmk); (case zmh => with_reducible assumption); (case zmk => exact rfl)) | ((with_reducible refine Nat.le_of_lt ?_); k_extra "mine lt"))
  k_with "mine lg" => (first | (exact ltLits rfl) | k_extra "mine rm" | ((with_reducible refine' ltOf ?znh ?znk); (case znh => with_reducible assumption); (case znk => exact rfl)) | k_extra "mine lt")
  k_with "mine ill" => (first | (with_reducible assumption) | decide | ((with_reducible refine' intLtLt ?zi1h ?zi1k); (case zi1h => with_reducible assumption); (case zi1k => decide)) | ((with_reducible refine' intLeLt ?zi2h ?zi2k); (case zi2h => with_reducible assumption); (case zi2k => decide)) | ((with_reducible refine' intRoom ?zi3h ?zi3k); (case zi3h => with_reducible assumption); (case zi3k => decide)) | ((with_reducible refine' intAddLt ?zi4h ?zi4k); (case zi4h => with_reducible assumption); (case zi4k => decide)) | ((with_reducible refine intS ?_); k_extra "mine ill"))
  k_with "mine ile" => (first | (with_reducible assumption) | decide | ((with_reducible refine intNn ?_); k_extra "mine ile") | ((with_reducible refine' intLtLe ?zi5h ?zi5k); (case zi5h => with_reducible assumption); (case zi5k => decide)) | ((with_reducible refine' intLeLe ?zi6h ?zi6k); (case zi6h => with_reducible assumption); (case zi6k => decide)) | ((with_reducible refine' intGeGe ?zi7h ?zi7k); (case zi7h => with_reducible assumption); (case zi7k => decide)) | ((with_reducible refine' intAddLe ?zi8h ?zi8k); (case zi8h => with_reducible assumption); (case zi8k => decide)) | ((with_reducible refine' intAddGe ?zi9h ?zi9k); (case zi9h => with_reducible assumption); (case zi9k => decide)) | ((with_reducible refine' intSubGe ?zi10h ?zi10k); (case zi10h => with_reducible assumption); (case zi10k => decide)) | ((with_reducible refine' intSubLe ?zi11h ?zi11k); (case zi11h => with_reducible assumption); (case zi11k => decide)))
  k_with "mine omegaF" => (first | ((repeat ((with_reducible rename _ ∧ _ => kz); clear kz)); (repeat ((with_reducible rename _ ≠ _ => kz); clear kz)); omega (config := {})) | omega (config := {}))
  k_with "mine omega" => (first | (with_reducible assumption) | ((with_reducible show @Ne Nat _ _); k_extra "mine ne0") | ((with_reducible show @LT.lt Nat _ _ _); k_extra "mine lg") | ((with_reducible show @LE.le Nat _ _ _); k_extra "mine le") | ((with_reducible show @LT.lt Int _ _ _); k_extra "mine ill") | ((with_reducible show @LE.le Int _ _ _); k_extra "mine ile") | ((with_reducible refine' ⟨?zoa, ?zob⟩); (case zoa => k_extra "mine ile"); (case zob => k_extra "mine ile")) | k_extra "mine omegaF")
  k_with "mine all" => first | ((with_reducible refine' List.forall_mem_cons.mpr ⟨?z83_a, ?z83_b⟩); (case z83_a => k_ne); (case z83_b => k_all)) | (with_reducible exact List.forall_mem_nil _) | (with_reducible assumption)
  k_with "mine mem" => first | (with_reducible exact List.Mem.head _) | ((with_reducible refine' List.Mem.tail _ ?_); k_mem) | (with_reducible assumption) | assumption
  k_with "call ref" => (k_here; first | ((with_reducible show wpAny _ _ (call (Value.ref 65) [Value.ref _, Value.int _ _]) _ _ _); k_dflt (refine' struck_call ?z85_scB ?z85_scF ?z85_scX ?z85_scN ?z85_scT ?z85_sck ?z85_scU ?z85_scD ?z85_scI ?z85_scl ?z85_sc0 ?z85_sc1 ?z85_sc2 ?z85_sc3 ?z85_scd ?z85_scu ?_; (case z85_scB => k_asm); (case z85_scF => k_asm); (case z85_scX => k_asm); (case z85_scN => k_asm); (case z85_scT => k_asm); (case z85_sck => rfl); (case z85_scU => k_updF); (case z85_scD => k_mem); (case z85_scI => assumption); (case z85_scl => omega); (case z85_sc0 => omega); (case z85_sc1 => omega); (case z85_sc2 => omega); (case z85_sc3 => omega); (case z85_scd => ktr_room); (case z85_scu => ktr_units)); intro _ _ _ _ _ _ _ _; intro N'; (try dsimp only at N'); revert N'; intro _) | ((with_reducible show wpAny _ _ (call (Value.ref 93) _) _ _ _); k_dflt (refine halt ?_)) | ((with_reducible show wpAny _ _ (call (Value.ref 100) _) _ _ _); k_dflt (refine halt ?_)) | ((with_reducible show wpAny _ _ (call (Value.ref 107) _) _ _ _); k_dflt (refine halt ?_)))
  k_with "exec Assign cons ListComp" => (k_here; k_dflt (refine LCg.Assign_ListComp_U (F₀ := by k_asm) (by rfl) (by with_unfolding_all rfl) (by with_unfolding_all rfl) (by decide) (by rfl) (by decide) (by rfl) (by rfl) (by rfl) ?_))
  k_with "CompSrc" => (k_dflt (refine halt ?_))
  k_with "CompEnd" => (k_dflt (refine halt ?_))
  exact True.intro

set_option maxHeartbeats 8000000 in
theorem law_holds : PySem.Challenge.rw_pq0674_01.Holds := by
  refine hd ?_
  k_go0
  (all_goals try k_fold)
  k_steps
  unfold Halt
  rename_i X1 T1 B1 c106 c99 c71 lo0 D ws hD hI hC hL lD l hl ll h2 oc F1 N1 dc k t1 t2 h3 tk3 k0 k1 F2 N2 h4 tk4 tR uR vR rg F3 N3 kp
  clear F1 N1 F2 N2
  obtain ⟨nk, rfl⟩ : ∃ nk : Nat, k = nk := ⟨k.toNat, by omega⟩
  refine LCg.CompSrc.range (by rfl) F3 N3 rg (small_one (by omega) (by omega) (by omega) (by omega)) (rangeSize_nat _ _) (by rw [sizeLine_eq]; omega) ?_
  intro g
  refine comp_inv (fun i ys nw => ∃ bs t tk, BytesAre ys bs ∧ bs.length = i ∧ (∀ b ∈ bs, b.size ≤ 100) ∧ t = 1 + (i : Int) ∧ nw = (l, W.listOf #[.ref D, .int t tk] 0) :: _) ⟨[], _, _, .nil, rfl, nofun, rfl, rfl⟩ ?turn ?fin
  case turn =>
    intro i ys nw v I oI C oC D2 m2 h tk E' hi hJJ hVV hC hx F4 N4 off ne
    refine byG fun G hG => ?_
    obtain ⟨bs, t, tk1, hb, hbl, hbz, ht, rfl⟩ := hJJ
    obtain ⟨tv, rfl⟩ := hVV
    refine hG ?_
    clear hG G
    simp only [LCg.Off3, and_true] at off
    have off1 := off.1.1
    have off2 := off.1.2.1
    have off3 := off.1.2.2
    k_steps
    unfold Halt
    rename_i kq ta tb hq tkq kq0 kq1 F5 N5 tx tkx
    refine LCg.CompEnd.intro F5 N5 ((l, W.listOf #[.ref D, .int (t + 1) ta] 0) :: _) ?sub ?off True.intro ⟨bs ++ [_], t + 1, ta, hb.append (.cons _ _ .nil), by rw [List.length_append, hbl]; rfl, ?bz, by rw [ht]; omega, rfl⟩
    case sub =>
      exact fun p hp => hp
    case off =>
      simp only [LCg.Off3, and_true]
      exact off
    case bz =>
      intro b hb
      rcases List.mem_append.mp hb with hb | hb
      · exact hbz b hb
      · rw [List.mem_singleton.mp hb]
        simp only [List.size_toArray, List.length_flatten, List.map_replicate, List.sum_replicate_nat, List.length_cons, List.length_nil]
        omega
  case fin =>
    rintro ys nw ⟨bs, t, tk1, hb, hbl, hbz, ht, rfl⟩
    unfold LCg.FinA
    intro D3 h tk F4 N4 off
    simp only [LCg.Off1, and_true] at off
    clear F3 N3 rg
    k_steps
    unfold Halt
    have h107 : 107 < _ := Heap.lt_size (of_hideAll _ (X1 107 _ (by k_dflt k_is)))
    have hyl := hb.length
    refine byG fun G hG => ?_
    obtain ⟨o1, o2, o3, o4, o5, o6, o7⟩ := off
    refine hG ?_
    clear hG G
    k_dflt (refine put_right_spec (an := l) (tl := D3) B1 F4 X1 (law_turn N4) T1 (by rfl) X1 T1 ktsDicts_nil hI ?len ?t0 ?t9 ?tx ?z0 ?z1 ?z2 ?z2a ?z2b ?z2c ?ra ?r8 ?r6 c71 codeHd ?dp ?un ?kend)
    case len => omega
    case t0 => omega
    case t9 => omega
    case tx => omega
    case z0 => omega
    case z1 => omega
    case z2 => k_ne
    case z2a => k_ne
    case z2b => k_ne
    case z2c => k_ne
    case ra => k_all
    case r8 => k_all
    case r6 => k_all
    case dp => ktr_room
    case un => ktr_units
    case kend =>
      intro h6 ps8 c1 oc1 tn h7 tk7 KT F6 N6 lc1 lc2 hJJ B6 X6 T6 D6
      refine byG fun G hG => ?_
      obtain ⟨vs1, tv1, dv1, dv2⟩ := hJJ
      refine hG ?_
      clear hG G
      clear F4 N4
      k_steps
      unfold Halt
      k_dflt (refine taken_right_spec (an := l) (tl := D3) B6 F6 X6 (law_turn2 N6) T6 (by rfl) dv1 dv2 X1 T1 D6 hI ?len ?t0 ?t9 ?tx ?z0 ?z1 ?z2 ?z2a ?z2b ?z2c lc1 lc2 ?ra ?r8 ?r6 c71 c99 ?dp ?un ?kend)
      case len => omega
      case t0 => omega
      case t9 => omega
      case tx => omega
      case z0 => omega
      case z1 => omega
      case z2 => k_ne
      case z2a => k_ne
      case z2b => k_ne
      case z2c => k_ne
      case ra => k_all
      case r8 => k_all
      case r6 => k_all
      case dp => ktr_room
      case un => ktr_units
      case kend =>
        rintro h8 ps9 tn2 h9 tk9 KT2 F8 N8 B8 X8 T8 D8
        clear F6 N6 X6 T6 B6 D6
        k_steps
        unfold Halt
        k_dflt (refine joined_right_spec (an := l) (tl := D3) B8 F8 X8 (law_turn3 N8) T8 (by rfl) dv1 dv2 hI ?len ?t0 ?t9 hb ?tx hbz ?z0 ?z1 ?z2 ?z2a ?z2b ?z2c lc1 lc2 ?ra ?r8 ?r6 c71 c106 ?dp ?un ?kend)
        case len => omega
        case t0 => omega
        case t9 => omega
        case tx => omega
        case z0 => omega
        case z1 => omega
        case z2 => k_ne
        case z2a => k_ne
        case z2b => k_ne
        case z2c => k_ne
        case ra => k_all
        case r8 => k_all
        case r6 => k_all
        case dp => ktr_room
        case un => ktr_units
        case kend =>
          rintro ps2 h10 tk10 F10 N10
          clear F8 N8
          have nm : ∀ b : Addr, b ∉ List.filterMap (fun e : Env => e.frame) [] := fun _ hb => nomatch hb
          have F11 := fr_down F10 (fun b o e => KT2.other b o (KT.other b o e (nm b)) (nm b)) (KT2.size.trans KT.size)
          refine ⟨goodW_bool F11 (by assumption) (raisesW_false ?_) ?_, GrownAt.of N10 (by k_mem), GrownAt.of N10 (by k_mem), GrownAt.of N10 (by k_mem), GrownAt.of N10 (by k_mem), True.intro⟩
          · wrow_none_raised
          · kc_post
end

end
end Mine

theorem PySem.Challenge.cw_pq0674_01_holds : PySem.Challenge.rw_pq0674_01.Holds :=
  Mine.law_holds
