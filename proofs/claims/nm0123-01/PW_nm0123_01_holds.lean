import PyProof.Rows.All
import Wide.All
import OpenK.AllK
import Wide.FinOn
import PySem.Challenge.RW_nm0123_01
open PySem PySem.W PyProof.Rows
set_option Elab.async false
set_option maxRecDepth 100000
-- part Hd
set_option maxHeartbeats 8000000
namespace Mine
open_top hd for PySem.Challenge.rw_nm0123_01
end Mine
-- part Nx
set_option maxHeartbeats 8000000
namespace Mine
theorem UpdF.upd {d : Addr} {o : Obj} {l : List (Addr × Obj)} {g : Obj → List (Addr × Obj)} (U : UpdF d o l g) (o' : Obj) : Upd d o o' l (g o') := by
  induction U with
  | head h => exact .head h
  | tail h _ ih => exact .tail h ih
theorem UpdF.mem {d : Addr} {o : Obj} {l : List (Addr × Obj)} {g : Obj → List (Addr × Obj)} (U : UpdF d o l g) : (d, o) ∈ l := by
  induction U with
  | head h => exact .head _
  | tail h _ ih => exact .tail _ ih
theorem UpdF.self {d : Addr} {o : Obj} {l : List (Addr × Obj)} {g : Obj → List (Addr × Obj)} (U : UpdF d o l g) : g o = l := by
  induction U with
  | head h => rfl
  | tail h _ ih => show _ :: _ = _; rw [ih]
theorem next_use {w : World} {A A₀ : Around} {base h₀ : Heap} {outer : List Env} {env : Env} {L : Addr} {m mg mb : Str → Option Value} {means : ExcName → Option Value} {s : Shared} {E : Value → Shared → Prop} {Q : Value → Shared → Prop} {aT : Addr} {vs : List Value} {ns : List Int} {n : Nat} {news : List (Addr × Obj)} {g : Obj → List (Addr × Obj)}
    (KX : (hd.heap_39 w.params).In h₀) (T : Top hd.view_39 (looseW hd.view_39 []) means mg mb h₀) (B : Below A₀ base outer h₀) (F : Fr h₀ L s.heap m) (N : News h₀ L s.heap news) (U : UpdF aT (listOf vs.toArray n) news g)
    (hi : IntsAre vs ns) (hz : ns.length ≤ 63) (hA : A.frames = some (env :: outer)) (hf : env.frame = some L) (hk : env.scope.kind = .function) (hroom : A.depth < recursionLimit) (hu : A.units + 100 < cLine)
    (h : ∀ h' tk' k t vs' n', Fr h₀ L h' m → News h₀ L h' (g (listOf vs'.toArray n')) → IntsAre vs' ns.dropLast → Q (.int k t) { s with heap := h', toks := tk' }) : wpAny (model PySem.Challenge.rw_nm0123_01.row.prog w) A (call (.ref 185) [.ref aT]) Q E s := by
  w_top off
  revert KX; k_fill; intro KX
  refine wpAny_call ?_
  refine' code_def ?k1 ?k2 ?k3 ?k4 ?k5 hA hf hk ?k6 ?k7 hroom ?k9 ?kB ?_ ?c2 ?c3 ?c4 ?c5
  (case k1 => k_asm); (case k2 => k_asm); (case k3 => k_asm); (case k4 => k_asm); (case k5 => k_asm); (case k6 => k_is); (case k7 => k_is)
  (case k9 => exact BindsTo.of_eq rfl); (case c5 => decide); (case kB => exact locs rfl); (case c2 => exact rfl); (case c3 => exact rfl); (case c4 => exact rfl)
  intro g' L' h' FG' F' N' B' X' T'
  clear F N KX T B
  have hmem := UpdF.mem U
  have kMk := kdMark
  (try dsimp only); (try k_lift B'); (try k_fold)
  k_steps
  rename News _ _ _ _ => N'
  have hu' : ∀ e : Env, (A.deeper e).units + 64 < cLine := fun e => by rw [units_deeper]; omega
  refine ke_ne_ints (xs := vs) (ys := []) ⟨_, (N' _ (.tail _ hmem)).1, rfl, _, rfl⟩ ⟨_, (N' _ (.head _)).1, rfl, _, rfl⟩ hi .nil (hu' _) ?_
  cases hi with
  | nil =>
    k_steps
    exact leaveK_ (by assumption) (fun p hp => N' p (.tail _ hp)) (fun F N => h _ _ _ _ [] n F (by rw [UpdF.self U]; exact N) .nil)
  | cons k t r =>
    have hL := r.length
    k_steps
    · rename_i a; simp at a
    · refine kpa_pop (by assumption) N' (Upd.tail (Nat.ne_of_gt ((by assumption : ∀ p ∈ news, p.1 < _) _ hmem)) (UpdF.upd U _)) (.cons k t r) (Nat.succ_pos _) (by rw [PySem.sizeLine_eq]; simp only [List.length_cons] at hz ⊢; omega) ?_
      intro h9 t9 F9 N9 I9
      exact leaveK_ F9 (fun p hp => N9 p (.tail _ hp)) (fun F N => h _ _ _ _ _ _ F N I9)
end Mine
-- part C0
set_option maxHeartbeats 8000000
namespace Mine
def partsOf (nm : Str) : List Stmt → Option (List Stmt × Scope)
  | [] => none
  | .FunctionDef n _ b _ _ _ sc _ _ _ :: r => if n = nm then some (b, sc) else partsOf nm r
  | _ :: r => partsOf nm r
def lawBody : List Stmt := match partsOf (Str.ofString "law") PySem.Challenge.pw_nm0123_01.main.body with | some (b, _) => b | none => []
def lawScope : Scope := match partsOf (Str.ofString "law") PySem.Challenge.pw_nm0123_01.main.body with | some (_, s) => s | none => default
def wlBody : List Stmt := match partsOf (Str.ofString "without_locals") PySem.Challenge.pw_nm0123_01.main.body with | some (b, _) => b | none => []
def wlScope : Scope := match partsOf (Str.ofString "without_locals") PySem.Challenge.pw_nm0123_01.main.body with | some (_, s) => s | none => default
def lp : Pos := { line := 0, col := 0, endLine := 0, endCol := 0 }
def lawSt (k : Nat) : Stmt := match lawBody[k]? with | some s => s | none => .Pass lp
def wlSt (k : Nat) : Stmt := match wlBody[k]? with | some s => s | none => .Pass lp
end Mine
-- part C1
set_option maxHeartbeats 8000000
namespace Mine
abbrev Led := List (Addr × Obj)
abbrev Kn := Addr → Obj → Prop
def TupK (P : Kn) (v : Value) (its : List Value) : Prop := ∃ a n, v = .ref a ∧ P a { cls := .type "tuple", data := .seq its.toArray n }
def InsK (P : Kn) (v : Value) (b : List Int) : Prop := ∃ its, TupK P v its ∧ IntsAre its b
inductive BodyK (P : Kn) : List Value → List (List Int) → Prop
  | nil : BodyK P [] []
  | cons {v : Value} {b : List Int} {vs : List Value} {bs : List (List Int)} : InsK P v b → BodyK P vs bs → BodyK P (v :: vs) (b :: bs)
def ModK (P : Kn) (aM : Addr) : Prop := ∃ (d : Addr) (es : List DictEntry) (n : Nat) (aK : Addr) (nK : Nat) (ts : List Value), P aM (instObj 162 d) ∧ P d (dictOf es n) ∧ getL (Str.ofString "kinds") es = some (some (.ref aK)) ∧ P aK (listOf ts.toArray nK) ∧ ts.length = 4 ∧
  ∀ (i : Nat) (t : Value), ts[i]? = some t → ∃ (p q : Value) (pi : List Value), TupK P t [p, q] ∧ TupK P p pi ∧ pi.length = i
abbrev inL (l : Led) : Kn := fun a o => (a, o) ∈ l
abbrev inH (h : Heap) : Kn := fun a o => h.get? a = some o
theorem TupK.mono {P P' : Kn} (k : ∀ a o, P a o → P' a o) {v : Value} {its : List Value} (h : TupK P v its) : TupK P' v its := let ⟨a, n, e, q⟩ := h; ⟨a, n, e, k _ _ q⟩
theorem InsK.mono {P P' : Kn} (k : ∀ a o, P a o → P' a o) {v : Value} {b : List Int} (h : InsK P v b) : InsK P' v b := let ⟨its, e, q⟩ := h; ⟨its, e.mono k, q⟩
theorem BodyK.mono {P P' : Kn} (k : ∀ a o, P a o → P' a o) {vs : List Value} {bs : List (List Int)} (h : BodyK P vs bs) : BodyK P' vs bs := by
  induction h with
  | nil => exact .nil
  | cons h _ ih => exact .cons (h.mono k) ih
theorem ModK.mono {P P' : Kn} (k : ∀ a o, P a o → P' a o) {aM : Addr} (h : ModK P aM) : ModK P' aM := by
  obtain ⟨d, es, n, aK, nK, ts, h1, h2, h3, h4, h5, h6⟩ := h
  exact ⟨d, es, n, aK, nK, ts, k _ _ h1, k _ _ h2, h3, k _ _ h4, h5, fun i t e => let ⟨p, q, pi, a, b, c⟩ := h6 i t e; ⟨p, q, pi, a.mono k, b.mono k, c⟩⟩
theorem BodyK.length {P : Kn} {vs : List Value} {bs : List (List Int)} (h : BodyK P vs bs) : vs.length = bs.length := by
  induction h with
  | nil => rfl
  | cons _ _ ih => simp [ih]
theorem BodyK.append {P : Kn} {vs ws : List Value} {bs cs : List (List Int)} (h : BodyK P vs bs) (k : BodyK P ws cs) : BodyK P (vs ++ ws) (bs ++ cs) := by
  induction h with
  | nil => exact k
  | cons h _ ih => exact .cons h ih
theorem TupK.tup {h : Heap} {v : Value} {its : List Value} (t : TupK (inH h) v its) : ∃ a, v = .ref a ∧ IsTup h a its.toArray := let ⟨a, n, e, q⟩ := t; ⟨a, e, _, q, rfl, n, rfl⟩
theorem fr_re {base h : Heap} {L : Addr} {m : Str → Option Value} {x : Str} {v : Value} (F : Fr base L h m) (e : m x = some v) : Fr base L h (fun y => if y = x then some v else m y) := by
  have : (fun y => if y = x then some v else m y) = m := by
    funext y
    by_cases q : y = x
    · rw [if_pos q, q, e]
    · rw [if_neg q]
  rw [this]; exact F
section
variable {prog : Program} {w : World} {A : Around} {E : Value → Shared → Prop} {s : Shared} {base : Heap} {L : Addr} {m : Str → Option Value} {K : Frag}
-- an item of a list at a place in bounds
theorem item_at {value slice : Expr} {l : Addr} {vs : List Value} {n : Nat} {k : Int} {u : Tok} {x : Value} {Q : Value → Shared → Prop} (hl : s.heap.get? l = some (listOf vs.toArray n)) (h0 : 0 ≤ k) (hhi : k < 2 ^ 63) (hx : vs[k.toNat]? = some x) (h : Q x s)
    (hs : subscripted slice false (.ref l) (.int k u) = operate [.ref l, .int k u] (getItem (.ref l) (.int k u)) := by with_unfolding_all rfl) :
    wpAny (model prog w) A (subscriptTail value slice (.ref l) (.int k u)) Q E s := by
  have hl' : s.heap.IsList l vs.toArray := ⟨_, hl, rfl, n, rfl⟩
  exact tail_any hl'.typeIs slot_list_getitem.lookup (wpAny_getItem_list hl' h0 hhi (by simpa using hx) h) hs
theorem item_tup {value slice : Expr} {t : Value} {its : List Value} {k : Nat} {u : Tok} {x : Value} {Q : Value → Shared → Prop} (ht : TupK (inH s.heap) t its) (hz : its.length < 1000) (hx : its[k]? = some x) (h : Q x s)
    (hs : ∀ a, subscripted slice false (.ref a) (.int k u) = operate [.ref a, .int k u] (getItem (.ref a) (.int k u)) := by intro _; with_unfolding_all rfl) :
    wpAny (model prog w) A (subscriptTail value slice t (.int k u)) Q E s := by
  obtain ⟨a, rfl, ht'⟩ := ht.tup
  have hk : k < its.length := (List.getElem?_eq_some_iff.mp hx).1
  exact item_tupleT (j := k) ht' (by omega) (by omega) (by simp [seqIndex?]; omega) hx h (hs a)
end
end Mine
-- part L3
set_option maxHeartbeats 8000000
namespace Mine
abbrev PROG := PySem.Challenge.rw_nm0123_01.row.prog
abbrev lenv (L fa : Addr) (cdv : Value) : Env := envOfC (Str.ofString "law") lawScope L fa cdv
abbrev LA (L fa : Addr) (cdv : Value) : Around := callerA.deeper (lenv L fa cdv)
local macro_rules | `(tactic| walk_at "call ref") => `(tactic| (k_here; (with_reducible show wpAny _ _ (call (Value.ref 185) [Value.ref _] _) _ _ _); k_dflt (refine' next_use ?k1 ?k2 ?k3 ?k4 ?k5 ?k6 ?k7 ?k8 ?k9 ?ka ?kb ?kc ?kd ?_; (case k1 => k_asm); (case k2 => k_asm); (case k3 => k_asm); (case k4 => k_asm); (case k5 => k_asm); (case k6 => k_updF); (case k7 => assumption); (case k8 => assumption); (case k9 => exact rfl); (case ka => exact rfl); (case kb => exact rfl); (case kc => exact Nat.le_of_ble_eq_true rfl); (case kd => exact Nat.le_of_ble_eq_true rfl); k_whole); intro h' tk' k' t' vs' n' F' N' I'; (try dsimp only at N'); (try k_sweep)))
local macro_rules | `(tactic| k_get) => `(tactic| with_reducible assumption)
theorem law_s3 {w : World} {base : Heap} {L fa : Addr} {cdv : Value} {mg mb u : Str → Option Value} {means : ExcName → Option Value} {s : Shared} {E : Value → Shared → Prop} {Q : Flow → Shared → Prop} {aT aM : Addr} {vs : List Value} {ns : List Int} {n : Nat} {Λ : Led} {c1 c2 c3 c4 : Obj} {x2 x3 x4 : Option Value} {rest : List Stmt}
    (KX : (hd.heap_39 w.params).In base) (T : Top hd.view_39 (looseW hd.view_39 []) means mg mb base) (B : Below callerA base [] base)
    (F : Fr base L s.heap (fun y => if y = Str.ofString "module" then some (.ref aM) else u y)) (N : News base L s.heap ((L + 1 + 1 + 1 + 1, c4) :: (L + 1 + 1 + 1, c3) :: (L + 1 + 1, c2) :: (L + 1, c1) :: (aT, listOf vs.toArray n) :: Λ))
    (hc1 : c1.data = .cell (some (.ref aT))) (hc2 : c2.data = .cell x2) (hc3 : c3.data = .cell x3) (hc4 : c4.data = .cell x4) (haT : L + 1 + 1 + 1 + 1 < aT)
    (hoff : OwnOff Λ [L + 1 + 1 + 1 + 1, L + 1 + 1 + 1, L + 1 + 1, L + 1, aT]) (hi : IntsAre vs ns) (hz : ns.length ≤ 63) (hM : ModK (inL Λ) aM)
    (h : ∀ h' tk' k t tp c2' vs' n', 0 ≤ k → k < 4 → Fr base L h' (fun y => if y = Str.ofString "kind" then some (.int k t) else if y = Str.ofString "module" then some (.ref aM) else u y) →
      News base L h' ((L + 1 + 1 + 1 + 1, c4) :: (L + 1 + 1 + 1, c3) :: (L + 1 + 1, c2') :: (L + 1, c1) :: (aT, listOf vs'.toArray n') :: Λ) → c2'.data = .cell (some (.int k tp)) → IntsAre vs' ns.dropLast →
      wpAny (model PROG w) (LA L fa cdv) (execs rest (lenv L fa cdv)) Q E { s with heap := h', toks := tk' }) :
    wpAny (model PROG w) (LA L fa cdv) (execs (lawSt 3 :: lawSt 4 :: rest) (lenv L fa cdv)) Q E s := by
  w_top off
  delta PROG LA lenv
  revert KX; k_fill; intro KX
  have kMk := kdMark
  replace haT := ltN haT
  obtain ⟨d, es, nD, aK, nK, ts, hm1, hm2, hm3, hm4, hm5, hm6⟩ := hM
  conv in (lawSt 3) => whnf
  conv in (lawSt 4) => whnf
  conv in (occs := *) lawScope => all_goals whnf
  change (_, _) ∈ Λ at hm1 hm2 hm4
  k_steps
  rename News _ _ _ _ => N9
  rename_i k9 _ _ _ _ _ _
  have hk0 : 0 ≤ Int.fmod k9 4 := Int.fmod_nonneg_of_pos _ (by decide)
  have hk4 : Int.fmod k9 4 < 4 := Int.fmod_lt_of_pos _ (by decide)
  generalize hkk : Int.fmod k9 4 = kk at *
  have hlt : kk.toNat < ts.length := by omega
  obtain ⟨p, q, pi, ⟨a1, n1, e1, m1⟩, ⟨a2, n2, rfl, m2⟩, hl⟩ := hm6 _ _ (List.getElem?_eq_getElem hlt)
  change (_, _) ∈ Λ at m1 m2
  refine item_at (N9 _ (.tail _ (.tail _ (.tail _ (.tail _ (.tail _ hm4)))))).1 hk0 (by omega) (List.getElem?_eq_getElem hlt) ?_
  rw [e1]
  k_steps
  refine len_tuple (items := pi.toArray) (News.isTup N9 (.tail _ (.tail _ (.tail _ (.tail _ (.tail _ m2)))))) (by simp only [List.size_toArray]; omega) ?_
  k_steps
  have el : ((pi.toArray.size : Nat) : Int) = kk := by rw [List.size_toArray, hl]; omega
  rename_i d9
  rw [el] at d9
  exact h _ _ _ _ _ _ _ _ hk0 hk4 (by assumption) (by assumption) d9 (by assumption)
end Mine
local macro_rules | `(tactic| walk_at "idle") => `(tactic| fail "idle")
local macro_rules | `(tactic| walk_at "idle") => `(tactic| fail "idle")
-- part C2
set_option maxHeartbeats 8000000
namespace Mine
theorem CompEnd.mono {h₀ : Heap} {L I C D : Addr} {m : Str → Option Value} {s₁ : Shared} {oI oC oD : Obj} {S : Led → Prop} {r r' : Value → Led → Prop} {y : Value} {s₂ : Shared} (k : ∀ nw, r y nw → r' y nw) (h : LCg.CompEnd h₀ L m s₁ I oI C oC D oD S r y s₂) : LCg.CompEnd h₀ L m s₁ I oI C oC D oD S r' y s₂ :=
  let ⟨h', tk, nw, e, F, N, o, hS, hr⟩ := h; ⟨h', tk, nw, e, F, N, o, hS, k _ hr⟩
theorem rest_ind {prog : Program} {w : World} {A : Around} {s : Shared} {h₀ : Heap} {L : Addr} {m : Str → Option Value} {env : Env} {elt : Expr} {x : Str} {scope : Scope} {cl : List (Str × Addr)} {S : Led → Prop} {P : Nat → Value → Prop} {Fin : List Value → Led → Prop} {n : Nat} (J : Nat → List Value → Led → Prop)
    (turn : ∀ i ys news v I oI C oC D m₂ h tk (E' : Value → Shared → Prop), i < n → J i ys news → P i v → LCg.NsObj oC m₂ → m₂ x = some v → Fr h₀ L h m → News h₀ L h ((I, oI) :: (C, oC) :: (D, LCg.lst ys) :: news) → LCg.Off3 I C D news → ((@Ne Nat I C) ∧ (@Ne Nat I D) ∧ (@Ne Nat C D)) →
      wpAny (model prog w) A (eval elt (compEnvC scope cl C env)) (LCg.CompEnd h₀ L m { s with heap := h, toks := tk } I oI C oC D (LCg.lst ys) S (fun y news' => J (i + 1) (ys ++ [y]) news')) E' { s with heap := h, toks := tk })
    (fin : ∀ ys news, J n ys news → Fin ys news) : ∀ k i ys news, i + k = n → J i ys news → LCg.CompRest prog w A h₀ L m env elt x scope cl s S P Fin k i ys news
  | 0, i, ys, news, e, hJ => LCg.CompRest.zero (fin ys news (by rw [Nat.add_zero] at e; exact e ▸ hJ))
  | k + 1, i, ys, news, e, hJ => LCg.CompRest.succ fun v I oI C oC D m₂ h tk E' hP hC hx F N o ne =>
      wpAny_mono (turn i ys news v I oI C oC D m₂ h tk E' (by omega) hJ hP hC hx F N o ne) (fun y s₂ q => CompEnd.mono (fun nw hj => rest_ind J turn fin k (i + 1) (ys ++ [y]) nw (by omega) hj) q) fun _ _ x => x
theorem cell_ne {base h : Heap} {L a b : Addr} {news : Led} {o c : Obj} {x : Option Value} (N : News base L h news) (h1 : (a, o) ∈ news) (h2 : (b, c) ∈ news) (hd : c.data = .cell x) (ho : ∀ x, o.data ≠ .cell x) : @Ne Nat a b :=
  News.twoPlaces N h1 h2 fun e => ho x (by rw [← hd]; exact congrArg Obj.data e)
theorem cls_ne {base h : Heap} {L a b : Addr} {news : Led} {o c : Obj} (N : News base L h news) (h1 : (a, o) ∈ news) (h2 : (b, c) ∈ news) (hd : o.cls ≠ c.cls) : @Ne Nat a b :=
  News.twoPlaces N h1 h2 fun e => hd (congrArg Obj.cls e)
theorem ints_snoc {vs : List Value} {ns : List Int} (h : IntsAre vs ns) (k : Int) (t : Tok) : IntsAre (vs ++ [.int k t]) (ns ++ [k]) := by
  induction h with
  | nil => exact .cons k t .nil
  | cons a b _ ih => exact .cons a b ih
theorem News.sub {base h : Heap} {L : Addr} {news l : Led} (N : News base L h news) (k : ∀ p ∈ l, p ∈ news) : News base L h l := fun p hp => N p (k p hp)
def Far (d : Addr) : List Addr → Prop
  | [] => True
  | b :: r => @Ne Nat d b ∧ Far d r
theorem far_nil {d : Addr} : Far d [] := trivial
theorem far_cons {d b : Addr} {r : List Addr} (h : @Ne Nat d b) (k : Far d r) : Far d (b :: r) := ⟨h, k⟩
theorem Far.ne {d : Addr} {l : List Addr} (h : Far d l) : ∀ b ∈ l, d ≠ b := by
  induction l with
  | nil => intro b hb; cases hb
  | cons a r ih =>
    intro b hb
    cases hb with
    | head => exact h.1
    | tail _ hb => exact ih h.2 b hb
theorem own_cons {d : Addr} {o : Obj} {l : Led} {adr : List Addr} (h : Far d adr) (k : OwnOff l adr) : OwnOff ((d, o) :: l) adr := by
  intro p hp b hb
  cases hp with
  | head => exact h.ne b hb
  | tail _ hp => exact k p hp b hb
theorem allLt_mem {d : Addr} {l : Led} (h : AllLt d l) : ∀ p ∈ l, @LT.lt Nat _ p.1 d := by
  induction l with
  | nil => intro p hp; cases hp
  | cons a r ih =>
    intro p hp
    cases hp with
    | head => exact h.1
    | tail _ hp => exact ih h.2 p hp
theorem own_snoc {b : Addr} {l : Led} {adr : List Addr} (k : OwnOff l adr) (h : AllLt b l) : OwnOff l (adr ++ [b]) := by
  intro p hp c hc
  rcases List.mem_append.mp hc with hc | hc
  · exact k p hp c hc
  · rw [List.mem_singleton.mp hc]; exact Nat.ne_of_lt (allLt_mem h p hp)
theorem own_sub {l : Led} {adr adr' : List Addr} (k : OwnOff l adr) (h : ∀ b ∈ adr', b ∈ adr) : OwnOff l adr' := fun p hp b hb => k p hp b (h b hb)
end Mine
-- part C3
set_option maxHeartbeats 8000000
namespace Mine
def offL (adr : List Addr) (l : Led) : Led := l.filter fun p => decide (∀ b ∈ adr, p.1 ≠ b)
theorem offL_off {adr : List Addr} {l : Led} : OwnOff (offL adr l) adr := fun p hp b hb => by
  have := (List.mem_filter.mp hp).2
  exact (of_decide_eq_true this) b hb
theorem offL_sub {adr : List Addr} {l : Led} : ∀ p ∈ offL adr l, p ∈ l := fun _ hp => (List.mem_filter.mp hp).1
theorem offL_mem {adr : List Addr} {l : Led} {d : Addr} {o : Obj} (h : (d, o) ∈ l) (k : Far d adr) : (d, o) ∈ offL adr l := List.mem_filter.mpr ⟨h, decide_eq_true k.ne⟩
theorem offL_keep {adr : List Addr} {Λ l : Led} (hoff : OwnOff Λ adr) (h : ∀ q ∈ Λ, q ∈ l) : ∀ q ∈ Λ, q ∈ offL adr l := fun q hq => List.mem_filter.mpr ⟨h q hq, decide_eq_true (hoff q hq)⟩
theorem offL_upd {adr : List Addr} {d : Addr} {o o' : Obj} {l l' : Led} (U : Upd d o o' l l') (hd : d ∈ adr) : offL adr l' = offL adr l := by
  have hf : ∀ (x : Obj), decide (∀ b ∈ adr, ((d, x) : Addr × Obj).1 ≠ b) = false := fun x => decide_eq_false fun h => h d hd rfl
  induction U with
  | head _ => unfold offL; rw [List.filter_cons_of_neg (by rw [hf]; decide), List.filter_cons_of_neg (by rw [hf]; decide)]
  | tail _ _ ih => unfold offL at ih ⊢; rw [List.filter_cons, List.filter_cons, ih]
theorem offL_news {base h : Heap} {L : Addr} {adr : List Addr} {d : Addr} {o o' : Obj} {l l' : Led} (N : News base L h l') (U : Upd d o o' l l') (hd : d ∈ adr) : News base L h (offL adr l) := by
  rw [← offL_upd U hd]; exact News.sub N offL_sub
theorem news_cons {base h : Heap} {L a : Addr} {o : Obj} {l r : Led} (N : News base L h l) (m : (a, o) ∈ l) (R : News base L h r) : News base L h ((a, o) :: r) := fun p hp => by
  rcases List.mem_cons.mp hp with rfl | hp
  · exact N _ m
  · exact R p hp
theorem led_pack {base h : Heap} {L : Addr} (adr : List Addr) {l : Led} (N : News base L h l) : ∃ Λ', Λ' = offL adr l ∧ News base L h Λ' ∧ OwnOff Λ' adr := ⟨_, rfl, News.sub N offL_sub, offL_off⟩
section
variable {prog : Program} {w : World} {A : Around} {E : Value → Shared → Prop} {s : Shared}
theorem item_menu {value slice : Expr} {l : Addr} {vs : List Value} {n : Nat} {k : Int} {u : Tok} {Q : Value → Shared → Prop} (P : Value → Prop) (hl : s.heap.get? l = some (listOf vs.toArray n)) (h0 : 0 ≤ k) (hk : k < (vs.length : Int)) (hhi : k < 2 ^ 63) (hP : ∀ x ∈ vs, P x) (h : ∀ x, P x → Q x s)
    (hs : subscripted slice false (.ref l) (.int k u) = operate [.ref l, .int k u] (getItem (.ref l) (.int k u)) := by with_unfolding_all rfl) :
    wpAny (model prog w) A (subscriptTail value slice (.ref l) (.int k u)) Q E s := by
  have hlt : k.toNat < vs.length := by omega
  exact item_at hl h0 hhi (List.getElem?_eq_getElem hlt) (h _ (hP _ (List.getElem_mem hlt))) hs
theorem item_menuN {base : Heap} {L : Addr} {value slice : Expr} {l : Addr} {vs : List Value} {n : Nat} {k : Int} {u : Tok} {Q : Value → Shared → Prop} {led : Led} (P : Led → Value → Prop) (N : News base L s.heap led) (hl : (l, listOf vs.toArray n) ∈ led) (h0 : 0 ≤ k) (hk : k < (vs.length : Int)) (hhi : k < 2 ^ 63) (hP : ∀ x ∈ vs, P led x) (h : ∀ x, P led x → Q x s)
    (hs : subscripted slice false (.ref l) (.int k u) = operate [.ref l, .int k u] (getItem (.ref l) (.int k u)) := by with_unfolding_all rfl) :
    wpAny (model prog w) A (subscriptTail value slice (.ref l) (.int k u)) Q E s :=
  item_menu (P led) (N _ hl).1 h0 hk hhi hP h hs
theorem len_led {base : Heap} {L : Addr} {l : Addr} {vs : List Value} {n : Nat} {Q : Value → Shared → Prop} {led : Led} (N : News base L s.heap led) (hl : (l, listOf vs.toArray n) ∈ led) (hz : vs.length < 1000)
    (h : Q (.int (vs.length : Int) (s.toks + 1)) { s with toks := s.toks + 1 + 1 }) : wpAny (model prog w) A (call (.builtin "len") [.ref l]) Q E s :=
  len_list (items := vs.toArray) (News.isList N hl) (by simp only [List.size_toArray]; omega) (by rw [List.size_toArray]; exact h)
theorem len_ledT {base : Heap} {L : Addr} {l : Addr} {vs : List Value} {n : Nat} {Q : Value → Shared → Prop} {led : Led} (N : News base L s.heap led) (hl : (l, ({ cls := .type "tuple", data := .seq vs.toArray n } : Obj)) ∈ led) (hz : vs.length < 1000)
    (h : Q (.int (vs.length : Int) (s.toks + 1)) { s with toks := s.toks + 1 + 1 }) : wpAny (model prog w) A (call (.builtin "len") [.ref l]) Q E s :=
  len_tuple (items := vs.toArray) ⟨_, (N _ hl).1, rfl, n, rfl⟩ (by simp only [List.size_toArray]; omega) (by rw [List.size_toArray]; exact h)
end
end Mine
-- part L5
set_option maxHeartbeats 8000000
namespace Mine
local macro_rules | `(tactic| walk_at "call ref") => `(tactic| (k_here; (with_reducible show wpAny _ _ (call (Value.ref 185) [Value.ref _] _) _ _ _); k_dflt (refine' next_use ?k1 ?k2 ?k3 ?k4 ?k5 ?k6 ?k7 ?k8 ?k9 ?ka ?kb ?kc ?kd ?_; (case k1 => k_asm); (case k2 => k_asm); (case k3 => k_asm); (case k4 => k_asm); (case k5 => k_asm); (case k6 => k_updF); (case k7 => assumption); (case k8 => assumption); (case k9 => exact rfl); (case ka => exact rfl); (case kb => exact rfl); (case kc => exact Nat.le_of_ble_eq_true rfl); (case kd => exact Nat.le_of_ble_eq_true rfl); k_whole); intro h' tk' k' t' vs' n' F' N' I'; (try dsimp only at N'); (try k_sweep)))
local macro_rules | `(tactic| k_get) => `(tactic| with_reducible assumption)
theorem law_s5 {w : World} {base : Heap} {L fa : Addr} {cdv : Value} {mg mb u : Str → Option Value} {means : ExcName → Option Value} {s : Shared} {E : Value → Shared → Prop} {Q : Flow → Shared → Prop} {aT : Addr} {vs : List Value} {ns : List Int} {n : Nat} {Λ : Led} {c1 c2 c3 c4 : Obj} {x2 x3 x4 : Option Value} {rest : List Stmt}
    (KX : (hd.heap_39 w.params).In base) (T : Top hd.view_39 (looseW hd.view_39 []) means mg mb base) (B : Below callerA base [] base)
    (F : Fr base L s.heap u) (N : News base L s.heap ((L + 1 + 1 + 1 + 1, c4) :: (L + 1 + 1 + 1, c3) :: (L + 1 + 1, c2) :: (L + 1, c1) :: (aT, listOf vs.toArray n) :: Λ))
    (hc1 : c1.data = .cell (some (.ref aT))) (hc2 : c2.data = .cell x2) (hc3 : c3.data = .cell x3) (hc4 : c4.data = .cell x4) (haT : L + 1 + 1 + 1 + 1 < aT)
    (hoff : OwnOff Λ [L + 1 + 1 + 1 + 1, L + 1 + 1 + 1, L + 1 + 1, L + 1, aT]) (hi : IntsAre vs ns) (hz : ns.length ≤ 63)
    (h : ∀ h' tk' aK c3' vs' ns' n' its ks, Fr base L h' u →
      News base L h' ((L + 1 + 1 + 1 + 1, c4) :: (L + 1 + 1 + 1, c3') :: (L + 1 + 1, c2) :: (L + 1, c1) :: (aT, listOf vs'.toArray n') :: (aK, ({ cls := .type "tuple", data := .seq its.toArray } : Obj)) :: Λ) → c3'.data = .cell (some (.ref aK)) → IntsAre vs' ns' → ns'.length ≤ 63 → IntsAre its ks → its.length < 7 →
      OwnOff ((aK, ({ cls := .type "tuple", data := .seq its.toArray } : Obj)) :: Λ) [L + 1 + 1 + 1 + 1, L + 1 + 1 + 1, L + 1 + 1, L + 1, aT] →
      wpAny (model PROG w) (LA L fa cdv) (execs rest (lenv L fa cdv)) Q E { s with heap := h', toks := tk' }) :
    wpAny (model PROG w) (LA L fa cdv) (execs (lawSt 5 :: rest) (lenv L fa cdv)) Q E s := by
  w_top off
  delta PROG LA lenv
  revert KX; k_fill; intro KX
  have kMk := kdMark
  replace haT := ltN haT
  conv in (lawSt 5) => whnf
  conv in (occs := *) lawScope => all_goals whnf
  repeat (fail_if_success (with_reducible show LCg.CompSrc _ _ _ _ _ _ _ _ _ _ _ _ _ _)); (first | (k_unfold; (try dsimp only)) | walk1 | (dsimp only; walk1) | (leave1; (try dsimp only)) | fail "no step")
  rename_i k1 t1 vs1 n1 F0 N0 I0 h1 tk1 ta tb tc hR1 F1 N1 K1
  have hlo : 0 ≤ Int.fmod (k1 + 3) 7 := Int.fmod_nonneg_of_pos _ (by decide)
  have hhi : Int.fmod (k1 + 3) 7 < 7 := Int.fmod_lt_of_pos _ (by decide)
  obtain ⟨r, hr⟩ := Int.eq_ofNat_of_zero_le hlo
  rw [hr] at hR1 hhi
  refine' LCg.CompSrc.range (n := r) (by rfl) F1 N1 hR1 (small_one (by omega) (by omega) (by omega) (by omega)) (by rw [rangeSize_nat]; omega) (by rw [PySem.sizeLine_eq]; omega) ?_
  intro g9
  refine rest_ind (n := r) (J := fun i ys news => ∃ vs' ns' n' ks, news = (L + 1 + 1 + 1 + 1, c4) :: (L + 1 + 1 + 1, c3) :: (L + 1 + 1, c2) :: (L + 1, c1) :: (aT, listOf vs'.toArray n') :: Λ ∧ IntsAre vs' ns' ∧ ns'.length ≤ 63 ∧ IntsAre ys ks ∧ ys.length = i) ?_ ?_ r 0 [] _ (by omega) ⟨_, _, _, [], rfl, by assumption, by rw [List.length_dropLast]; omega, .nil, rfl⟩
  · rintro i ys news v I oI C oC D m₂ h9 tk9 E9 hi9 ⟨vs2, ns2, n2, ks, rfl, hi2, hz2, hys, hyl⟩ hP hC hx F2 N2 off ne
    simp only [LCg.Off3, and_true] at off
    clear F0 N0 I0 F1 N1 hR1
    k_steps
    rename_i k3 t3 vs3 n3 F3 N3 I3 t4
    exact LCg.CompEnd.intro F3 N3 _ (fun p hp => .tail _ hp) (by simp only [LCg.Off3]; exact off) trivial ⟨_, _, _, _, rfl, I3, by rw [List.length_dropLast]; omega, ints_snoc hys _ _, by rw [List.length_append, hyl]; rfl⟩
  · rintro ys news ⟨vs2, ns2, n2, ks, rfl, hi2, hz2, hys, hyl⟩
    clear F0 N0 I0 F1 N1 hR1
    intro D h9 tk9 F9 N9 o1
    repeat (fail_if_success (with_reducible show wpAny _ _ (call (Value.type _) [Value.ref _] _) _ _ _)); (first | (k_unfold; (try dsimp only)) | walk1 | (dsimp only; walk1) | (leave1; (try dsimp only)) | fail "no step")
    rename News _ _ _ _ => N9
    rename Fr _ _ _ _ => F9
    refine kde_tupleOf (zs := ys) F9 N9 (News.isList N9 (.head _)) (by simp only [List.size_toArray]; omega) rfl ?_
    intro D2 h2 F2 N2 l2
    k_lt l2
    simp only [LCg.Off1] at o1
    k_steps
    rename_i c5 F5 N5 d5
    have hoff' : OwnOff ((D2, ({ cls := .type "tuple", data := .seq ys.toArray } : Obj)) :: Λ) [L + 1 + 1 + 1 + 1, L + 1 + 1 + 1, L + 1 + 1, L + 1, aT] := by
      intro p hp b hb
      rcases List.mem_cons.mp hp with rfl | hp
      · simp only [List.mem_cons, List.mem_nil_iff, or_false] at hb
        show @Ne Nat D2 b
        rcases hb with rfl | rfl | rfl | rfl | rfl <;> omega
      · exact hoff p hp b hb
    exact h _ _ D2 c5 vs2 ns2 n2 ys ks F5 (News.sub N5 (by simp +contextual)) d5 hi2 hz2 hys (by omega) hoff'
end Mine
local macro_rules | `(tactic| walk_at "idle") => `(tactic| fail "idle")
local macro_rules | `(tactic| walk_at "idle") => `(tactic| fail "idle")
-- part L6
set_option maxHeartbeats 8000000
namespace Mine
def OkI (many : Int) (b : List Int) : Prop := (∃ op j, b = [op, j] ∧ (op = 32 ∨ op = 33 ∨ op = 34) ∧ 0 ≤ j ∧ j < many) ∨ (∃ op r, b = op :: r ∧ op ≠ 32 ∧ op ≠ 33 ∧ op ≠ 34 ∧ r.length ≤ 2)
theorem law_s6 {w : World} {base : Heap} {L fa : Addr} {cdv : Value} {mg mb u : Str → Option Value} {means : ExcName → Option Value} {s : Shared} {E : Value → Shared → Prop} {Q : Flow → Shared → Prop} {aT aK : Addr} {vs its : List Value} {n : Nat} {Λ : Led} {c1 c2 c3 c4 : Obj} {x1 x4 : Option Value} {rest : List Stmt} {p : Int} {tp : Tok}
    (KX : (hd.heap_39 w.params).In base) (T : Top hd.view_39 (looseW hd.view_39 []) means mg mb base) (B : Below callerA base [] base)
    (F : Fr base L s.heap u) (N : News base L s.heap ((L + 1 + 1 + 1 + 1, c4) :: (L + 1 + 1 + 1, c3) :: (L + 1 + 1, c2) :: (L + 1, c1) :: (aT, listOf vs.toArray n) :: Λ))
    (hc1 : c1.data = .cell x1) (hc2 : c2.data = .cell (some (.int p tp))) (hc3 : c3.data = .cell (some (.ref aK))) (hc4 : c4.data = .cell x4) (haT : L + 1 + 1 + 1 + 1 < aT)
    (hoff : OwnOff Λ [L + 1 + 1 + 1 + 1, L + 1 + 1 + 1, L + 1 + 1, L + 1, aT]) (hp0 : 0 ≤ p) (hp4 : p < 4) (hK : (aK, ({ cls := .type "tuple", data := .seq its.toArray } : Obj)) ∈ Λ) (hl : its.length < 7)
    (h : ∀ h' tk' aB tm Λ' vsB Bs nB, Fr base L h' (fun y => if y = Str.ofString "many" then some (.int (p + (its.length : Int)) tm) else if y = Str.ofString "body" then some (.ref aB) else u y) →
      News base L h' ((L + 1 + 1 + 1 + 1, c4) :: (L + 1 + 1 + 1, c3) :: (L + 1 + 1, c2) :: (L + 1, c1) :: (aT, listOf vs.toArray n) :: (aB, listOf vsB.toArray nB) :: Λ') → (∀ q ∈ Λ, q ∈ Λ') → OwnOff Λ' [L + 1 + 1 + 1 + 1, L + 1 + 1 + 1, L + 1 + 1, L + 1, aT, aB] → @LT.lt Nat _ aT aB →
      BodyK (inL Λ') vsB Bs → vsB.length ≤ 2 → (∀ b ∈ Bs, OkI (p + (its.length : Int)) b) →
      wpAny (model PROG w) (LA L fa cdv) (execs rest (lenv L fa cdv)) Q E { s with heap := h', toks := tk' }) :
    wpAny (model PROG w) (LA L fa cdv) (execs (lawSt 6 :: lawSt 7 :: rest) (lenv L fa cdv)) Q E s := by
  w_top off
  delta PROG LA lenv
  revert KX; k_fill; intro KX
  have kMk := kdMark
  replace haT := ltN haT
  conv in (lawSt 6) => whnf
  conv in (lawSt 7) => whnf
  conv in (occs := *) lawScope => all_goals whnf
  k_steps
  refine len_tuple (items := its.toArray) (News.isTup N (by k_mem)) (by simp only [List.size_toArray]; omega) ?_
  rw [List.size_toArray]
  k_steps
  · rename_i aB h1 l1 D1 h2 l2 h3 h4 h5 tk1 ha tk2 D2 h6 l3 D3 h7 l4 aL h8 F8 N8 l5 h9 F9 N9
    refine h _ _ aB _ ((D3, { cls := .type "tuple", data := .seq #[.int 26 _] }) :: (D2, { cls := .type "tuple", data := .seq #[.int 32 _, .int (p + its.length - 1) _] }) :: Λ) [.ref D2, .ref D3] [[32, p + its.length - 1], [26]] _ F9 (News.sub N9 (by repeat' (first | (refine List.forall_mem_cons.mpr ⟨by k_memK, ?_⟩) | (intro q hq; repeat (first | exact hq | apply List.Mem.tail))))) (fun q hq => .tail _ (.tail _ hq)) ?_ (by omega) ?_ (by simp) ?_
    · exact own_cons (by repeat (first | exact far_nil | refine far_cons (by omega) ?_)) (own_cons (by repeat (first | exact far_nil | refine far_cons (by omega) ?_)) (own_snoc hoff l1.2.2.2.2.2))
    · exact .cons ⟨_, ⟨D2, _, rfl, List.Mem.tail _ (List.Mem.head _)⟩, .cons _ _ (.cons _ _ .nil)⟩ (.cons ⟨_, ⟨D3, _, rfl, List.Mem.head _⟩, .cons _ _ .nil⟩ .nil)
    · intro b hb
      simp only [List.mem_cons, List.mem_nil_iff, or_false] at hb
      rcases hb with rfl | rfl
      · exact .inl ⟨32, _, rfl, .inl rfl, by omega, by omega⟩
      · exact .inr ⟨26, [], rfl, by decide, by decide, by decide, by decide⟩
  · rename_i aB h1 l1 D1 h2 l2 h3 h4 h5 F9 N9 tk1 ha
    refine h _ _ aB _ Λ [] [] _ F9 (News.sub N9 (by repeat' (first | (refine List.forall_mem_cons.mpr ⟨by k_memK, ?_⟩) | (intro q hq; repeat (first | exact hq | apply List.Mem.tail))))) (fun q hq => hq) (own_snoc hoff l1.2.2.2.2.2) (by omega) .nil (by simp) (by simp)
end Mine
-- part L8a
set_option maxHeartbeats 600000
namespace Mine
local macro_rules | `(tactic| walk_at "callWith") => `(tactic| (k_here; (with_reducible show wpAny _ _ (callWith _ _ _ (backTo _ (starEach [_] _)) []) _ _ _); k_dflt (refine callWith_method1 (first := [Value.ref _]) ?_)))
def s8Then : List Stmt := match lawSt 8 with | .While _ [_, .If _ a _ _] _ _ => a | _ => []
def s8Else : List Stmt := match lawSt 8 with | .While _ [_, .If _ _ b _] _ _ => b | _ => []
theorem s8_then {w : World} {base : Heap} {L fa : Addr} {cdv : Value} {mg mb u : Str → Option Value} {means : ExcName → Option Value} {s : Shared} {E : Value → Shared → Prop} {Q : Flow → Shared → Prop} {aT aB : Addr} {vs vsB : List Value} {n nB : Nat} {Λ : Led} {c1 c2 c3 c4 : Obj} {many pk nu : Int} {tm tp tn : Tok}
    (KX : (hd.heap_39 w.params).In base) (T : Top hd.view_39 (looseW hd.view_39 []) means mg mb base) (B : Below callerA base [] base)
    (F : Fr base L s.heap (fun y => if y = Str.ofString "pick" then some (.int pk tp) else if y = Str.ofString "number" then some (.int nu tn) else if y = Str.ofString "body" then some (.ref aB) else if y = Str.ofString "many" then some (.int many tm) else u y))
    (N : News base L s.heap ((L + 1 + 1 + 1 + 1, c4) :: (L + 1 + 1 + 1, c3) :: (L + 1 + 1, c2) :: (L + 1, c1) :: (aT, listOf vs.toArray n) :: (aB, listOf vsB.toArray nB) :: Λ)) (haT : L + 1 + 1 + 1 + 1 < aT) (haB : @LT.lt Nat _ aT aB)
    (hoff : OwnOff Λ [L + 1 + 1 + 1 + 1, L + 1 + 1 + 1, L + 1 + 1, L + 1, aT, aB]) (hBl : vsB.length ≤ 29) (hp0 : 0 ≤ pk) (hp8 : pk < 8) (hm : 0 < many)
    (h : ∀ h' tk' v b Λ' n' u', Fr base L h' u' → (∀ y, y ≠ Str.ofString "pick" → y ≠ Str.ofString "number" → y ≠ Str.ofString "some" → u' y = (if y = Str.ofString "body" then some (.ref aB) else if y = Str.ofString "many" then some (.int many tm) else u y)) →
      News base L h' ((L + 1 + 1 + 1 + 1, c4) :: (L + 1 + 1 + 1, c3) :: (L + 1 + 1, c2) :: (L + 1, c1) :: (aT, PySem.W.listOf (List.toArray vs) n) :: (aB, PySem.W.listOf (List.toArray (vsB ++ [v])) n') :: Λ') → (∀ q ∈ Λ, q ∈ Λ') →
      OwnOff Λ' [L + 1 + 1 + 1 + 1, L + 1 + 1 + 1, L + 1 + 1, L + 1, aT, aB] → InsK (inL Λ') v b → OkI many b → Q .next { s with heap := h', toks := tk' }) :
    wpAny (model PROG w) (LA L fa cdv) (execs s8Then (lenv L fa cdv)) Q E s := by
  w_top off
  delta PROG LA lenv
  revert KX; k_fill; intro KX
  have kMk := kdMark
  replace haT := ltN haT
  conv in s8Then => whnf
  conv in (occs := *) lawScope => all_goals whnf
  k_steps
  rename_i aL h1 l1 tt aD h2 l2 h3 F9 N9
  rw [List.push_toArray] at N9
  refine h _ _ (.ref aD) [List.getD [32, 33, 34, 33, 34, 32, 33, 34] (Int.toNat pk) 0, Int.fmod nu many] ((aD, { cls := .type "tuple", data := .seq #[.int (List.getD [32, 33, 34, 33, 34, 32, 33, 34] (Int.toNat pk) 0) _, .int (Int.fmod nu many) _] }) :: Λ) _ _ F9 ?_ (News.sub N9 (by repeat' (first | (refine List.forall_mem_cons.mpr ⟨by k_memK, ?_⟩) | (intro q hq; repeat (first | exact hq | apply List.Mem.tail))))) (fun q hq => .tail _ hq) (own_cons (by repeat (first | exact far_nil | refine far_cons (by omega) ?_)) hoff) ⟨_, ⟨aD, _, rfl, List.Mem.head _⟩, .cons _ _ (.cons _ _ .nil)⟩ (.inl ⟨_, _, rfl, ?_, Int.fmod_nonneg_of_pos _ hm, Int.fmod_lt_of_pos _ hm⟩)
  · intro y e1 e2 e3
    rw [if_neg e1, if_neg e2]
  · have : ∀ k : Nat, k < 8 → (List.getD [32, 33, 34, 33, 34, 32, 33, 34] k (0 : Int) = 32 ∨ List.getD [32, 33, 34, 33, 34, 32, 33, 34] k (0 : Int) = 33 ∨ List.getD [32, 33, 34, 33, 34, 32, 33, 34] k (0 : Int) = 34) := by decide
    exact this _ (by omega)
end Mine
local macro_rules | `(tactic| walk_at "idle") => `(tactic| fail "idle")
local macro_rules | `(tactic| walk_at "idle") => `(tactic| fail "idle")
-- part L8b
set_option maxHeartbeats 2000000
namespace Mine
local macro_rules | `(tactic| walk_at "callWith") => `(tactic| (k_here; (with_reducible show wpAny _ _ (callWith _ _ _ (backTo _ (starEach [_] _)) []) _ _ _); k_dflt (refine callWith_method1 (first := [Value.ref _]) ?_)))
theorem s8_else {w : World} {base : Heap} {L fa : Addr} {cdv : Value} {mg mb u : Str → Option Value} {means : ExcName → Option Value} {s : Shared} {E : Value → Shared → Prop} {Q : Flow → Shared → Prop} {aT aB : Addr} {vs vsB : List Value} {n nB : Nat} {Λ : Led} {c1 c2 c3 c4 : Obj} {many pk nu : Int} {tm tp tn : Tok}
    (KX : (hd.heap_39 w.params).In base) (T : Top hd.view_39 (looseW hd.view_39 []) means mg mb base) (B : Below callerA base [] base)
    (F : Fr base L s.heap (fun y => if y = Str.ofString "pick" then some (.int pk tp) else if y = Str.ofString "number" then some (.int nu tn) else if y = Str.ofString "body" then some (.ref aB) else if y = Str.ofString "many" then some (.int many tm) else u y))
    (N : News base L s.heap ((L + 1 + 1 + 1 + 1, c4) :: (L + 1 + 1 + 1, c3) :: (L + 1 + 1, c2) :: (L + 1, c1) :: (aT, listOf vs.toArray n) :: (aB, listOf vsB.toArray nB) :: Λ)) (haT : L + 1 + 1 + 1 + 1 < aT) (haB : @LT.lt Nat _ aT aB)
    (hoff : OwnOff Λ [L + 1 + 1 + 1 + 1, L + 1 + 1 + 1, L + 1 + 1, L + 1, aT, aB]) (hBl : vsB.length ≤ 29)
    (h : ∀ h' tk' v b Λ' n' u', Fr base L h' u' → (∀ y, y ≠ Str.ofString "pick" → y ≠ Str.ofString "number" → y ≠ Str.ofString "some" → u' y = (if y = Str.ofString "body" then some (.ref aB) else if y = Str.ofString "many" then some (.int many tm) else u y)) →
      News base L h' ((L + 1 + 1 + 1 + 1, c4) :: (L + 1 + 1 + 1, c3) :: (L + 1 + 1, c2) :: (L + 1, c1) :: (aT, PySem.W.listOf (List.toArray vs) n) :: (aB, PySem.W.listOf (List.toArray (vsB ++ [v])) n') :: Λ') → (∀ q ∈ Λ, q ∈ Λ') →
      OwnOff Λ' [L + 1 + 1 + 1 + 1, L + 1 + 1 + 1, L + 1 + 1, L + 1, aT, aB] → InsK (inL Λ') v b → OkI many b → Q .next { s with heap := h', toks := tk' }) :
    wpAny (model PROG w) (LA L fa cdv) (execs s8Else (lenv L fa cdv)) Q E s := by
  w_top off
  delta PROG LA lenv
  revert KX; k_fill; intro KX
  have kMk := kdMark
  replace haT := ltN haT
  conv in s8Else => whnf
  conv in (occs := *) lawScope => all_goals whnf
  k_steps
  rename News _ _ _ _ => N9
  have hk0 : 0 ≤ Int.fmod (Int.fdiv nu 9) 10 := Int.fmod_nonneg_of_pos _ (by decide)
  have hk10 : Int.fmod (Int.fdiv nu 9) 10 < 10 := Int.fmod_lt_of_pos _ (by decide)
  generalize Int.fmod (Int.fdiv nu 9) 10 = kk at *
  refine item_menuN (fun led x => ∃ b, InsK (inL (offL [L + 1 + 1 + 1 + 1, L + 1 + 1 + 1, L + 1 + 1, L + 1, aT, aB] led)) x b ∧ OkI many b) N9 (List.Mem.head _) hk0 hk10 (by omega) ?_ ?_
  · simp only [List.forall_mem_cons]
    refine ⟨?_, ?_, ?_, ?_, ?_, ?_, ?_, ?_, ?_, ?_, by intro x hx; cases hx⟩
    all_goals
      refine ⟨_, ⟨_, ⟨_, _, rfl, offL_mem (by k_memK) (by repeat (first | exact far_nil | refine far_cons (by omega) ?_))⟩, (by first | exact .cons _ _ .nil | exact .cons _ _ (.cons _ _ .nil) | exact .cons _ _ (.cons _ _ (.cons _ _ .nil)))⟩, .inr ⟨_, _, rfl, by decide, by decide, by decide, Nat.le_of_ble_eq_true rfl⟩⟩
  rintro x ⟨b, hb, hok⟩
  generalize hΛ : offL [L + 1 + 1 + 1 + 1, L + 1 + 1 + 1, L + 1 + 1, L + 1, aT, aB] _ = Λ' at hb
  have hoff' : OwnOff Λ' [L + 1 + 1 + 1 + 1, L + 1 + 1 + 1, L + 1 + 1, L + 1, aT, aB] := hΛ ▸ offL_off
  have hsub' : ∀ q ∈ Λ, q ∈ Λ' := by
    rw [← hΛ]
    exact offL_keep hoff (by intro q hq; repeat (first | exact hq | apply List.Mem.tail))
  k_steps
  rename Fr _ _ _ _ => F9
  rename News _ _ _ _ => N8
  (try rw [List.push_toArray] at N8)
  refine h _ _ x b Λ' _ _ F9 ?_ (news_cons N8 (by k_memK) (news_cons N8 (by k_memK) (news_cons N8 (by k_memK) (news_cons N8 (by k_memK) (news_cons N8 (by k_memK) (news_cons N8 (by k_memK) (by rw [← hΛ]; exact offL_news (d := aB) N8 (by k_upd) (by simp)))))))) hsub' hoff' hb hok
  · intro y e1 e2 e3
    rw [if_neg e3, if_neg e1, if_neg e2]
end Mine
local macro_rules | `(tactic| walk_at "idle") => `(tactic| fail "idle")
local macro_rules | `(tactic| walk_at "idle") => `(tactic| fail "idle")
-- part L8
set_option maxHeartbeats 4000000
namespace Mine
local macro_rules | `(tactic| walk_at "call ref") => `(tactic| (k_here; (with_reducible show wpAny _ _ (call (Value.ref 185) [Value.ref _] _) _ _ _); k_dflt (refine' next_use ?k1 ?k2 ?k3 ?k4 ?k5 ?k6 ?k7 ?k8 ?k9 ?ka ?kb ?kc ?kd ?_; (case k1 => k_asm); (case k2 => k_asm); (case k3 => k_asm); (case k4 => k_asm); (case k5 => k_asm); (case k6 => k_updF); (case k7 => assumption); (case k8 => first | assumption | (rw [List.length_dropLast]; omega)); (case k9 => exact rfl); (case ka => exact rfl); (case kb => exact rfl); (case kc => exact Nat.le_of_ble_eq_true rfl); (case kd => exact Nat.le_of_ble_eq_true rfl); k_whole); intro h' tk' k' t' vs' n' F' N' I'; (try dsimp only at N'); (try k_sweep)))
local macro_rules | `(tactic| k_get) => `(tactic| with_reducible assumption)
local macro_rules | `(tactic| walk_at "call builtin:len") => `(tactic| (k_here; (with_reducible show wpAny _ _ (call (Value.builtin "len") [Value.ref _]) _ _ _); k_dflt (refine' len_led ?k1 ?k2 ?k3 ?_; (case k1 => k_asm); (case k2 => k_memK); (case k3 => omega); k_whole)))
abbrev Nev : Value → Shared → Prop := fun _ _ => False
abbrev six (L aT aB : Addr) : List Addr := [L + 1 + 1 + 1 + 1, L + 1 + 1 + 1, L + 1 + 1, L + 1, aT, aB]
theorem law_s8 {w : World} {base : Heap} {L fa : Addr} {cdv : Value} {mg mb u : Str → Option Value} {means : ExcName → Option Value} {s : Shared} {Q : Flow → Shared → Prop} {aT aB : Addr} {vs vsB : List Value} {ns : List Int} {Bs : List (List Int)} {n nB : Nat} {Λ : Led} {c1 c2 c3 c4 : Obj} {x2 x3 x4 : Option Value} {many : Int} {tm : Tok} {rest : List Stmt}
    (KX : (hd.heap_39 w.params).In base) (T : Top hd.view_39 (looseW hd.view_39 []) means mg mb base) (B : Below callerA base [] base)
    (F : Fr base L s.heap (fun y => if y = Str.ofString "body" then some (.ref aB) else if y = Str.ofString "many" then some (.int many tm) else u y))
    (N : News base L s.heap ((L + 1 + 1 + 1 + 1, c4) :: (L + 1 + 1 + 1, c3) :: (L + 1 + 1, c2) :: (L + 1, c1) :: (aT, listOf vs.toArray n) :: (aB, listOf vsB.toArray nB) :: Λ))
    (hc1 : c1.data = .cell (some (.ref aT))) (hc2 : c2.data = .cell x2) (hc3 : c3.data = .cell x3) (hc4 : c4.data = .cell x4) (haT : L + 1 + 1 + 1 + 1 < aT) (haB : @LT.lt Nat _ aT aB)
    (hoff : OwnOff Λ (six L aT aB)) (hi : IntsAre vs ns) (hz : ns.length ≤ 63) (hBl : vsB.length ≤ 2) (hB : BodyK (inL Λ) vsB Bs) (hOk : ∀ b ∈ Bs, OkI many b)
    (h : ∀ h' tk' (vs' : List Value) n' (vsB' : List Value) (Bs' : List (List Int)) nB' Λ' u', Fr base L h' u' → (∀ y, y ≠ Str.ofString "pick" → y ≠ Str.ofString "number" → y ≠ Str.ofString "some" → u' y = (if y = Str.ofString "body" then some (.ref aB) else if y = Str.ofString "many" then some (.int many tm) else u y)) →
      News base L h' ((L + 1 + 1 + 1 + 1, c4) :: (L + 1 + 1 + 1, c3) :: (L + 1 + 1, c2) :: (L + 1, c1) :: (aT, listOf vs'.toArray n') :: (aB, listOf vsB'.toArray nB') :: Λ') → (∀ q ∈ Λ, q ∈ Λ') → OwnOff Λ' (six L aT aB) →
      BodyK (inL Λ') vsB' Bs' → vsB'.length ≤ 30 → (∀ b ∈ Bs', OkI many b) →
      wpAny (model PROG w) (LA L fa cdv) (execs rest (lenv L fa cdv)) Q Nev { s with heap := h', toks := tk' }) :
    wpAny (model PROG w) (LA L fa cdv) (execs (lawSt 8 :: rest) (lenv L fa cdv)) Q Nev s := by
  w_top off
  delta PROG LA lenv
  revert KX; k_fill; intro KX
  have kMk := kdMark
  replace haT := ltN haT
  conv in (lawSt 8) => whnf
  conv in (occs := *) lawScope => all_goals whnf
  refine wpAny_execs_cons (While_inv2 (fun k m nx => ∃ (vs' : List Value) (ns' : List Int) (n' : Nat) (vsB' : List Value) (Bs' : List (List Int)) (nB' : Nat) (Λ' : Led), nx = ((L + 1 + 1 + 1 + 1, c4) :: (L + 1 + 1 + 1, c3) :: (L + 1 + 1, c2) :: (L + 1, c1) :: (aT, listOf vs'.toArray n') :: (aB, listOf vsB'.toArray nB') :: Λ') ∧
    (∀ q ∈ Λ, q ∈ Λ') ∧ OwnOff Λ' (six L aT aB) ∧ IntsAre vs' ns' ∧ ns'.length ≤ 63 ∧ BodyK (inL Λ') vsB' Bs' ∧ vsB'.length ≤ 30 ∧ (∀ b ∈ Bs', OkI many b) ∧ k = 30 - vsB'.length ∧ (∀ y, y ≠ Str.ofString "pick" → y ≠ Str.ofString "number" → y ≠ Str.ofString "some" → m y = (if y = Str.ofString "body" then some (.ref aB) else if y = Str.ofString "many" then some (.int many tm) else u y)))
    F N ⟨vs, ns, n, vsB, Bs, nB, Λ, rfl, fun _ hq => hq, hoff, hi, hz, hB, by omega, hOk, rfl, fun _ _ _ _ => rfl⟩ ?_ PassesOwn.never)
  rintro k m1 nx h9 tk9 F9 N9 ⟨vs1, ns1, n1, vsB1, Bs1, nB1, Λ1, rfl, hs1, ho1, hi1, hz1, hB1, hl1, hk1, rfl, hm1⟩
  clear F N hi hz hB hBl hOk hoff
  have e1 : m1 (Str.ofString "many") = some (.int many tm) := by rw [hm1 _ (by decide) (by decide) (by decide), if_neg (by decide), if_pos rfl]
  have e2 : m1 (Str.ofString "body") = some (.ref aB) := by rw [hm1 _ (by decide) (by decide) (by decide), if_pos rfl]
  have F8 := fr_re (x := Str.ofString "body") (v := .ref aB) (fr_re F9 e1) (by show (if Str.ofString "body" = Str.ofString "many" then _ else _) = _; rw [if_neg (by decide)]; exact e2)
  clear F9
  repeat' ((fail_if_success (with_reducible show wpAny _ _ (execs [Stmt.If _ _ _ _] _) _ _ _)); (fail_if_success (with_reducible show wpAny _ _ (execs rest _) _ _ _)); first | (k_unfold; (try dsimp only)) | walk1 | (dsimp only; walk1) | (leave1; (try dsimp only)) | fail "no step")
  · rename Fr _ _ _ _ => F7
    rename News _ _ _ _ => N7
    refine h _ _ vs1 n1 vsB1 Bs1 nB1 Λ1 _ F7 ?_ (News.sub N7 (by repeat' (first | (refine List.forall_mem_cons.mpr ⟨by k_memK, ?_⟩) | (intro q9 hq9; repeat (first | exact hq9 | apply List.Mem.tail))))) hs1 ho1 hB1 hl1 hk1
    intro y q1 q2 q3
    have := hm1 y q1 q2 q3
    grind
  · repeat' ((fail_if_success (with_reducible show wpAny _ _ (execs (Stmt.Expr _ _ :: _) _) _ _ _)); (fail_if_success (with_reducible show wpAny _ _ (execs (Stmt.Assign _ _ _ :: _) _) _ _ _)); first | (k_unfold; (try dsimp only)) | walk1 | (dsimp only; walk1) | (leave1; (try dsimp only)) | fail "no step")
    all_goals
      rename Fr _ _ _ _ => F7
      rename News _ _ _ _ => N7
      rename IntsAre _ (List.dropLast (List.dropLast _)) => I7
    · refine s8_then KX T B F7 (News.sub N7 (by repeat' (first | (refine List.forall_mem_cons.mpr ⟨by k_memK, ?_⟩) | (intro q9 hq9; repeat (first | exact hq9 | apply List.Mem.tail))))) haT haB ho1 (by omega) (Int.fmod_nonneg_of_pos _ (by decide)) (by assumption) (by assumption) ?_
      intro h' tk' v b Λ' n' u' F' hu' N' hsub hoff' hv hok
      refine wpAny_execs_nil ?_
      refine ⟨h', tk', u', _, _, rfl, F', N', ?_, _, _, _, _, Bs1 ++ [b], _, Λ', rfl, fun q hq => hsub q (hs1 q hq), hoff', I7, ?_, BodyK.append (hB1.mono fun a o => hsub (a, o)) (.cons hv .nil), ?_, ?_, rfl, ?_⟩
      · rw [List.length_append]; simp only [List.length_cons, List.length_nil]; omega
      · rw [List.length_dropLast, List.length_dropLast]; omega
      · rw [List.length_append]; simp only [List.length_cons, List.length_nil]; omega
      · intro b' hb'
        rcases List.mem_append.mp hb' with hb' | hb'
        · exact hk1 b' hb'
        · rw [List.mem_singleton.mp hb']; exact hok
      · intro y q1 q2 q3
        have q4 := hm1 y q1 q2 q3
        have q5 := hu' y q1 q2 q3
        grind
    · refine s8_else KX T B F7 (News.sub N7 (by repeat' (first | (refine List.forall_mem_cons.mpr ⟨by k_memK, ?_⟩) | (intro q9 hq9; repeat (first | exact hq9 | apply List.Mem.tail))))) haT haB ho1 (by omega) ?_
      intro h' tk' v b Λ' n' u' F' hu' N' hsub hoff' hv hok
      refine wpAny_execs_nil ?_
      refine ⟨h', tk', u', _, _, rfl, F', N', ?_, _, _, _, _, Bs1 ++ [b], _, Λ', rfl, fun q hq => hsub q (hs1 q hq), hoff', I7, ?_, BodyK.append (hB1.mono fun a o => hsub (a, o)) (.cons hv .nil), ?_, ?_, rfl, ?_⟩
      · rw [List.length_append]; simp only [List.length_cons, List.length_nil]; omega
      · rw [List.length_dropLast, List.length_dropLast]; omega
      · rw [List.length_append]; simp only [List.length_cons, List.length_nil]; omega
      · intro b' hb'
        rcases List.mem_append.mp hb' with hb' | hb'
        · exact hk1 b' hb'
        · rw [List.mem_singleton.mp hb']; exact hok
      · intro y q1 q2 q3
        have q4 := hm1 y q1 q2 q3
        have q5 := hu' y q1 q2 q3
        grind
    · refine s8_else KX T B F7 (News.sub N7 (by repeat' (first | (refine List.forall_mem_cons.mpr ⟨by k_memK, ?_⟩) | (intro q9 hq9; repeat (first | exact hq9 | apply List.Mem.tail))))) haT haB ho1 (by omega) ?_
      intro h' tk' v b Λ' n' u' F' hu' N' hsub hoff' hv hok
      refine wpAny_execs_nil ?_
      refine ⟨h', tk', u', _, _, rfl, F', N', ?_, _, _, _, _, Bs1 ++ [b], _, Λ', rfl, fun q hq => hsub q (hs1 q hq), hoff', I7, ?_, BodyK.append (hB1.mono fun a o => hsub (a, o)) (.cons hv .nil), ?_, ?_, rfl, ?_⟩
      · rw [List.length_append]; simp only [List.length_cons, List.length_nil]; omega
      · rw [List.length_dropLast, List.length_dropLast]; omega
      · rw [List.length_append]; simp only [List.length_cons, List.length_nil]; omega
      · intro b' hb'
        rcases List.mem_append.mp hb' with hb' | hb'
        · exact hk1 b' hb'
        · rw [List.mem_singleton.mp hb']; exact hok
      · intro y q1 q2 q3
        have q4 := hm1 y q1 q2 q3
        have q5 := hu' y q1 q2 q3
        grind
  · rename Fr _ _ _ _ => F7
    rename News _ _ _ _ => N7
    refine h _ _ vs1 n1 vsB1 Bs1 nB1 Λ1 _ F7 ?_ (News.sub N7 (by repeat' (first | (refine List.forall_mem_cons.mpr ⟨by k_memK, ?_⟩) | (intro q9 hq9; repeat (first | exact hq9 | apply List.Mem.tail))))) hs1 ho1 hB1 hl1 hk1
    intro y q1 q2 q3
    have := hm1 y q1 q2 q3
    grind
end Mine
local macro_rules | `(tactic| walk_at "idle") => `(tactic| fail "idle")
local macro_rules | `(tactic| walk_at "idle") => `(tactic| fail "idle")
local macro_rules | `(tactic| walk_at "idle") => `(tactic| fail "idle")
-- part L9
set_option maxHeartbeats 4000000
namespace Mine
local macro_rules | `(tactic| k_get) => `(tactic| with_reducible assumption)
local macro_rules | `(tactic| walk_at "callWith") => `(tactic| (k_here; (with_reducible show wpAny _ _ (callWith _ _ _ (backTo _ (starEach [_] _)) []) _ _ _); k_dflt (refine callWith_method1 (first := [Value.ref _]) ?_)))
def FuncK (P : Kn) (C aF : Addr) (k : Int) (tk : Tok) (loc bod : Value) : Prop := ∃ (d : Addr) (es : List DictEntry) (n : Nat), P aF (instObj C d) ∧ P d (dictOf es n) ∧ getL (Str.ofString "kind") es = some (some (.int k tk)) ∧ getL (Str.ofString "locals") es = some (some loc) ∧ getL (Str.ofString "body") es = some (some bod) ∧ getL (Str.ofString "plain") es = some none
abbrev four (L : Addr) : List Addr := [L + 1 + 1 + 1 + 1, L + 1 + 1 + 1, L + 1 + 1, L + 1]
theorem law_s9 {w : World} {base : Heap} {L fa : Addr} {cdv : Value} {mg mb u : Str → Option Value} {means : ExcName → Option Value} {s : Shared} {Q : Flow → Shared → Prop} {aT aB aM aK : Addr} {vs vsB its : List Value} {Bs : List (List Int)} {n nB : Nat} {Λ : Led} {c1 c2 c3 c4 : Obj} {x1 x2 x4 : Option Value} {many k : Int} {tk : Tok} {rest : List Stmt}
    (KX : (hd.heap_39 w.params).In base) (T : Top hd.view_39 (looseW hd.view_39 []) means mg mb base) (B : Below callerA base [] base)
    (F : Fr base L s.heap (fun y => if y = Str.ofString "body" then some (.ref aB) else if y = Str.ofString "kind" then some (.int k tk) else if y = Str.ofString "module" then some (.ref aM) else u y))
    (N : News base L s.heap ((L + 1 + 1 + 1 + 1, c4) :: (L + 1 + 1 + 1, c3) :: (L + 1 + 1, c2) :: (L + 1, c1) :: (aT, listOf vs.toArray n) :: (aB, listOf vsB.toArray nB) :: Λ))
    (hc1 : c1.data = .cell x1) (hc2 : c2.data = .cell x2) (hc3 : c3.data = .cell (some (.ref aK))) (hc4 : c4.data = .cell x4) (haT : L + 1 + 1 + 1 + 1 < aT) (haB : @LT.lt Nat _ aT aB)
    (hoff : OwnOff Λ (six L aT aB)) (hBl : vsB.length ≤ 30) (hB : BodyK (inL Λ) vsB Bs) (hOk : ∀ b ∈ Bs, OkI many b) (hK : (aK, ({ cls := .type "tuple", data := .seq its.toArray } : Obj)) ∈ Λ) (hl : its.length < 7)
    (h : ∀ h' tk' aF aL (vsB' : List Value) n' n'' (Λ' : Led), Fr base L h' (fun y => if y = Str.ofString "func" then some (.ref aF) else if y = Str.ofString "body" then some (.ref aB) else if y = Str.ofString "kind" then some (.int k tk) else if y = Str.ofString "module" then some (.ref aM) else u y) →
      News base L h' ((L + 1 + 1 + 1 + 1, c4) :: (L + 1 + 1 + 1, c3) :: (L + 1 + 1, c2) :: (L + 1, c1) :: Λ') → (∀ q ∈ Λ, q ∈ Λ') → OwnOff Λ' (four L) → BodyK (inL Λ') vsB' (Bs ++ [[11]]) → vsB'.length ≤ 31 → (aB, listOf vsB'.toArray n') ∈ Λ' → (aL, listOf vsB'.toArray n'') ∈ Λ' → FuncK (inL Λ') 45 aF k tk (.ref aK) (.ref aL) →
      wpAny (model PROG w) (LA L fa cdv) (execs rest (lenv L fa cdv)) Q Nev { s with heap := h', toks := tk' })
    : wpAny (model PROG w) (LA L fa cdv) (execs (lawSt 9 :: lawSt 10 :: rest) (lenv L fa cdv)) Q Nev s := by
  w_top off
  delta PROG LA lenv
  revert KX; k_fill; intro KX
  have kMk := kdMark
  replace haT := ltN haT
  conv in (lawSt 9) => whnf
  conv in (lawSt 10) => whnf
  conv in (occs := *) lawScope => all_goals whnf
  k_steps
  rename Fr _ _ _ _ => F9
  rename News _ _ _ _ => N9
  rename_i _ D1 _ _ _ _ D2 _ _ _ x' d' _ _ _ _ _ _ _ _ _ _ _ _ _ _ _ _ _
  rw [List.push_toArray] at N9
  obtain ⟨Λ', hΛ, NΛ, oΛ⟩ := led_pack (four L) N9
  refine h _ _ x' D2 (vsB ++ [.ref D1]) _ _ Λ' F9 (news_cons N9 (by k_memK) (news_cons N9 (by k_memK) (news_cons N9 (by k_memK) (news_cons N9 (by k_memK) NΛ)))) ?_ oΛ ?_ ?_ (by rw [hΛ]; exact offL_mem (by k_memK) (by repeat (first | exact far_nil | refine far_cons (by omega) ?_))) (by rw [hΛ]; exact offL_mem (by k_memK) (by repeat (first | exact far_nil | refine far_cons (by omega) ?_))) ?_
  · rw [hΛ]; exact offL_keep (own_sub hoff (by simp +contextual)) (by intro q9 hq9; repeat (first | exact hq9 | apply List.Mem.tail))
  · refine BodyK.append (hB.mono ?_) (.cons ⟨_, ⟨D1, _, rfl, (by rw [hΛ]; exact offL_mem (by k_memK) (by repeat (first | exact far_nil | refine far_cons (by omega) ?_)))⟩, .cons 11 _ .nil⟩ .nil)
    · intro a o
      rw [hΛ]
      exact offL_keep (own_sub hoff (by simp +contextual)) (by intro q9 hq9; repeat (first | exact hq9 | apply List.Mem.tail)) (a, o)
  · rw [List.length_append]; simp only [List.length_cons, List.length_nil]; omega
  · exact ⟨d', _, _, (by rw [hΛ]; exact offL_mem (by k_memK) (by repeat (first | exact far_nil | refine far_cons (by omega) ?_))), (by rw [hΛ]; exact offL_mem (by k_memK) (by repeat (first | exact far_nil | refine far_cons (by omega) ?_))), by k_get, by k_get, by k_get, by k_get⟩
end Mine
local macro_rules | `(tactic| walk_at "idle") => `(tactic| fail "idle")
local macro_rules | `(tactic| walk_at "idle") => `(tactic| fail "idle")
-- part W0
set_option maxHeartbeats 4000000
namespace Mine
local macro_rules | `(tactic| k_get) => `(tactic| with_reducible assumption)
abbrev wenv (l : Addr) : Env := envOf (Str.ofString "without_locals") wlScope l 178 (.ref 177)
abbrev WA (L fa : Addr) (cdv : Value) (l : Addr) : Around := (LA L fa cdv).deeper (wenv l)
theorem w_s0 {w : World} {base g : Heap} {L fa l : Addr} {cdv : Value} {mg mb u : Str → Option Value} {means : ExcName → Option Value} {s : Shared} {E : Value → Shared → Prop} {Q : Flow → Shared → Prop} {aF aM : Addr} {Λ : Led} {k : Int} {tk : Tok} {loc bod : Value} {rest : List Stmt}
    (KX : (hd.heap_39 w.params).In g) (T : Top hd.view_39 (looseW hd.view_39 []) means mg mb g) (B : Below (LA L fa cdv) base [lenv L fa cdv] g)
    (F : Fr g l s.heap (fun y => if y = Str.ofString "module" then some (.ref aM) else if y = Str.ofString "func" then some (.ref aF) else u y)) (N : News g l s.heap Λ)
    (hM : ModK (inL Λ) aM) (hF : FuncK (inL Λ) 45 aF k tk loc bod) (hk0 : 0 ≤ k) (hk4 : k < 4)
    (h : ∀ h' tk' aR tp (o : Obj), Fr g l h' (fun y => if y = Str.ofString "read" then some (.ref aR) else if y = Str.ofString "params" then some (.int k tp) else if y = Str.ofString "module" then some (.ref aM) else if y = Str.ofString "func" then some (.ref aF) else u y) → News g l h' ((aR, o) :: Λ) →
      o.IsDictOf (intKind PROG w) [] → (aR == sysModules) = false → (∀ p ∈ Λ, p.1 < aR) → wpAny (model PROG w) (WA L fa cdv l) (execs rest (wenv l)) Q E { s with heap := h', toks := tk' }) :
    wpAny (model PROG w) (WA L fa cdv l) (execs (wlSt 0 :: wlSt 1 :: rest) (wenv l)) Q E s := by
  w_top off
  delta PROG WA LA lenv wenv
  revert KX; k_fill; intro KX
  have kMk := kdMark
  obtain ⟨d, es, nD, aK, nK, ts, hm1, hm2, hm3, hm4, hm5, hm6⟩ := hM
  obtain ⟨dF, esF, nF, hf1, hf2, hf3, hf4, hf5, hf6⟩ := hF
  change (_, _) ∈ Λ at hm1 hm2 hm4 hf1 hf2
  conv in (wlSt 0) => whnf
  conv in (wlSt 1) => whnf
  conv in (occs := *) lawScope => all_goals whnf
  conv in (occs := *) wlScope => all_goals whnf
  k_steps
  have hlt : k.toNat < ts.length := by omega
  obtain ⟨p, q, pi, ⟨a1, n1, e1, m1⟩, ⟨a2, n2, rfl, m2⟩, hl⟩ := hm6 _ _ (List.getElem?_eq_getElem hlt)
  change (_, _) ∈ Λ at m1 m2
  refine item_at (N _ hm4).1 hk0 (by omega) (List.getElem?_eq_getElem hlt) ?_
  rw [e1]
  k_steps
  refine len_ledT N m2 (by omega) ?_
  have el : ((pi.length : Nat) : Int) = k := by omega
  rw [el]
  k_steps
  exact h _ _ _ _ _ (by assumption) (by assumption) (by assumption) (by assumption) (by assumption)
end Mine
-- part C4
set_option maxHeartbeats 8000000
namespace Mine
section
variable {prog : Program} {w : World} {A : Around} {E : Value → Shared → Prop} {s : Shared}
theorem item_ledT {base : Heap} {L : Addr} {value slice : Expr} {a : Addr} {its : List Value} {n : Nat} {k : Int} {u : Tok} {x : Value} {Q : Value → Shared → Prop} {led : Led} (N : News base L s.heap led) (hm : (a, ({ cls := .type "tuple", data := .seq its.toArray n } : Obj)) ∈ led) (hz : its.length < 1000) (h0 : 0 ≤ k) (hx : its[k.toNat]? = some x) (h : Q x s)
    (hs : subscripted slice false (.ref a) (.int k u) = operate [.ref a, .int k u] (getItem (.ref a) (.int k u)) := by with_unfolding_all rfl) :
    wpAny (model prog w) A (subscriptTail value slice (.ref a) (.int k u)) Q E s := by
  have hk : k.toNat < its.length := (List.getElem?_eq_some_iff.mp hx).1
  exact item_tupleT (j := k.toNat) ⟨_, (N _ hm).1, rfl, n, rfl⟩ (by omega) (by omega) (by simp [seqIndex?]; omega) hx h hs
end
theorem map_of_upd {d : Addr} {o o' : Obj} {l l' : Led} (U : Upd d o o' l l') : l'.map (·.1) = l.map (·.1) := by
  induction U with
  | head _ => rfl
  | tail _ _ ih => simp only [List.map_cons, ih]
section
variable {K : Type} [DecidableEq K]
theorem valueAt_nil (k : K) : valueAt ([] : List (K × Value)) k = none := rfl
theorem valueAt_append (l r : List (K × Value)) (k : K) : valueAt (l ++ r) k = (valueAt l k).or (valueAt r k) := by
  simp only [valueAt, List.find?_append]
  cases List.find? (fun kv => decide (kv.1 = k)) l <;> simp
theorem valueAt_none_of {l : List (K × Value)} {k : K} (h : l.any (fun kv => decide (kv.1 = k)) = false) : valueAt l k = none := by
  have : l.find? (fun kv => decide (kv.1 = k)) = none := by
    rw [List.find?_eq_none]
    intro x hx hq
    rw [List.any_eq_false] at h
    exact h x hx hq
  simp only [valueAt, this, Option.map_none]
theorem valueAt_some_of {l : List (K × Value)} {k : K} (h : l.any (fun kv => decide (kv.1 = k)) = true) : (valueAt l k).isSome = true := by
  obtain ⟨x, hx, hq⟩ := List.any_eq_true.mp h
  simp only [valueAt, Option.isSome_map]
  exact List.find?_isSome.mpr ⟨x, hx, hq⟩
theorem valueAt_map {l : List (K × Value)} {k x : K} {v : Value} : valueAt (l.map fun kv => if kv.1 = k then (kv.1, v) else kv) x = if x = k then (valueAt l x).map (fun _ => v) else valueAt l x := by
  induction l with
  | nil => by_cases hx : x = k <;> simp [valueAt, hx]
  | cons p r ih =>
    simp only [valueAt, List.map_cons, List.find?_cons] at ih ⊢
    by_cases hp : p.1 = k
    · rw [if_pos hp]
      by_cases hx : x = k
      · have : decide (p.1 = x) = true := decide_eq_true (hp.trans hx.symm)
        simp only [this, if_pos hx]; rfl
      · have : decide (p.1 = x) = false := decide_eq_false fun e => hx (e.symm.trans hp)
        simp only [this]; exact ih
    · rw [if_neg hp]
      by_cases hq : p.1 = x
      · have hx : ¬ x = k := fun e => hp (hq.trans e)
        simp only [decide_eq_true hq, if_neg hx]
      · simp only [decide_eq_false hq]; exact ih
theorem valueAt_stored {l : List (K × Value)} {k x : K} {v : Value} : valueAt (stored l k v) x = if x = k then some v else valueAt l x := by
  unfold stored
  by_cases h : l.any (fun kv => decide (kv.1 = k)) = true
  · rw [if_pos h, valueAt_map]
    by_cases hx : x = k
    · have := valueAt_some_of h
      rw [if_pos hx, if_pos hx, hx]
      cases hq : valueAt l k with
      | none => rw [hq] at this; cases this
      | some y => rfl
    · rw [if_neg hx, if_neg hx]
  · rw [if_neg h, valueAt_append]
    by_cases hx : x = k
    · rw [hx, valueAt_none_of (Bool.eq_false_iff.mpr h), if_pos rfl]
      simp [valueAt]
    · rw [if_neg hx]
      have : valueAt [(k, v)] x = none := by
        have : decide (k = x) = false := decide_eq_false fun e => hx e.symm
        simp [valueAt, this]
      rw [this]; cases valueAt l x <;> rfl
end
def rds : List (List Int) → List Int
  | [] => []
  | b :: r => (if b[0]? = some 32 then [b[1]?.getD 0] else []) ++ rds r
theorem rds_append (l r : List (List Int)) : rds (l ++ r) = rds l ++ rds r := by
  induction l with
  | nil => rfl
  | cons b l ih => simp only [List.cons_append, rds, ih, List.append_assoc]
theorem BodyK.get {P : Kn} {vs : List Value} {bs : List (List Int)} (h : BodyK P vs bs) : ∀ {i : Nat} {v : Value}, vs[i]? = some v → ∃ b, bs[i]? = some b ∧ InsK P v b := by
  induction h with
  | nil => intro i v e; simp at e
  | cons h _ ih =>
    intro i v e
    cases i with
    | zero => exact ⟨_, rfl, by simpa using (Option.some.inj e) ▸ h⟩
    | succ i => exact ih (by simpa using e)
theorem ins_cases {P : Kn} {v : Value} {b : List Int} {many : Int} (hi : InsK P v b) (hk : OkI many b) : ∃ a n op t its', v = .ref a ∧ P a { cls := .type "tuple", data := .seq (Value.int op t :: its').toArray n } ∧ its'.length ≤ 2 ∧ IntsAre (Value.int op t :: its') b ∧
    ((∃ j t', its' = [.int j t'] ∧ b = [op, j] ∧ (op = 32 ∨ op = 33 ∨ op = 34) ∧ 0 ≤ j ∧ j < many) ∨ (op ≠ 32 ∧ op ≠ 33 ∧ op ≠ 34 ∧ ∃ r, b = op :: r)) := by
  obtain ⟨its, ⟨a, n, e, hp⟩, hb⟩ := hi
  rcases hk with ⟨op, j, rfl, ho, h0, h1⟩ | ⟨op, r, rfl, h1, h2, h3, hr⟩
  · cases hb with
    | cons _ t hb =>
      cases hb with
      | cons _ t' hb =>
        cases hb
        exact ⟨a, n, op, t, _, e, hp, by simp, .cons _ _ (.cons _ _ .nil), .inl ⟨j, t', rfl, rfl, ho, h0, h1⟩⟩
  · cases hb with
    | cons _ t hb =>
      exact ⟨a, n, op, t, _, e, hp, by rw [hb.length]; exact hr, .cons _ _ hb, .inr ⟨h1, h2, h3, r, rfl⟩⟩
theorem rds_take {Bs : List (List Int)} {i : Nat} {b : List Int} (h : Bs[i]? = some b) : rds (Bs.take (i + 1)) = rds (Bs.take i) ++ rds [b] := by
  rw [List.take_add_one, h, rds_append]; rfl
end Mine
-- part W2
set_option maxHeartbeats 4000000
namespace Mine
local macro_rules | `(tactic| k_get) => `(tactic| with_reducible assumption)
local macro_rules | `(tactic| walk_at "subscriptTail") => `(tactic| (k_here; (with_reducible show wpAny _ _ (subscriptTail _ _ (Value.ref _) (Value.int _ _)) _ _ _); (with_unfolding_all refine' item_ledT ?k1 ?k2 ?k3 ?k4 ?k5 ?_ ?k6; (case k1 => k_asm); (case k2 => first | k_memK | k_ownIn); (case k3 => first | omega | (simp only [List.length_cons, List.length_nil]; omega)); (case k4 => first | decide | omega); (case k5 => rfl); (case k6 => with_unfolding_all rfl); k_whole)))
theorem w_s2 {w : World} {base g : Heap} {L fa l : Addr} {cdv : Value} {mg mb u : Str → Option Value} {means : ExcName → Option Value} {s : Shared} {E : Value → Shared → Prop} {Q : Flow → Shared → Prop} {aF aR aL : Addr} {o : Obj} {Λ : Led} {k many : Int} {tk : Tok} {loc : Value} {vsB : List Value} {Bs : List (List Int)} {nB : Nat} {rest : List Stmt}
    (KX : (hd.heap_39 w.params).In g) (T : Top hd.view_39 (looseW hd.view_39 []) means mg mb g) (B : Below (LA L fa cdv) base [lenv L fa cdv] g)
    (F : Fr g l s.heap (fun y => if y = Str.ofString "read" then some (.ref aR) else if y = Str.ofString "func" then some (.ref aF) else u y)) (N : News g l s.heap ((aR, o) :: Λ))
    (hd0 : o.IsDictOf (intKind PROG w) []) (hlo : (aR == sysModules) = false) (hoff : OwnOff Λ [aR])
    (hF : FuncK (inL Λ) 45 aF k tk loc (.ref aL)) (hL : (aL, listOf vsB.toArray nB) ∈ Λ) (hB : BodyK (inL Λ) vsB Bs) (hBl : vsB.length ≤ 31) (hOk : ∀ b ∈ Bs, OkI many b)
    (h : ∀ h' tk' (o' : Obj) kvs u', (∀ y, y ≠ Str.ofString "plain" → u' y = if y = Str.ofString "read" then some (.ref aR) else if y = Str.ofString "func" then some (.ref aF) else u y) → Fr g l h' u' → News g l h' ((aR, o') :: Λ) → o'.IsDictOf (intKind PROG w) kvs → kvs.length ≤ 31 → (∀ j, (valueAt kvs j).isSome = decide (j ∈ rds Bs)) →
      wpAny (model PROG w) (WA L fa cdv l) (execs rest (wenv l)) Q E { s with heap := h', toks := tk' })
    (hE : PassesOwn (model PROG w) (WA L fa cdv l) (wenv l) E) :
    wpAny (model PROG w) (WA L fa cdv l) (execs (wlSt 2 :: rest) (wenv l)) Q E s := by
  w_top off
  delta PROG WA LA lenv wenv
  delta PROG WA LA lenv wenv at hE
  revert KX; k_fill; intro KX
  have kMk := kdMark
  obtain ⟨dF, esF, nF, hf1, hf2, hf3, hf4, hf5, hf6⟩ := hF
  change (_, _) ∈ Λ at hf1 hf2
  conv in (wlSt 2) => whnf
  conv in (occs := *) lawScope => all_goals whnf
  conv in (occs := *) wlScope => all_goals whnf
  k_steps
  rename Fr _ _ _ _ => F0
  refine kdl_iter (fun i m nx => ∃ o1 kvs, nx = (aR, o1) :: Λ ∧ o1.IsDictOf (intKind PROG w) kvs ∧ kvs.length ≤ i ∧ (∀ j, (valueAt kvs j).isSome = decide (j ∈ rds (Bs.take i))) ∧ (∀ y, y ≠ Str.ofString "plain" → m y = if y = Str.ofString "read" then some (.ref aR) else if y = Str.ofString "func" then some (.ref aF) else u y)) rfl (.tail _ hL) F0 N ⟨o, [], rfl, hd0, Nat.le_refl _, fun j => by simp [valueAt_nil, rds], fun _ _ => rfl⟩ ?_ ?_
  · rintro i v m1 nx h9 tk9 own hv hso hlm ⟨o1, kvs, rfl, hd1, hlen, hrd, hm1⟩ F1 N1
    clear F0 N hd0
    obtain ⟨b, hb, hbv⟩ := hB.get hv
    have hilt : i < vsB.length := (List.getElem?_eq_some_iff.mp hv).1
    obtain ⟨a, n, op, t, its', rfl, hp, hil, hint, hcase⟩ := ins_cases hbv (hOk b (List.mem_of_getElem? hb))
    change (_, _) ∈ Λ at hp
    have e1 : m1 (Str.ofString "read") = some (.ref aR) := by rw [hm1 _ (by decide), if_pos rfl]
    have F2 := fr_re (x := Str.ofString "read") (v := .ref aR) F1 (by show (if Str.ofString "read" = Str.ofString "plain" then _ else _) = _; rw [if_neg (by decide)]; exact e1)
    clear F1
    change News _ _ _ ((aR, o1) :: (Λ ++ own)) at N1
    generalize hΩ : Λ ++ own = Ω at N1
    have hp' : (a, ({ cls := .type "tuple", data := .seq (Value.int op t :: its').toArray n } : Obj)) ∈ Ω := hΩ ▸ List.mem_append_left _ hp
    have hoΩ : ∀ p ∈ Ω, p.1 ≠ aR := by
      intro p hp
      rw [← hΩ] at hp
      rcases List.mem_append.mp hp with hp | hp
      · exact hoff p hp aR (.head _)
      · exact hso p hp aR (.head _)
    have fin : ∀ (o2 : Obj) kvs2 h' tk', o2.IsDictOf (intKind PROG w) kvs2 → kvs2.length ≤ i + 1 → (∀ j, (valueAt kvs2 j).isSome = decide (j ∈ rds (Bs.take (i + 1)))) → Fr g l h' (fun y => if y = Str.ofString "read" then some (.ref aR) else if y = Str.ofString "plain" then some (.ref a) else m1 y) → News g l h' ((aR, o2) :: Ω) →
        InvEndG g l (fun m' nx => (aL, listOf vsB.toArray nB) ∈ nx ∧ ∃ o1 kvs, nx = (aR, o1) :: Λ ∧ o1.IsDictOf (intKind PROG w) kvs ∧ kvs.length ≤ i + 1 ∧ (∀ j, (valueAt kvs j).isSome = decide (j ∈ rds (Bs.take (i + 1)))) ∧ (∀ y, y ≠ Str.ofString "plain" → m' y = if y = Str.ofString "read" then some (.ref aR) else if y = Str.ofString "func" then some (.ref aF) else u y)) own { s with heap := h9, toks := tk9 } { s with heap := h', toks := tk' } := by
      intro o2 kvs2 h' tk' a1 a2 a3 F3 N3
      refine InvEndG.intro F3 N3 (nx := (aR, o2) :: Λ) ⟨.tail _ hL, o2, kvs2, rfl, a1, a2, a3, ?_⟩ (by simpa using hso) ?_ ?_
      · intro y hy
        have := hm1 y hy
        by_cases hq : y = Str.ofString "read"
        · simp [hq]
        · simp only [if_neg hq, if_neg hy] at this ⊢; exact this
      · intro p hp
        rcases List.mem_cons.mp hp with rfl | hp
        · exact .head _
        · exact .tail _ (hΩ ▸ List.mem_append_left _ hp)
      · intro p hp
        exact .tail _ (hΩ ▸ List.mem_append_right _ hp)
    rcases hcase with ⟨j, t', rfl, rfl, ho, h0, h1⟩ | ⟨h1, h2, h3, r, rfl⟩
    · k_steps
      · rename_i hop
        refine kda_set (knd := intKind _ _) F2 N1 (.head hoΩ) hd1 (intKind_is _ _ _ _) (by rw [sizeLine_eq]; omega) ?_
        intro h7 o7 F7 N7 d7
        k_steps
        refine fin o7 _ _ _ d7 (Nat.le_trans (stored_length_le _ _ _) (by omega)) ?_ F7 N7
        intro x
        rw [valueAt_stored, rds_take hb, hop]
        by_cases hx : x = j
        · simp [hx, rds]
        · simp [hx, rds, hrd x]
      · rename_i hop
        refine fin o1 kvs _ _ hd1 (by omega) ?_ F2 N1
        intro x
        rw [rds_take hb, hrd x]
        simp [rds, hop]
    · k_steps
      · exact absurd (by assumption) h1
      · refine fin o1 kvs _ _ hd1 (by omega) ?_ F2 N1
        intro x
        rw [rds_take hb, hrd x]
        simp [rds, h1]
  · rintro m1 nx h9 tk9 ⟨o1, kvs, rfl, hd1, hlen, hrd, hm1⟩ F9 N9
    rw [hB.length, List.take_length] at hrd
    exact h _ _ _ _ _ hm1 F9 N9 hd1 (by omega) hrd
end Mine
local macro_rules | `(tactic| walk_at "idle") => `(tactic| fail "idle")
local macro_rules | `(tactic| walk_at "idle") => `(tactic| fail "idle")
-- part C5
set_option maxHeartbeats 8000000
namespace Mine
def plN (p : Nat) (R : List Int) (i : Nat) : Nat := ((List.range i).filter fun n => decide (n < p ∨ (n : Int) ∈ R)).length
def keptL (p : Nat) (R : List Int) (ks : List Int) (m : Nat) : List Int := ((List.range m).filter fun a => decide (((p + a : Nat) : Int) ∈ R)).map fun a => ks.getD a 0
theorem plN_zero {p : Nat} {R : List Int} : plN p R 0 = 0 := rfl
theorem plN_succ {p : Nat} {R : List Int} {i : Nat} : plN p R (i + 1) = plN p R i + if i < p ∨ (i : Int) ∈ R then 1 else 0 := by
  unfold plN
  rw [List.range_succ, List.filter_append, List.length_append]
  by_cases h : i < p ∨ (i : Int) ∈ R
  · rw [if_pos h]; simp [h]
  · rw [if_neg h]; simp [h]
theorem plN_le {p : Nat} {R : List Int} : ∀ {i : Nat}, i ≤ p → plN p R i = i
  | 0, _ => rfl
  | i + 1, h => by rw [plN_succ, plN_le (by omega), if_pos (.inl (by omega))]
theorem keptL_zero {p : Nat} {R ks : List Int} : keptL p R ks 0 = [] := rfl
theorem keptL_succ {p : Nat} {R ks : List Int} {m : Nat} : keptL p R ks (m + 1) = keptL p R ks m ++ if ((p + m : Nat) : Int) ∈ R then [ks.getD m 0] else [] := by
  unfold keptL
  rw [List.range_succ, List.filter_append, List.map_append]
  by_cases h : ((p + m : Nat) : Int) ∈ R
  · rw [if_pos h]; simp only [List.filter_cons, h, decide_true, if_true, List.filter_nil, List.map_cons, List.map_nil]
  · rw [if_neg h]; simp only [List.filter_cons, h, decide_false, Bool.false_eq_true, if_false, List.filter_nil, List.map_nil]
theorem plN_ge {p : Nat} {R ks : List Int} : ∀ {m : Nat}, plN p R (p + m) = p + (keptL p R ks m).length
  | 0 => by rw [Nat.add_zero, plN_le (Nat.le_refl _), keptL_zero]; rfl
  | m + 1 => by
    rw [← Nat.add_assoc, plN_succ, plN_ge (ks := ks), keptL_succ, List.length_append]
    by_cases h : ((p + m : Nat) : Int) ∈ R
    · rw [if_pos (.inr h), if_pos h]; simp only [List.length_cons, List.length_nil]; omega
    · rw [if_neg (by rintro (h' | h'); omega; exact h h'), if_neg h]; simp
theorem keptL_len {p : Nat} {R ks : List Int} : ∀ {m : Nat}, (keptL p R ks m).length ≤ m
  | 0 => by rw [keptL_zero]; exact Nat.le_refl _
  | m + 1 => by
    have := keptL_len (p := p) (R := R) (ks := ks) (m := m)
    rw [keptL_succ, List.length_append]
    by_cases h : ((p + m : Nat) : Int) ∈ R
    · rw [if_pos h]; simp only [List.length_cons, List.length_nil]; omega
    · rw [if_neg h]; simp only [List.length_nil]; omega
theorem keptL_in {p : Nat} {R ks : List Int} {i : Nat} (hi : p ≤ i) (h : (i : Int) ∈ R) : keptL p R ks (i + 1 - p) = keptL p R ks (i - p) ++ [ks.getD (i - p) 0] := by
  have e : i + 1 - p = (i - p) + 1 := by omega
  have e2 : p + (i - p) = i := by omega
  rw [e, keptL_succ, e2, if_pos h]
theorem keptL_out {p : Nat} {R ks : List Int} {i : Nat} (h : ¬ (i : Int) ∈ R) : keptL p R ks (i + 1 - p) = keptL p R ks (i - p) := by
  by_cases hi : p ≤ i
  · have e : i + 1 - p = (i - p) + 1 := by omega
    have e2 : p + (i - p) = i := by omega
    rw [e, keptL_succ, e2, if_neg h, List.append_nil]
  · rw [show i + 1 - p = 0 by omega, show i - p = 0 by omega]
theorem keptL_low {p : Nat} {R ks : List Int} {i : Nat} (h : i < p) : keptL p R ks (i + 1 - p) = keptL p R ks (i - p) := by
  rw [show i + 1 - p = 0 by omega, show i - p = 0 by omega]
theorem rangeKs_at {n i : Nat} {k : Int} (h : (rangeKs 0 n)[i]? = some k) : k = (i : Int) ∧ i < n := by
  have hi : i < n := by have := (List.getElem?_eq_some_iff.mp h).1; rwa [rangeKs_length] at this
  refine ⟨?_, hi⟩
  have : (rangeKs 0 n)[i]? = some (0 + (i : Int)) := by simp [rangeKs, hi]
  rw [this] at h
  have := Option.some.inj h
  omega
def nb1 (p : Nat) (R : List Int) (b : List Int) : List (List Int) :=
  if b[0]?.getD 0 = 32 ∨ b[0]?.getD 0 = 33 ∨ b[0]?.getD 0 = 34 then (if b[1]?.getD 0 ∈ R then [[b[0]?.getD 0, (plN p R (b[1]?.getD 0).toNat : Int)]] else if b[0]?.getD 0 = 33 then [[26]] else []) else [b]
def nb (p : Nat) (R : List Int) (bs : List (List Int)) : List (List Int) := bs.flatMap (nb1 p R)
theorem nb_take {p : Nat} {R : List Int} {Bs : List (List Int)} {i : Nat} {b : List Int} (h : Bs[i]? = some b) : nb p R (Bs.take (i + 1)) = nb p R (Bs.take i) ++ nb1 p R b := by
  unfold nb
  rw [List.take_add_one, h, List.flatMap_append]
  simp
theorem rds_mem {Bs : List (List Int)} {j : Int} {r : List Int} (h : (32 :: j :: r) ∈ Bs) : j ∈ rds Bs := by
  induction Bs with
  | nil => cases h
  | cons b l ih =>
    rcases List.mem_cons.mp h with rfl | h
    · simp [rds]
    · exact List.mem_append_right _ (ih h)
theorem rds_bound {Bs : List (List Int)} {many : Int} (h : ∀ b ∈ Bs, OkI many b) : ∀ j ∈ rds Bs, 0 ≤ j ∧ j < many := by
  induction Bs with
  | nil => intro j hj; cases hj
  | cons b l ih =>
    intro j hj
    rcases List.mem_append.mp hj with hj | hj
    · rcases h b (.head _) with ⟨op, k, rfl, ho, h0, h1⟩ | ⟨op, r, rfl, h1, _⟩
      · by_cases he : op = 32
        · subst he
          simp at hj
          subst hj
          exact ⟨h0, h1⟩
        · simp [he] at hj
      · simp [h1] at hj
    · exact ih (fun b hb => h b (.tail _ hb)) j hj
theorem fr_swap {b h : Heap} {L : Addr} {x : Str} {v : Option Value} {m1 M : Str → Option Value} (e : ∀ y, y ≠ x → m1 y = M y) (F : Fr b L h (fun y => if y = x then v else m1 y)) : Fr b L h (fun y => if y = x then v else M y) := by
  have : (fun y => if y = x then v else M y) = (fun y => if y = x then v else m1 y) := by
    funext y
    by_cases hy : y = x
    · rw [if_pos hy, if_pos hy]
    · rw [if_neg hy, if_neg hy, e y hy]
  rw [this]; exact F
theorem fr_out {b h : Heap} {L : Addr} {x : Str} {m1 M : Str → Option Value} (e : ∀ y, y ≠ x → m1 y = M y) (F : Fr b L h m1) : Fr b L h (fun y => if y = x then m1 x else M y) := by
  have : (fun y => if y = x then m1 x else M y) = m1 := by
    funext y
    by_cases hy : y = x
    · rw [if_pos hy, hy]
    · rw [if_neg hy, e y hy]
  rw [this]; exact F
end Mine
-- part W4
set_option maxHeartbeats 4000000
namespace Mine
local macro_rules | `(tactic| k_get) => `(tactic| with_reducible assumption)
theorem w_s3 {w : World} {base g : Heap} {L fa l : Addr} {cdv : Value} {mg mb u : Str → Option Value} {means : ExcName → Option Value} {s : Shared} {E : Value → Shared → Prop} {Q : Flow → Shared → Prop} {Λ : Led} {rest : List Stmt}
    (KX : (hd.heap_39 w.params).In g) (T : Top hd.view_39 (looseW hd.view_39 []) means mg mb g) (B : Below (LA L fa cdv) base [lenv L fa cdv] g)
    (F : Fr g l s.heap u) (N : News g l s.heap Λ)
    (h : ∀ h' tk' aP aQ (o : Obj) nQ, Fr g l h' (fun y => if y = Str.ofString "places" then some (.ref aP) else if y = Str.ofString "kept" then some (.ref aQ) else u y) → News g l h' ((aP, o) :: (aQ, listOf ([] : List Value).toArray nQ) :: Λ) →
      o.IsDictOf (intKind PROG w) [] → (aP == sysModules) = false → (∀ p ∈ Λ, p.1 < aP) → @LT.lt Nat _ aP aQ → wpAny (model PROG w) (WA L fa cdv l) (execs rest (wenv l)) Q E { s with heap := h', toks := tk' }) :
    wpAny (model PROG w) (WA L fa cdv l) (execs (wlSt 3 :: rest) (wenv l)) Q E s := by
  w_top off
  delta PROG WA LA lenv wenv
  revert KX; k_fill; intro KX
  have kMk := kdMark
  conv in (wlSt 3) => whnf
  conv in (occs := *) lawScope => all_goals whnf
  conv in (occs := *) wlScope => all_goals whnf
  k_steps
  rename News _ _ _ _ => N9
  exact h _ _ _ _ _ _ (by assumption) (News.sub N9 (by repeat' (first | (refine List.forall_mem_cons.mpr ⟨by k_memK, ?_⟩) | (intro q9 hq9; repeat (first | exact hq9 | apply List.Mem.tail))))) (by assumption) (by assumption) (by assumption) (by omega)
section
variable {base : Heap}
theorem off_lt {Λ : Led} {a b : Addr} (h : ∀ p ∈ Λ, p.1 < a) (hb : @LT.lt Nat _ a b) : OwnOff Λ [a, b] := by
  intro p hp c hc
  have := h p hp
  simp only [List.mem_cons, List.mem_nil_iff, or_false] at hc
  show @Ne Nat p.1 c
  replace this : @LT.lt Nat _ p.1 a := this
  rcases hc with rfl | rfl <;> omega
end
local macro_rules | `(tactic| walk_at "call builtin:len") => `(tactic| (k_here; (with_reducible show wpAny _ _ (call (Value.builtin "len") [Value.ref _]) _ _ _); k_dflt (refine' len_ledT ?k1 ?k2 ?k3 ?_; (case k1 => k_asm); (case k2 => first | k_memK | k_ownIn); (case k3 => omega); k_whole)))
local macro_rules | `(tactic| walk_at "call builtin:len") => `(tactic| (k_here; (with_reducible show wpAny _ _ (call (Value.builtin "len") [Value.ref _]) _ _ _); k_dflt (refine' len_led ?k1 ?k2 ?k3 ?_; (case k1 => k_asm); (case k2 => first | k_memK | k_ownIn); (case k3 => omega); k_whole)))
local macro_rules | `(tactic| walk_at "subscriptTail") => `(tactic| (k_here; (with_reducible show wpAny _ _ (subscriptTail _ _ (Value.ref _) (Value.int _ _)) _ _ _); (with_unfolding_all refine' item_ledT ?k1 ?k2 ?k3 ?k4 ?k5 ?_ ?k6; (case k1 => k_asm); (case k2 => first | k_memK | k_ownIn); (case k3 => first | omega | (simp only [List.length_cons, List.length_nil]; omega)); (case k4 => first | decide | omega); (case k5 => rfl); (case k6 => with_unfolding_all rfl); k_whole)))
theorem w_s4 {w : World} {base g : Heap} {L fa l : Addr} {cdv : Value} {mg mb u : Str → Option Value} {means : ExcName → Option Value} {s : Shared} {E : Value → Shared → Prop} {Q : Flow → Shared → Prop} {aF aR aP aQ aK : Addr} {o oR : Obj} {nQ : Nat} {Λ : Led} {p : Nat} {k : Int} {tk tp : Tok} {bod : Value} {its : List Value} {ks R : List Int} {kvs : List (Int × Value)} {rest : List Stmt}
    (KX : (hd.heap_39 w.params).In g) (T : Top hd.view_39 (looseW hd.view_39 []) means mg mb g) (B : Below (LA L fa cdv) base [lenv L fa cdv] g)
    (F : Fr g l s.heap (fun y => if y = Str.ofString "places" then some (.ref aP) else if y = Str.ofString "kept" then some (.ref aQ) else if y = Str.ofString "read" then some (.ref aR) else if y = Str.ofString "params" then some (.int (p : Int) tp) else if y = Str.ofString "func" then some (.ref aF) else u y)) (N : News g l s.heap ((aP, o) :: (aQ, listOf ([] : List Value).toArray nQ) :: Λ))
    (hd0 : o.IsDictOf (intKind PROG w) []) (hlo : (aP == sysModules) = false) (hPQ : @LT.lt Nat _ aP aQ) (hlt : ∀ p ∈ Λ, p.1 < aP)
    (hR : (aR, oR) ∈ Λ) (hdR : oR.IsDictOf (intKind PROG w) kvs) (hloR : (aR == sysModules) = false) (hkv : ∀ j, (valueAt kvs j).isSome = decide (j ∈ R))
    (hF : FuncK (inL Λ) 45 aF k tk (.ref aK) bod) (hK : (aK, ({ cls := .type "tuple", data := .seq its.toArray } : Obj)) ∈ Λ) (hks : IntsAre its ks) (hl : its.length < 7) (hp : p < 4)
    (h : ∀ h' tk' (oP : Obj) kvP (ys : List Value) nY v, Fr g l h' (fun y => if y = Str.ofString "index" then v else if y = Str.ofString "places" then some (.ref aP) else if y = Str.ofString "kept" then some (.ref aQ) else if y = Str.ofString "read" then some (.ref aR) else if y = Str.ofString "params" then some (.int (p : Int) tp) else if y = Str.ofString "func" then some (.ref aF) else u y) →
      News g l h' ((aP, oP) :: (aQ, listOf ys.toArray nY) :: Λ) → oP.IsDictOf (intKind PROG w) kvP → (∀ j : Nat, j < p + ks.length → (j < p ∨ (j : Int) ∈ R) → ∃ t, valueAt kvP (j : Int) = some (.int (plN p R j : Int) t)) → IntsAre ys (keptL p R ks ks.length) →
      wpAny (model PROG w) (WA L fa cdv l) (execs rest (wenv l)) Q E { s with heap := h', toks := tk' })
    (hE : PassesOwn (model PROG w) (WA L fa cdv l) (wenv l) E) :
    wpAny (model PROG w) (WA L fa cdv l) (execs (wlSt 4 :: rest) (wenv l)) Q E s := by
  w_top off
  delta PROG WA LA lenv wenv
  delta PROG WA LA lenv wenv at hE
  revert KX; k_fill; intro KX
  have kMk := kdMark
  obtain ⟨dF, esF, nF, hf1, hf2, hf3, hf4, hf5, hf6⟩ := hF
  change (_, _) ∈ Λ at hf1 hf2
  conv in (wlSt 4) => whnf
  conv in (occs := *) lawScope => all_goals whnf
  conv in (occs := *) wlScope => all_goals whnf
  repeat' ((fail_if_success (with_reducible show wpAny _ _ (pyIter (Value.ref _)) _ _ _)); first | (k_unfold; (try dsimp only)) | walk1 | (dsimp only; walk1) | (leave1; (try dsimp only)) | fail "no step")
  rename IsRange _ _ _ _ _ _ _ _ => R0
  rename Fr _ _ _ _ => F0
  rename News _ _ _ _ => N0
  rename IntsAre its ks => hks
  have hlk : its.length = ks.length := hks.length
  have eN : ((p : Int) + (ks.length : Int)) = ((p + ks.length : Nat) : Int) := by omega
  rw [eN] at R0
  refine tbr_invG (n := p + ks.length) (fun i m nx => ∃ oP kvP ys nY, nx = (aP, oP) :: (aQ, listOf ys.toArray nY) :: Λ ∧ oP.IsDictOf (intKind PROG w) kvP ∧ kvP.length ≤ i ∧ (∀ j : Nat, j < i → (j < p ∨ (j : Int) ∈ R) → ∃ t, valueAt kvP (j : Int) = some (.int (plN p R j : Int) t)) ∧ IntsAre ys (keptL p R ks (i - p)) ∧
    (∀ y, y ≠ Str.ofString "index" → m y = (if y = Str.ofString "places" then some (.ref aP) else if y = Str.ofString "kept" then some (.ref aQ) else if y = Str.ofString "read" then some (.ref aR) else if y = Str.ofString "params" then some (.int (p : Int) tp) else if y = Str.ofString "func" then some (.ref aF) else u y)))
    rfl R0 (small_one (by omega) (by omega) (by omega) (by omega)) (by rw [rangeSize_nat]; omega) F0 N0 ⟨o, [], [], nQ, rfl, hd0, Nat.le_refl _, fun j hj => absurd hj (Nat.not_lt_zero _), by rw [Nat.zero_sub, keptL_zero]; exact .nil, fun _ _ => rfl⟩ ?_ ?_
  · rintro i kk t m1 nx h9 tk9 own hik hso ⟨oP, kvP, ys, nY, rfl, hdP, hlP, hvP, hys, hm1⟩ F1 N1
    obtain ⟨rfl, hin⟩ := rangeKs_at hik
    clear F0 N0 R0
    change News _ _ _ ((aP, oP) :: (aQ, listOf ys.toArray nY) :: (Λ ++ own)) at N1
    generalize hΩ : Λ ++ own = Ω at N1
    have hoΩ : OwnOff Ω [aP, aQ] := by
      intro q hq b hb
      rw [← hΩ] at hq
      rcases List.mem_append.mp hq with hq | hq
      · exact off_lt hlt hPQ q hq b hb
      · simp only [List.mem_cons, List.mem_nil_iff, or_false] at hb
        rcases hb with rfl | rfl
        · exact hso q hq _ (.head _)
        · exact hso q hq _ (.tail _ (.head _))
    have F2 := fr_swap (M := (fun y => if y = Str.ofString "places" then some (.ref aP) else if y = Str.ofString "kept" then some (.ref aQ) else if y = Str.ofString "read" then some (.ref aR) else if y = Str.ofString "params" then some (.int (p : Int) tp) else if y = Str.ofString "func" then some (.ref aF) else u y)) hm1 F1
    clear F1
    have hf1' := hΩ ▸ List.mem_append_left own hf1
    have hf2' := hΩ ▸ List.mem_append_left own hf2
    have hK' := hΩ ▸ List.mem_append_left own hK
    have hR' := hΩ ▸ List.mem_append_left own hR
    have hly : ys.length < 100 := by rw [hys.length]; have := keptL_len (p := p) (R := R) (ks := ks) (m := i - p); omega
    have fin : ∀ (o2 : Obj) kv2 (ys2 : List Value) nY2 h' tk', o2.IsDictOf (intKind PROG w) kv2 → kv2.length ≤ i + 1 → (∀ j : Nat, j < i + 1 → (j < p ∨ (j : Int) ∈ R) → ∃ t, valueAt kv2 (j : Int) = some (.int (plN p R j : Int) t)) → IntsAre ys2 (keptL p R ks (i + 1 - p)) → Fr g l h' (fun y => if y = Str.ofString "index" then some (.int (i : Int) t) else (fun y => if y = Str.ofString "places" then some (.ref aP) else if y = Str.ofString "kept" then some (.ref aQ) else if y = Str.ofString "read" then some (.ref aR) else if y = Str.ofString "params" then some (.int (p : Int) tp) else if y = Str.ofString "func" then some (.ref aF) else u y) y) → News g l h' ((aP, o2) :: (aQ, listOf ys2.toArray nY2) :: Ω) →
        TbEnd g l (fun m nx => ∃ oP kvP ys nY, nx = (aP, oP) :: (aQ, listOf ys.toArray nY) :: Λ ∧ oP.IsDictOf (intKind PROG w) kvP ∧ kvP.length ≤ i + 1 ∧ (∀ j : Nat, j < i + 1 → (j < p ∨ (j : Int) ∈ R) → ∃ t, valueAt kvP (j : Int) = some (.int (plN p R j : Int) t)) ∧ IntsAre ys (keptL p R ks (i + 1 - p)) ∧
    (∀ y, y ≠ Str.ofString "index" → m y = (fun y => if y = Str.ofString "places" then some (.ref aP) else if y = Str.ofString "kept" then some (.ref aQ) else if y = Str.ofString "read" then some (.ref aR) else if y = Str.ofString "params" then some (.int (p : Int) tp) else if y = Str.ofString "func" then some (.ref aF) else u y) y)) own { s with heap := h9, toks := tk9 } { s with heap := h', toks := tk' } := by
      intro o2 kv2 ys2 nY2 h' tk' a1 a2 a3 a4 F3 N3
      refine ⟨h', tk', _, _, (aP, o2) :: (aQ, listOf ys2.toArray nY2) :: Λ, rfl, F3, N3, ?_, ?_, ?_, o2, kv2, ys2, nY2, rfl, a1, a2, a3, a4, fun y hy => if_neg hy⟩
      · intro q hq
        rcases List.mem_cons.mp hq with rfl | hq
        · exact .head _
        · rcases List.mem_cons.mp hq with rfl | hq
          · exact .tail _ (.head _)
          · exact .tail _ (.tail _ (hΩ ▸ List.mem_append_left _ hq))
      · intro q hq
        exact .tail _ (.tail _ (hΩ ▸ List.mem_append_right _ hq))
      · intro q hq r hr
        rcases List.mem_cons.mp hr with rfl | hr
        · exact hso q hq (aP, oP) (.head _)
        · rcases List.mem_cons.mp hr with rfl | hr
          · exact hso q hq (aQ, listOf ys.toArray nY) (.tail _ (.head _))
          · exact hso q hq r (.tail _ (.tail _ hr))
    have hne : ∀ q ∈ (aQ, listOf ys.toArray nY) :: Ω, q.1 ≠ aP := by
      intro q hq
      rcases List.mem_cons.mp hq with rfl | hq
      · exact Nat.ne_of_gt hPQ
      · exact hoΩ q hq _ (.head _)
    k_steps
    · rename Fr _ _ _ _ => F3
      rename News _ _ _ _ => N3
      have hip : i < p := by omega
      refine kda_set (knd := intKind _ _) F3 N3 (.head hne) hdP (intKind_is _ _ _ _) (by rw [sizeLine_eq]; omega) ?_
      intro h7 o7 F7 N7 d7
      k_steps
      rename Fr _ _ _ _ => F8
      rename News _ _ _ _ => N8
      refine fin o7 _ ys _ _ _ d7 (Nat.le_trans (stored_length_le _ _ _) (by omega)) ?_ (by rw [keptL_low hip]; exact hys) F8 N8
      intro j hj hc
      rw [valueAt_stored]
      by_cases hx : j = i
      · subst hx
        exact ⟨_, by rw [if_pos rfl, plN_le (by omega)]⟩
      · rw [if_neg (by omega)]
        exact hvP j (by omega) hc
    · rename Fr _ _ _ _ => F3
      rename News _ _ _ _ => N3
      have hip : p ≤ i := by omega
      refine kda_in (knd := intKind _ _) N3 (.tail _ (.tail _ hR')) hdR hloR (intKind_is _ _ _ _) (decide ((i : Int) ∈ R)) (hkv _) ?_
      k_steps
      · have hiR : (i : Int) ∈ R := by assumption
        refine kda_set (knd := intKind _ _) F3 N3 (.head hne) hdP (intKind_is _ _ _ _) (by rw [sizeLine_eq]; omega) ?_
        intro h7 o7 F7 N7 d7
        (try dsimp only at N7)
        k_steps
        rename Fr _ _ _ _ => F8
        rename News _ _ _ _ => N8
        rw [List.push_toArray] at N8
        have ei : ((i : Int) - (p : Int)).toNat = i - p := by omega
        have ep : (plN p R i : Int) = (p : Int) + (ys.length : Int) := by
          have := plN_ge (p := p) (R := R) (ks := ks) (m := i - p)
          rw [show p + (i - p) = i by omega, ← hys.length] at this
          omega
        refine fin o7 _ (ys ++ [_]) _ _ _ d7 (Nat.le_trans (stored_length_le _ _ _) (by omega)) ?_ ?_ F8 N8
        · intro j hj hc
          rw [valueAt_stored]
          by_cases hx : j = i
          · subst hx
            exact ⟨_, by rw [if_pos rfl, ep]⟩
          · rw [if_neg (by omega)]
            exact hvP j (by omega) hc
        · have := ints_snoc hys (ks.getD (i - p) 0)
          rw [keptL_in hip hiR]
          simp only [ei]
          exact this _
      · have hiR : ¬ (i : Int) ∈ R := by assumption
        refine fin oP kvP ys _ _ _ hdP (by omega) ?_ (by rw [keptL_out hiR]; exact hys) F3 N3
        intro j hj hc
        by_cases hx : j = i
        · subst hx
          exact absurd hc (by rintro (h' | h'); omega; exact hiR h')
        · exact hvP j (by omega) hc
  · rintro m1 nx h9 tk9 ⟨oP, kvP, ys, nY, rfl, hdP, hlP, hvP, hys, hm1⟩ F9 N9
    have F8 := fr_out (M := (fun y => if y = Str.ofString "places" then some (.ref aP) else if y = Str.ofString "kept" then some (.ref aQ) else if y = Str.ofString "read" then some (.ref aR) else if y = Str.ofString "params" then some (.int (p : Int) tp) else if y = Str.ofString "func" then some (.ref aF) else u y)) hm1 F9
    have e : p + ks.length - p = ks.length := by omega
    rw [e] at hys
    exact h _ _ _ _ _ _ _ F8 N9 hdP hvP hys
end Mine
local macro_rules | `(tactic| walk_at "idle") => `(tactic| fail "idle")
local macro_rules | `(tactic| walk_at "idle") => `(tactic| fail "idle")
local macro_rules | `(tactic| walk_at "idle") => `(tactic| fail "idle")
local macro_rules | `(tactic| walk_at "idle") => `(tactic| fail "idle")
-- part W6
set_option maxHeartbeats 4000000
namespace Mine
local macro_rules | `(tactic| k_get) => `(tactic| with_reducible assumption)
theorem w_s5 {w : World} {base g : Heap} {L fa l : Addr} {cdv : Value} {mg mb u : Str → Option Value} {means : ExcName → Option Value} {s : Shared} {E : Value → Shared → Prop} {Q : Flow → Shared → Prop} {Λ : Led} {rest : List Stmt}
    (KX : (hd.heap_39 w.params).In g) (T : Top hd.view_39 (looseW hd.view_39 []) means mg mb g) (B : Below (LA L fa cdv) base [lenv L fa cdv] g)
    (F : Fr g l s.heap u) (N : News g l s.heap Λ)
    (h : ∀ h' tk' aN nN, Fr g l h' (fun y => if y = Str.ofString "body" then some (.ref aN) else u y) → News g l h' ((aN, listOf ([] : List Value).toArray nN) :: Λ) →
      (∀ p ∈ Λ, p.1 < aN) → wpAny (model PROG w) (WA L fa cdv l) (execs rest (wenv l)) Q E { s with heap := h', toks := tk' }) :
    wpAny (model PROG w) (WA L fa cdv l) (execs (wlSt 5 :: rest) (wenv l)) Q E s := by
  w_top off
  delta PROG WA LA lenv wenv
  revert KX; k_fill; intro KX
  have kMk := kdMark
  conv in (wlSt 5) => whnf
  conv in (occs := *) lawScope => all_goals whnf
  conv in (occs := *) wlScope => all_goals whnf
  k_steps
  exact h _ _ _ _ (by assumption) (by assumption) (by assumption)
local macro_rules | `(tactic| walk_at "subscriptTail") => `(tactic| (k_here; (with_reducible show wpAny _ _ (subscriptTail _ _ (Value.ref _) (Value.int _ _)) _ _ _); (with_unfolding_all refine' item_ledT ?k1 ?k2 ?k3 ?k4 ?k5 ?_ ?k6; (case k1 => k_asm); (case k2 => first | k_memK | k_ownIn); (case k3 => first | omega | (simp only [List.length_cons, List.length_nil]; omega)); (case k4 => first | decide | omega); (case k5 => rfl); (case k6 => with_unfolding_all rfl); k_whole)))
theorem w_s6 {w : World} {base g : Heap} {L fa l : Addr} {cdv : Value} {mg mb u : Str → Option Value} {means : ExcName → Option Value} {s : Shared} {E : Value → Shared → Prop} {Q : Flow → Shared → Prop} {aF aR aP aL aN : Addr} {oP oR : Obj} {nN nB : Nat} {Λ : Led} {p : Nat} {k many : Int} {tk : Tok} {loc : Value} {vsB : List Value} {Bs : List (List Int)} {kvs kvP : List (Int × Value)} {rest : List Stmt}
    (KX : (hd.heap_39 w.params).In g) (T : Top hd.view_39 (looseW hd.view_39 []) means mg mb g) (B : Below (LA L fa cdv) base [lenv L fa cdv] g)
    (F : Fr g l s.heap (fun y => if y = Str.ofString "body" then some (.ref aN) else if y = Str.ofString "places" then some (.ref aP) else if y = Str.ofString "read" then some (.ref aR) else if y = Str.ofString "func" then some (.ref aF) else u y)) (N : News g l s.heap ((aN, listOf ([] : List Value).toArray nN) :: Λ))
    (hoff : OwnOff Λ [aN]) (hR : (aR, oR) ∈ Λ) (hdR : oR.IsDictOf (intKind PROG w) kvs) (hloR : (aR == sysModules) = false) (hkv : ∀ j, (valueAt kvs j).isSome = decide (j ∈ rds Bs))
    (hP : (aP, oP) ∈ Λ) (hdP : oP.IsDictOf (intKind PROG w) kvP) (hvP : ∀ j : Nat, (j : Int) < many → (j < p ∨ (j : Int) ∈ rds Bs) → ∃ t, valueAt kvP (j : Int) = some (.int (plN p (rds Bs) j : Int) t))
    (hF : FuncK (inL Λ) 45 aF k tk loc (.ref aL)) (hL : (aL, listOf vsB.toArray nB) ∈ Λ) (hB : BodyK (inL Λ) vsB Bs) (hBl : vsB.length ≤ 31) (hOk : ∀ b ∈ Bs, OkI many b)
    (h : ∀ h' tk' (ys : List Value) nY (Λ1 : Led) v, Fr g l h' (fun y => if y = Str.ofString "plain" then v else (fun y => if y = Str.ofString "body" then some (.ref aN) else if y = Str.ofString "places" then some (.ref aP) else if y = Str.ofString "read" then some (.ref aR) else if y = Str.ofString "func" then some (.ref aF) else u y) y) → News g l h' ((aN, listOf ys.toArray nY) :: Λ1) → (∀ q ∈ Λ, q ∈ Λ1) → OwnOff Λ1 [aN] → BodyK (inL Λ1) ys (nb p (rds Bs) Bs) → ys.length ≤ 31 →
      wpAny (model PROG w) (WA L fa cdv l) (execs rest (wenv l)) Q E { s with heap := h', toks := tk' })
    (hE : PassesOwn (model PROG w) (WA L fa cdv l) (wenv l) E) :
    wpAny (model PROG w) (WA L fa cdv l) (execs (wlSt 6 :: rest) (wenv l)) Q E s := by
  w_top off
  delta PROG WA LA lenv wenv
  delta PROG WA LA lenv wenv at hE
  revert KX; k_fill; intro KX
  have kMk := kdMark
  obtain ⟨dF, esF, nF, hf1, hf2, hf3, hf4, hf5, hf6⟩ := hF
  change (_, _) ∈ Λ at hf1 hf2
  conv in (wlSt 6) => whnf
  conv in (occs := *) lawScope => all_goals whnf
  conv in (occs := *) wlScope => all_goals whnf
  repeat' ((fail_if_success (with_reducible show wpAny _ _ (pyIter (Value.ref _)) _ _ _)); first | (k_unfold; (try dsimp only)) | walk1 | (dsimp only; walk1) | (leave1; (try dsimp only)) | fail "no step")
  rename Fr _ _ _ _ => F0
  refine kdl_iter (fun i m nx => ∃ (ys : List Value) (nY : Nat) (Λ1 : Led), nx = (aN, listOf ys.toArray nY) :: Λ1 ∧ (∀ q ∈ Λ, q ∈ Λ1) ∧ OwnOff Λ1 [aN] ∧ BodyK (inL Λ1) ys (nb p (rds Bs) (Bs.take (i))) ∧ ys.length ≤ i ∧ (∀ y, y ≠ Str.ofString "plain" → m y = (fun y => if y = Str.ofString "body" then some (.ref aN) else if y = Str.ofString "places" then some (.ref aP) else if y = Str.ofString "read" then some (.ref aR) else if y = Str.ofString "func" then some (.ref aF) else u y) y)) rfl (.tail _ hL) F0 N ⟨[], nN, Λ, rfl, fun _ hq => hq, hoff, .nil, Nat.le_refl _, fun _ _ => rfl⟩ ?_ ?_
  · rintro i v m1 nx h9 tk9 own hv hso hlm ⟨ys, nY, Λ1, rfl, hs1, ho1, hys, hyl, hm1⟩ F1 N1
    clear F0 N
    obtain ⟨b, hb, hbv⟩ := hB.get hv
    have hilt : i < vsB.length := (List.getElem?_eq_some_iff.mp hv).1
    obtain ⟨a, n, op, t, its', rfl, hp, hil, hint, hcase⟩ := ins_cases hbv (hOk b (List.mem_of_getElem? hb))
    change (_, _) ∈ Λ at hp
    have F2 := fr_swap (M := (fun y => if y = Str.ofString "body" then some (.ref aN) else if y = Str.ofString "places" then some (.ref aP) else if y = Str.ofString "read" then some (.ref aR) else if y = Str.ofString "func" then some (.ref aF) else u y)) hm1 F1
    clear F1
    change News _ _ _ ((aN, listOf ys.toArray nY) :: (Λ1 ++ own)) at N1
    generalize hΩ : Λ1 ++ own = Ω at N1
    have hsΩ : ∀ q ∈ Λ, q ∈ Ω := fun q hq => hΩ ▸ List.mem_append_left _ (hs1 q hq)
    have hp' := hsΩ _ hp
    have hR' := hsΩ _ hR
    have hP' := hsΩ _ hP
    have hoΩ : OwnOff Ω [aN] := by
      intro q hq c hc
      rw [← hΩ] at hq
      rcases List.mem_append.mp hq with hq | hq
      · exact ho1 q hq c hc
      · rw [List.mem_singleton.mp hc]; exact hso q hq aN (.head _)
    have fin : ∀ (ys2 : List Value) nY2 (Λ2 led : Led) h' tk' v2, (∀ q ∈ Λ1, q ∈ Λ2) → OwnOff Λ2 [aN] → BodyK (inL Λ2) ys2 (nb p (rds Bs) (Bs.take (i + 1))) → ys2.length ≤ i + 1 → (∀ q ∈ own, ∀ r ∈ Λ2, q.1 ≠ r.1) → (∀ q ∈ Λ2, q ∈ led) → (∀ q ∈ Ω, q ∈ led) → (aN, listOf ys2.toArray nY2) ∈ led → Fr g l h' (fun y => if y = Str.ofString "plain" then v2 else (fun y => if y = Str.ofString "body" then some (.ref aN) else if y = Str.ofString "places" then some (.ref aP) else if y = Str.ofString "read" then some (.ref aR) else if y = Str.ofString "func" then some (.ref aF) else u y) y) → News g l h' led →
        InvEndG g l (fun m nx => (aL, listOf vsB.toArray nB) ∈ nx ∧ ∃ (ys : List Value) (nY : Nat) (Λ1 : Led), nx = (aN, listOf ys.toArray nY) :: Λ1 ∧ (∀ q ∈ Λ, q ∈ Λ1) ∧ OwnOff Λ1 [aN] ∧ BodyK (inL Λ1) ys (nb p (rds Bs) (Bs.take (i + 1))) ∧ ys.length ≤ i + 1 ∧ (∀ y, y ≠ Str.ofString "plain" → m y = (fun y => if y = Str.ofString "body" then some (.ref aN) else if y = Str.ofString "places" then some (.ref aP) else if y = Str.ofString "read" then some (.ref aR) else if y = Str.ofString "func" then some (.ref aF) else u y) y)) own { s with heap := h9, toks := tk9 } { s with heap := h', toks := tk' } := by
      intro ys2 nY2 Λ2 led h' tk' v2 a1 a2 a3 a4 a5 a6 a7 a8 F3 N3
      refine InvEndG.intro F3 N3 (nx := (aN, listOf ys2.toArray nY2) :: Λ2) ⟨.tail _ (a1 _ (hs1 _ hL)), ys2, nY2, Λ2, rfl, fun q hq => a1 q (hs1 q hq), a2, a3, a4, fun y hy => if_neg hy⟩ ?_ ?_ ?_
      · intro q hq c hc
        obtain ⟨r, hr, rfl⟩ := List.mem_map.mp hc
        rcases List.mem_cons.mp hr with rfl | hr
        · exact hso q hq aN (.head _)
        · exact a5 q hq r hr
      · intro q hq
        rcases List.mem_cons.mp hq with rfl | hq
        · exact a8
        · exact a6 q hq
      · intro q hq
        exact a7 q (hΩ ▸ List.mem_append_right _ hq)
    have hoΛ : ∀ q ∈ own, ∀ r ∈ Λ1, q.1 ≠ r.1 := fun q hq r hr => hso q hq r.1 (List.mem_map.mpr ⟨r, .tail _ hr, rfl⟩)
    have fin1 : ∀ (D : Addr) (its2 : List Value) nD (b' : List Int) nY2 (led : Led) h' tk' v2, AllLt D Ω → @Ne Nat D aN → IntsAre its2 b' → nb1 p (rds Bs) b = [b'] → (D, ({ cls := .type "tuple", data := .seq its2.toArray nD } : Obj)) ∈ led → (∀ q ∈ Ω, q ∈ led) → (aN, listOf (ys ++ [Value.ref D]).toArray nY2) ∈ led → Fr g l h' (fun y => if y = Str.ofString "plain" then v2 else (fun y => if y = Str.ofString "body" then some (.ref aN) else if y = Str.ofString "places" then some (.ref aP) else if y = Str.ofString "read" then some (.ref aR) else if y = Str.ofString "func" then some (.ref aF) else u y) y) → News g l h' led → InvEndG g l (fun m nx => (aL, listOf vsB.toArray nB) ∈ nx ∧ ∃ (ys : List Value) (nY : Nat) (Λ1 : Led), nx = (aN, listOf ys.toArray nY) :: Λ1 ∧ (∀ q ∈ Λ, q ∈ Λ1) ∧ OwnOff Λ1 [aN] ∧ BodyK (inL Λ1) ys (nb p (rds Bs) (Bs.take (i + 1))) ∧ ys.length ≤ i + 1 ∧ (∀ y, y ≠ Str.ofString "plain" → m y = (fun y => if y = Str.ofString "body" then some (.ref aN) else if y = Str.ofString "places" then some (.ref aP) else if y = Str.ofString "read" then some (.ref aR) else if y = Str.ofString "func" then some (.ref aF) else u y) y)) own { s with heap := h9, toks := tk9 } { s with heap := h', toks := tk' } := by
      intro D its2 nD b' nY2 led h' tk' v2 c1 c2 c3 c4 c5 c6 c7 F3 N3
      refine fin (ys ++ [.ref D]) nY2 ((D, ({ cls := .type "tuple", data := .seq its2.toArray nD } : Obj)) :: Λ1) led h' tk' v2 (fun q hq => .tail _ hq) (own_cons (far_cons c2 far_nil) ho1) ?_ ?_ ?_ ?_ c6 c7 F3 N3
      · rw [nb_take hb, c4]
        exact BodyK.append (hys.mono fun _ _ hq => .tail _ hq) (.cons ⟨its2, ⟨D, nD, rfl, .head _⟩, c3⟩ .nil)
      · rw [List.length_append]; simp only [List.length_cons, List.length_nil]; omega
      · intro q hq r hr
        rcases List.mem_cons.mp hr with rfl | hr
        · exact Nat.ne_of_lt (allLt_mem c1 q (hΩ ▸ List.mem_append_right _ hq))
        · exact hoΛ q hq r hr
      · intro q hq
        rcases List.mem_cons.mp hq with rfl | hq
        · exact c5
        · exact c6 q (hΩ ▸ List.mem_append_left _ hq)
    have fin2 : ∀ nY2 (led : Led) h' tk' v2, nb1 p (rds Bs) b = [b] → (∀ q ∈ Ω, q ∈ led) → (aN, listOf (ys ++ [Value.ref a]).toArray nY2) ∈ led → Fr g l h' (fun y => if y = Str.ofString "plain" then v2 else (fun y => if y = Str.ofString "body" then some (.ref aN) else if y = Str.ofString "places" then some (.ref aP) else if y = Str.ofString "read" then some (.ref aR) else if y = Str.ofString "func" then some (.ref aF) else u y) y) → News g l h' led → InvEndG g l (fun m nx => (aL, listOf vsB.toArray nB) ∈ nx ∧ ∃ (ys : List Value) (nY : Nat) (Λ1 : Led), nx = (aN, listOf ys.toArray nY) :: Λ1 ∧ (∀ q ∈ Λ, q ∈ Λ1) ∧ OwnOff Λ1 [aN] ∧ BodyK (inL Λ1) ys (nb p (rds Bs) (Bs.take (i + 1))) ∧ ys.length ≤ i + 1 ∧ (∀ y, y ≠ Str.ofString "plain" → m y = (fun y => if y = Str.ofString "body" then some (.ref aN) else if y = Str.ofString "places" then some (.ref aP) else if y = Str.ofString "read" then some (.ref aR) else if y = Str.ofString "func" then some (.ref aF) else u y) y)) own { s with heap := h9, toks := tk9 } { s with heap := h', toks := tk' } := by
      intro nY2 led h' tk' v2 c4 c6 c7 F3 N3
      refine fin (ys ++ [.ref a]) nY2 Λ1 led h' tk' v2 (fun q hq => hq) ho1 ?_ ?_ hoΛ (fun q hq => c6 q (hΩ ▸ List.mem_append_left _ hq)) c6 c7 F3 N3
      · rw [nb_take hb, c4]
        exact BodyK.append hys (.cons (hbv.mono fun _ _ hq => hs1 _ hq) .nil)
      · rw [List.length_append]; simp only [List.length_cons, List.length_nil]; omega
    have fin3 : ∀ nY2 (led : Led) h' tk' v2, nb1 p (rds Bs) b = [] → (∀ q ∈ Ω, q ∈ led) → (aN, listOf ys.toArray nY2) ∈ led → Fr g l h' (fun y => if y = Str.ofString "plain" then v2 else (fun y => if y = Str.ofString "body" then some (.ref aN) else if y = Str.ofString "places" then some (.ref aP) else if y = Str.ofString "read" then some (.ref aR) else if y = Str.ofString "func" then some (.ref aF) else u y) y) → News g l h' led → InvEndG g l (fun m nx => (aL, listOf vsB.toArray nB) ∈ nx ∧ ∃ (ys : List Value) (nY : Nat) (Λ1 : Led), nx = (aN, listOf ys.toArray nY) :: Λ1 ∧ (∀ q ∈ Λ, q ∈ Λ1) ∧ OwnOff Λ1 [aN] ∧ BodyK (inL Λ1) ys (nb p (rds Bs) (Bs.take (i + 1))) ∧ ys.length ≤ i + 1 ∧ (∀ y, y ≠ Str.ofString "plain" → m y = (fun y => if y = Str.ofString "body" then some (.ref aN) else if y = Str.ofString "places" then some (.ref aP) else if y = Str.ofString "read" then some (.ref aR) else if y = Str.ofString "func" then some (.ref aF) else u y) y)) own { s with heap := h9, toks := tk9 } { s with heap := h', toks := tk' } := by
      intro nY2 led h' tk' v2 c4 c6 c7 F3 N3
      refine fin ys nY2 Λ1 led h' tk' v2 (fun q hq => hq) ho1 ?_ (by omega) hoΛ (fun q hq => c6 q (hΩ ▸ List.mem_append_left _ hq)) c6 c7 F3 N3
      rw [nb_take hb, c4, List.append_nil]
      exact hys
    rcases hcase with ⟨j, t', rfl, rfl, ho, h0, h1⟩ | ⟨h1, h2, h3, r, rfl⟩
    · obtain ⟨jn, rfl⟩ := Int.eq_ofNat_of_zero_le h0
      rcases ho with rfl | rfl | rfl
      · have hjR : (jn : Int) ∈ rds Bs := rds_mem (List.mem_of_getElem? hb)
        obtain ⟨t6, hv6⟩ := hvP jn h1 (.inr hjR)
        k_steps
        rename Fr _ _ _ _ => F3
        rename News _ _ _ _ => N3
        refine kda_item (knd := intKind _ _) N3 (.tail _ hP') hdP (intKind_is _ _ _ _) hv6 ?_
        k_steps
        rename Fr _ _ _ _ => F8
        rename News _ _ _ _ => N8
        rw [List.push_toArray] at N8
        rename @LT.lt Nat _ aN _ ∧ AllLt _ Ω => lD
        exact fin1 _ _ _ [32, (plN p (rds Bs) jn : Int)] _ _ _ _ _ lD.2 (Nat.ne_of_gt lD.1) (.cons _ _ (.cons _ _ .nil)) (by simp [nb1, hjR]) (by k_memK) (by intro q9 hq9; repeat (first | exact hq9 | apply List.Mem.tail)) (by k_memK) F8 N8
      · k_steps
        rename Fr _ _ _ _ => F3
        rename News _ _ _ _ => N3
        refine kdg_notin (knd := intKind _ _) N3 (.tail _ hR') hdR hloR (intKind_is _ _ _ _) (decide ((jn : Int) ∈ rds Bs)) (hkv _) ?_
        k_steps
        · have hjR : (jn : Int) ∈ rds Bs := by assumption
          obtain ⟨t6, hv6⟩ := hvP jn h1 (.inr hjR)
          rename News _ _ _ _ => N3
          refine kda_in (knd := intKind _ _) N3 (.tail _ (.tail _ hR')) hdR hloR (intKind_is _ _ _ _) true (by rw [hkv]; exact decide_eq_true hjR) ?_
          k_steps
          rename News _ _ _ _ => N3
          refine kda_item (knd := intKind _ _) N3 (.tail _ (.tail _ hP')) hdP (intKind_is _ _ _ _) hv6 ?_
          k_steps
          rename Fr _ _ _ _ => F8
          rename News _ _ _ _ => N8
          rw [List.push_toArray] at N8
          rename @LT.lt Nat _ _ _ ∧ @LT.lt Nat _ aN _ ∧ AllLt _ Ω => lD
          exact fin1 _ _ _ [33, (plN p (rds Bs) jn : Int)] _ _ _ _ _ lD.2.2 (Nat.ne_of_gt lD.2.1) (.cons _ _ (.cons _ _ .nil)) (by simp [nb1, hjR]) (by k_memK) (by intro q9 hq9; repeat (first | exact hq9 | apply List.Mem.tail)) (by k_memK) F8 N8
        · have hjR : ¬ (jn : Int) ∈ rds Bs := by assumption
          rename Fr _ _ _ _ => F8
          rename News _ _ _ _ => N8
          rw [List.push_toArray] at N8
          rename @LT.lt Nat _ aN _ ∧ AllLt _ Ω => lD
          exact fin1 _ _ _ [26] _ _ _ _ _ lD.2 (Nat.ne_of_gt lD.1) (.cons _ _ .nil) (by simp [nb1, hjR]) (by k_memK) (by intro q9 hq9; repeat (first | exact hq9 | apply List.Mem.tail)) (by k_memK) F8 N8
      · k_steps
        rename Fr _ _ _ _ => F3
        rename News _ _ _ _ => N3
        refine kda_in (knd := intKind _ _) N3 (.tail _ (.tail _ hR')) hdR hloR (intKind_is _ _ _ _) (decide ((jn : Int) ∈ rds Bs)) (hkv _) ?_
        k_steps
        · have hjR : (jn : Int) ∈ rds Bs := by assumption
          obtain ⟨t6, hv6⟩ := hvP jn h1 (.inr hjR)
          rename News _ _ _ _ => N3
          refine kda_item (knd := intKind _ _) N3 (.tail _ (.tail _ hP')) hdP (intKind_is _ _ _ _) hv6 ?_
          k_steps
          rename Fr _ _ _ _ => F8
          rename News _ _ _ _ => N8
          rw [List.push_toArray] at N8
          rename @LT.lt Nat _ _ _ ∧ @LT.lt Nat _ aN _ ∧ AllLt _ Ω => lD
          exact fin1 _ _ _ [34, (plN p (rds Bs) jn : Int)] _ _ _ _ _ lD.2.2 (Nat.ne_of_gt lD.2.1) (.cons _ _ (.cons _ _ .nil)) (by simp [nb1, hjR]) (by k_memK) (by intro q9 hq9; repeat (first | exact hq9 | apply List.Mem.tail)) (by k_memK) F8 N8
        · have hjR : ¬ (jn : Int) ∈ rds Bs := by assumption
          rename Fr _ _ _ _ => F8
          rename News _ _ _ _ => N8
          exact fin3 _ _ _ _ _ (by simp [nb1, hjR]) (by intro q9 hq9; repeat (first | exact hq9 | apply List.Mem.tail)) (by k_memK) F8 N8
    · k_steps
      all_goals try (exfalso; omega)
      · rename (List.any _ _ = true) => hany
        exact absurd hany (by simp; omega)
      · rename Fr _ _ _ _ => F8
        rename News _ _ _ _ => N8
        rw [List.push_toArray] at N8
        exact fin2 _ _ _ _ _ (by simp [nb1, h1, h2, h3]) (by intro q9 hq9; repeat (first | exact hq9 | apply List.Mem.tail)) (by k_memK) F8 N8
  · rintro m1 nx h9 tk9 ⟨ys, nY, Λ1, rfl, hs1, ho1, hys, hyl, hm1⟩ F9 N9
    have F8 := fr_out (M := (fun y => if y = Str.ofString "body" then some (.ref aN) else if y = Str.ofString "places" then some (.ref aP) else if y = Str.ofString "read" then some (.ref aR) else if y = Str.ofString "func" then some (.ref aF) else u y)) hm1 F9
    rw [hB.length, List.take_length] at hys
    exact h _ _ ys nY Λ1 _ F8 N9 hs1 ho1 hys (by omega)
end Mine
local macro_rules | `(tactic| walk_at "idle") => `(tactic| fail "idle")
local macro_rules | `(tactic| walk_at "idle") => `(tactic| fail "idle")
-- part W7
set_option maxHeartbeats 4000000
namespace Mine
local macro_rules | `(tactic| k_get) => `(tactic| with_reducible assumption)
theorem w_s7 {w : World} {base g : Heap} {L fa l : Addr} {cdv : Value} {mg mb u : Str → Option Value} {means : ExcName → Option Value} {s : Shared} {E : Value → Shared → Prop} {Q : Flow → Shared → Prop} {aF aN aQ : Addr} {Λ : Led} {k : Int} {tk : Tok} {loc bod : Value} {ys qs : List Value} {nY nQ : Nat} {ks : List Int}
    (KX : (hd.heap_39 w.params).In g) (T : Top hd.view_39 (looseW hd.view_39 []) means mg mb g) (B : Below (LA L fa cdv) base [lenv L fa cdv] g)
    (F : Fr g l s.heap (fun y => if y = Str.ofString "body" then some (.ref aN) else if y = Str.ofString "kept" then some (.ref aQ) else if y = Str.ofString "func" then some (.ref aF) else u y)) (N : News g l s.heap ((aN, listOf ys.toArray nY) :: Λ))
    (hoff : OwnOff Λ [aN]) (hQ : (aQ, listOf qs.toArray nQ) ∈ Λ) (hqs : IntsAre qs ks) (hql : qs.length < 100) (hyl : ys.length ≤ 31)
    (hF : FuncK (inL Λ) 45 aF k tk loc bod)
    (h : ∀ h' tk' aF' aK' (Λ2 : Led) m', Fr g l h' m' → News g l h' Λ2 → (∀ q ∈ Λ, q ∈ Λ2) → (aN, listOf ys.toArray nY) ∈ Λ2 → (aK', ({ cls := .type "tuple", data := .seq qs.toArray } : Obj)) ∈ Λ2 → FuncK (inL Λ2) 45 aF' k tk (.ref aK') (.ref aN) → Q (.ret (.ref aF')) { s with heap := h', toks := tk' }) :
    wpAny (model PROG w) (WA L fa cdv l) (execs [wlSt 7] (wenv l)) Q E s := by
  w_top off
  delta PROG WA LA lenv wenv
  revert KX; k_fill; intro KX
  have kMk := kdMark
  obtain ⟨dF, esF, nF, hf1, hf2, hf3, hf4, hf5, hf6⟩ := hF
  change (_, _) ∈ Λ at hf1 hf2
  conv in (wlSt 7) => whnf
  conv in (occs := *) lawScope => all_goals whnf
  conv in (occs := *) wlScope => all_goals whnf
  k_steps
  rename Fr _ _ _ _ => F9
  rename News _ _ _ _ => N9
  refine kde_tupleOf (zs := qs) F9 N9 (News.isList N9 (.tail _ hQ)) (by simp only [List.size_toArray]; omega) rfl ?_
  intro D2 h2 F2 N2 l2
  k_lt l2
  clear F9 N9
  k_steps
  rename News _ _ _ _ => N8
  rename Fr _ _ _ _ => F8
  rename_i _ x' d' _ _ _ _ _ _ _ _ _ _ _ _ _ _ _ _ _ _ _
  exact h _ _ x' D2 _ _ F8 N8 (by intro q9 hq9; repeat (first | exact hq9 | apply List.Mem.tail)) (by k_memK) (by k_memK) ⟨d', _, _, by show _ ∈ _; k_memK, by show _ ∈ _; k_memK, by k_get, by k_get, by k_get, by k_get⟩
end Mine
-- part WU
set_option maxHeartbeats 4000000
namespace Mine
theorem FuncK.mono {P P' : Kn} (q : ∀ a o, P a o → P' a o) {C aF : Addr} {k : Int} {tk : Tok} {loc bod : Value} (h : FuncK P C aF k tk loc bod) : FuncK P' C aF k tk loc bod :=
  let ⟨d, es, n, h1, h2, h3⟩ := h; ⟨d, es, n, q _ _ h1, q _ _ h2, h3⟩
theorem off_one {Λ : Led} {a : Addr} (h : ∀ p ∈ Λ, p.1 < a) : OwnOff Λ [a] := by
  intro p hp c hc
  rw [List.mem_singleton.mp hc]
  exact Nat.ne_of_lt (h p hp)
theorem wl_use {w : World} {base : Heap} {L fa : Addr} {cdv : Value} {mg mb m : Str → Option Value} {means : ExcName → Option Value} {s : Shared} {Q : Value → Shared → Prop} {aF aM aK aL : Addr} {Λ : Led} {p : Nat} {tk : Tok} {its vsB : List Value} {ks : List Int} {Bs : List (List Int)} {nB : Nat}
    (KX : (hd.heap_39 w.params).In base) (T : Top hd.view_39 (looseW hd.view_39 []) means mg mb base) (B : Below callerA base [] base)
    (F : Fr base L s.heap m) (N : News base L s.heap Λ) (hM : ModK (inL Λ) aM) (hF : FuncK (inL Λ) 45 aF (p : Int) tk (.ref aK) (.ref aL)) (hp : p < 4)
    (hK : (aK, ({ cls := .type "tuple", data := .seq its.toArray } : Obj)) ∈ Λ) (hks : IntsAre its ks) (hl : its.length < 7)
    (hL : (aL, listOf vsB.toArray nB) ∈ Λ) (hB : BodyK (inL Λ) vsB Bs) (hBl : vsB.length ≤ 31) (hOk : ∀ b ∈ Bs, OkI ((p : Int) + (its.length : Int)) b)
    (h : ∀ h' tk' aF' aK' aN (qs zs : List Value) nZ (Λ7 : Led), Fr base L h' m → News base L h' Λ7 → (∀ q ∈ Λ, q ∈ Λ7) → (aN, listOf zs.toArray nZ) ∈ Λ7 → (aK', ({ cls := .type "tuple", data := .seq qs.toArray } : Obj)) ∈ Λ7 → IntsAre qs (keptL p (rds Bs) ks ks.length) → BodyK (inL Λ7) zs (nb p (rds Bs) Bs) → zs.length ≤ 31 → FuncK (inL Λ7) 45 aF' (p : Int) tk (.ref aK') (.ref aN) → Q (.ref aF') { s with heap := h', toks := tk' }) :
    wpAny (model PROG w) (LA L fa cdv) (call (.ref 178) [.ref aM, .ref aF]) Q Nev s := by
  w_top off
  delta PROG LA lenv
  revert KX; k_fill; intro KX
  refine wpAny_call ?_
  refine' code_def ?k1 ?k2 ?k3 ?k4 ?k5 ?hA ?hf ?hk ?k6 ?k7 ?hroom ?k9 ?kB ?_ ?c2 ?c3 ?c4 ?c5
  (case k1 => k_asm); (case k2 => k_asm); (case k3 => k_asm); (case k4 => k_asm); (case k5 => k_asm); (case k6 => k_is); (case k7 => k_is)
  (case k9 => exact BindsTo.of_eq rfl); (case c5 => decide); (case kB => exact locs rfl); (case c2 => exact rfl); (case c3 => exact rfl); (case c4 => exact rfl)
  (case hA => exact rfl); (case hf => exact rfl); (case hk => exact rfl); (case hroom => exact Nat.le_of_ble_eq_true rfl)
  intro g l h0 FG F0 N0 B0 X0 T0
  clear F N KX T B
  (try dsimp only)
  have F1 := fr_re (x := Str.ofString "module") (v := .ref aM) (fr_re (x := Str.ofString "func") (v := .ref aF) F0 (by rfl)) (by rfl)
  have hlk : its.length = ks.length := hks.length
  refine w_s0 (rest := [wlSt 2, wlSt 3, wlSt 4, wlSt 5, wlSt 6, wlSt 7]) X0 T0 B0 F1 N0 hM hF (by omega) (by omega) ?_
  intro h1 tk1 aR tp oR F1 N1 dR loR ltR
  have G1 := fr_re (x := Str.ofString "read") (v := .ref aR) (fr_re (x := Str.ofString "func") (v := .ref aF) F1 (by rfl)) (by rfl)
  refine w_s2 (rest := [wlSt 3, wlSt 4, wlSt 5, wlSt 6, wlSt 7]) X0 T0 B0 G1 N1 dR loR (off_one ltR) hF hL hB hBl hOk ?_ (by passes_own)
  intro h2 tk2 oR' kvs u2 hu2 F2 N2 dR' hkl hkv
  have F2' := fr_out hu2 F2
  refine w_s3 (rest := [wlSt 4, wlSt 5, wlSt 6, wlSt 7]) X0 T0 B0 F2' N2 ?_
  intro h3 tk3 aP aQ oP nQ F3 N3 dP loP ltP hPQ
  have G3 := fr_re (x := Str.ofString "places") (v := .ref aP) (fr_re (x := Str.ofString "kept") (v := .ref aQ) (fr_re (x := Str.ofString "read") (v := .ref aR) (fr_re (x := Str.ofString "params") (v := .int (p : Int) tp) (fr_re (x := Str.ofString "func") (v := .ref aF) F3 (by rfl)) (by rfl)) (by rfl)) (by rfl)) (by rfl)
  refine w_s4 (rest := [wlSt 5, wlSt 6, wlSt 7]) (R := rds Bs) X0 T0 B0 G3 N3 dP loP hPQ ltP (.head _) dR' loR hkv (hF.mono fun _ _ q => .tail _ q) (.tail _ hK) hks hl hp ?_ (by passes_own)
  intro h4 tk4 oP' kvP ys nY v4 F4 N4 dP' hvP hys
  refine w_s5 (rest := [wlSt 6, wlSt 7]) X0 T0 B0 F4 N4 ?_
  intro h5 tk5 aN nN F5 N5 ltN
  have G5 := fr_re (x := Str.ofString "body") (v := .ref aN) (fr_re (x := Str.ofString "places") (v := .ref aP) (fr_re (x := Str.ofString "read") (v := .ref aR) (fr_re (x := Str.ofString "func") (v := .ref aF) F5 (by rfl)) (by rfl)) (by rfl)) (by rfl)
  refine w_s6 (rest := [wlSt 7]) (p := p) (many := (p : Int) + (its.length : Int)) X0 T0 B0 G5 N5 (off_one ltN) (.tail _ (.tail _ (.head _))) dR' loR hkv (.head _) dP' (fun j hj hc => hvP j (by omega) hc) (hF.mono fun _ _ q => .tail _ (.tail _ (.tail _ q))) (.tail _ (.tail _ (.tail _ hL))) (hB.mono fun _ _ q => .tail _ (.tail _ (.tail _ q))) hBl hOk ?_ (by passes_own)
  intro h6 tk6 zs nZ Λ6 v6 F6 N6 hs6 ho6 hzs hzl
  have G6 := fr_re (x := Str.ofString "body") (v := .ref aN) (fr_re (x := Str.ofString "kept") (v := .ref aQ) (fr_re (x := Str.ofString "func") (v := .ref aF) F6 (by rfl)) (by rfl)) (by rfl)
  have hyl : ys.length < 100 := by rw [hys.length]; have := keptL_len (p := p) (R := rds Bs) (ks := ks) (m := ks.length); omega
  refine w_s7 X0 T0 B0 G6 N6 ho6 (hs6 _ (.tail _ (.head _))) hys hyl hzl (hF.mono fun _ _ q => hs6 _ (.tail _ (.tail _ (.tail _ q)))) ?_
  intro h7 tk7 aF' aK' Λ7 m7 F7 N7 hs7 hN7 hK7 hF7
  exact leaveK_ F7 N7 fun F N => h _ _ _ _ _ _ _ _ _ F N (fun q hq => hs7 q (hs6 q (.tail _ (.tail _ (.tail _ hq))))) hN7 hK7 hys (hzs.mono fun _ _ q => hs7 _ q) hzl hF7
end Mine
-- part L11
set_option maxHeartbeats 4000000
namespace Mine
local macro_rules | `(tactic| k_get) => `(tactic| with_reducible assumption)
theorem law_s11 {w : World} {base : Heap} {L fa : Addr} {cdv : Value} {mg mb u : Str → Option Value} {means : ExcName → Option Value} {s : Shared} {Q : Flow → Shared → Prop} {aF aM aK aL : Addr} {Λ : Led} {p : Nat} {tk : Tok} {its vsB : List Value} {ks : List Int} {Bs : List (List Int)} {nB : Nat} {rest : List Stmt}
    (KX : (hd.heap_39 w.params).In base) (T : Top hd.view_39 (looseW hd.view_39 []) means mg mb base) (B : Below callerA base [] base)
    (F : Fr base L s.heap (fun y => if y = Str.ofString "func" then some (.ref aF) else if y = Str.ofString "module" then some (.ref aM) else u y))
    (N : News base L s.heap Λ) (hM : ModK (inL Λ) aM) (hF : FuncK (inL Λ) 45 aF (p : Int) tk (.ref aK) (.ref aL)) (hp : p < 4)
    (hK : (aK, ({ cls := .type "tuple", data := .seq its.toArray } : Obj)) ∈ Λ) (hks : IntsAre its ks) (hl : its.length < 7)
    (hL : (aL, listOf vsB.toArray nB) ∈ Λ) (hB : BodyK (inL Λ) vsB Bs) (hBl : vsB.length ≤ 31) (hOk : ∀ b ∈ Bs, OkI ((p : Int) + (its.length : Int)) b)
    (h : ∀ h' tk' aF' aK' aN (qs zs : List Value) nZ (Λ7 : Led), Fr base L h' (fun y => if y = Str.ofString "told" then some (.ref aF') else if y = Str.ofString "func" then some (.ref aF) else if y = Str.ofString "module" then some (.ref aM) else u y) → News base L h' Λ7 → (∀ q ∈ Λ, q ∈ Λ7) → (aN, listOf zs.toArray nZ) ∈ Λ7 → (aK', ({ cls := .type "tuple", data := .seq qs.toArray } : Obj)) ∈ Λ7 → IntsAre qs (keptL p (rds Bs) ks ks.length) → BodyK (inL Λ7) zs (nb p (rds Bs) Bs) → zs.length ≤ 31 → FuncK (inL Λ7) 45 aF' (p : Int) tk (.ref aK') (.ref aN) →
      wpAny (model PROG w) (LA L fa cdv) (execs rest (lenv L fa cdv)) Q Nev { s with heap := h', toks := tk' }) :
    wpAny (model PROG w) (LA L fa cdv) (execs (lawSt 11 :: rest) (lenv L fa cdv)) Q Nev s := by
  w_top off
  delta PROG LA lenv
  revert KX; k_fill; intro KX
  have kMk := kdMark
  conv in (lawSt 11) => whnf
  conv in (occs := *) lawScope => all_goals whnf
  repeat' ((fail_if_success (with_reducible show wpAny _ _ (call (Value.ref _) _) _ _ _)); first | (k_unfold; (try dsimp only)) | walk1 | (dsimp only; walk1) | (leave1; (try dsimp only)) | fail "no step")
  refine wl_use KX T B F N hM hF hp hK hks hl hL hB hBl hOk ?_
  intro h7 tk7 aF' aK' aN qs zs nZ Λ7 F7 N7 hs7 hN7 hK7 hqs hzs hzl hF7
  clear F N
  k_steps
  exact h _ _ _ _ _ _ _ _ _ (by assumption) (by assumption) hs7 hN7 hK7 (by assumption) hzs hzl hF7
end Mine
-- part C6
set_option maxHeartbeats 8000000
namespace Mine
def insD (b : List Int) : PyData := .tuple (b.map .int)
def bodD (Bs : List (List Int)) : List PyData := Bs.map insD
theorem reads_ints {h : Heap} {its : List Value} {b : List Int} (k : IntsAre its b) : ReadsAll h its (b.map .int) [] := by
  induction k with
  | nil => exact .nil
  | cons n t _ ih => exact .cons (.int n t) ih
theorem reads_ins {base h : Heap} {L : Addr} {led : Led} (N : News base L h led) {v : Value} {b : List Int} (k : InsK (inL led) v b) : Reads h v (insD b) [] := by
  obtain ⟨its, ⟨a, n, rfl, hm⟩, hi⟩ := k
  exact .tuple (N _ hm).1 rfl rfl (reads_ints hi)
theorem reads_body {base h : Heap} {L : Addr} {led : Led} (N : News base L h led) {vs : List Value} {Bs : List (List Int)} (k : BodyK (inL led) vs Bs) : ReadsAll h vs (bodD Bs) [] := by
  induction k with
  | nil => exact .nil
  | cons h _ ih => exact .cons (reads_ins N h) ih
theorem eqvAll_bod : ∀ Bs : List (List Int), PyData.eqvAll (bodD Bs) (bodD Bs) = true
  | [] => rfl
  | b :: r => by
    show PyData.eqvAll (insD b :: bodD r) (insD b :: bodD r) = true
    simp only [PyData.eqvAll, insD, PyData.eqv, ked_eqvAll, eqvAll_bod r, decide_true, Bool.and_true]
theorem canLay_bod : ∀ Bs : List (List Int), PyData.canLayAll0 (bodD Bs) = true
  | [] => rfl
  | b :: r => by
    show PyData.canLayAll0 (insD b :: bodD r) = true
    simp only [PyData.canLayAll0, insD, PyData.canLay0, ke_canLayAll0, canLay_bod r, Bool.and_true]
theorem depth_bod : ∀ Bs : List (List Int), PyData.depthAll (bodD Bs) ≤ 2
  | [] => by simp [bodD, PyData.depthAll]
  | b :: r => by
    have h1 := depth_bod r
    show PyData.depthAll (insD b :: bodD r) ≤ 2
    simp only [PyData.depthAll, insD, PyData.depth, ke_depthAll]; omega
def trD (p : Int) (ks : List Int) (Bs : List (List Int)) : PyData := .tuple [.int p, .tuple (ks.map .int), .tuple (bodD Bs)]
theorem trD_shaped {p : Int} {ks : List Int} {Bs : List (List Int)} : SeqAt.shaped (trD p ks Bs) = true := by
  have := depth_bod Bs
  simp only [SeqAt.shaped, trD, PyData.canLay0, PyData.canLayAll0, ke_canLayAll0, canLay_bod, PyData.depth, PyData.depthAll, ke_depthAll, Bool.and_true, Bool.true_and, decide_eq_true_eq]
  omega
theorem trD_self {p : Int} {ks : List Int} {Bs : List (List Int)} : PyData.eqv (trD p ks Bs) (trD p ks Bs) = true := by
  simp only [trD, PyData.eqv, PyData.eqvAll, ked_eqvAll, eqvAll_bod, decide_true, Bool.and_true, beq_self_eq_true]
theorem ne_self {prog : Program} {w : World} {A : Around} {E : Value → Shared → Prop} {s : Shared} {Q : Value → Shared → Prop} {a b : Value} {d : PyData} {as bs : List Addr} (ra : Reads s.heap a d as) (rb : Reads s.heap b d bs) (hs : SeqAt.shaped d = true) (he : PyData.eqv d d = true) (hu : A.units + 64 < cLine) (h : Q (.bool false) s) :
    wpAny (model prog w) A (compareOp .NotEq a b) Q E s := ne_dataH ra rb hs hs hu (by rw [he]; exact h)
theorem eq_self' {prog : Program} {w : World} {A : Around} {E : Value → Shared → Prop} {s : Shared} {Q : Value → Shared → Prop} {a b : Value} {d : PyData} {as bs : List Addr} (ra : Reads s.heap a d as) (rb : Reads s.heap b d bs) (hs : SeqAt.shaped d = true) (he : PyData.eqv d d = true) (hu : A.units + 64 < cLine) (h : Q (.bool true) s) :
    wpAny (model prog w) A (compareOp .Eq a b) Q E s := eq_dataH ra rb hs hs hu (by rw [he]; exact h)
theorem insD_shaped {b : List Int} : SeqAt.shaped (insD b) = true := by
  simp only [SeqAt.shaped, insD, PyData.canLay0, ke_canLayAll0, PyData.depth, ke_depthAll, Bool.true_and]; decide
theorem insD_self {b : List Int} : PyData.eqv (insD b) (insD b) = true := by simp only [insD, PyData.eqv, ked_eqvAll, decide_true]
theorem lstD_shaped {Bs : List (List Int)} : SeqAt.shaped (.list (bodD Bs)) = true := by
  have := depth_bod Bs
  show (PyData.canLay0 (.list (bodD Bs)) && decide ((PyData.list (bodD Bs)).depth ≤ 64)) = true
  rw [Bool.and_eq_true]
  refine ⟨canLay_bod Bs, decide_eq_true ?_⟩
  simp only [PyData.depth]
  omega
theorem lstD_self {Bs : List (List Int)} : PyData.eqv (.list (bodD Bs)) (.list (bodD Bs)) = true := by simp only [PyData.eqv, eqvAll_bod]
def noC (l : Led) : Led := l.filter fun p => match p.2.data with | .cell _ => false | _ => true
theorem noC_sub {l : Led} : ∀ p ∈ noC l, p ∈ l := fun _ hp => (List.mem_filter.mp hp).1
theorem noC_mem {l : Led} {a : Addr} {o : Obj} (h : (a, o) ∈ l) (k : (match o.data with | .cell _ => false | _ => true) = true) : (a, o) ∈ noC l := List.mem_filter.mpr ⟨h, k⟩
theorem noC_ne {base h : Heap} {L b : Addr} {l : Led} {c : Obj} {x : Option Value} (N : News base L h l) (hb : (b, c) ∈ l) (hc : c.data = .cell x) : ∀ p ∈ noC l, p.1 ≠ b := by
  rintro ⟨a, o⟩ hp
  have hk := (List.mem_filter.mp hp).2
  refine cell_ne N (noC_sub _ hp) hb hc fun y hy => ?_
  simp only [hy] at hk
  cases hk
theorem noC_tup {l : Led} {v : Value} {its : List Value} (h : TupK (inL l) v its) : TupK (inL (noC l)) v its := let ⟨a, n, e, q⟩ := h; ⟨a, n, e, noC_mem q rfl⟩
theorem noC_ins {l : Led} {v : Value} {b : List Int} (h : InsK (inL l) v b) : InsK (inL (noC l)) v b := let ⟨its, e, q⟩ := h; ⟨its, noC_tup e, q⟩
theorem noC_body {l : Led} {vs : List Value} {Bs : List (List Int)} (h : BodyK (inL l) vs Bs) : BodyK (inL (noC l)) vs Bs := by
  induction h with
  | nil => exact .nil
  | cons h _ ih => exact .cons (noC_ins h) ih
theorem noC_func {l : Led} {C aF : Addr} {k : Int} {tk : Tok} {loc bod : Value} (h : FuncK (inL l) C aF k tk loc bod) : FuncK (inL (noC l)) C aF k tk loc bod :=
  let ⟨d, es, n, h1, h2, h3⟩ := h; ⟨d, es, n, noC_mem h1 rfl, noC_mem h2 rfl, h3⟩
theorem noC_off {base h : Heap} {L : Addr} {l : Led} {c1 c2 c3 c4 : Obj} {x1 x2 x3 x4 : Option Value} (N : News base L h l)
    (m4 : (L + 1 + 1 + 1 + 1, c4) ∈ l) (m3 : (L + 1 + 1 + 1, c3) ∈ l) (m2 : (L + 1 + 1, c2) ∈ l) (m1 : (L + 1, c1) ∈ l) (h1 : c1.data = .cell x1) (h2 : c2.data = .cell x2) (h3 : c3.data = .cell x3) (h4 : c4.data = .cell x4) : OwnOff (noC l) (four L) := by
  intro p hp b hb
  simp only [List.mem_cons, List.mem_nil_iff, or_false] at hb
  rcases hb with rfl | rfl | rfl | rfl
  · exact noC_ne N m4 h4 p hp
  · exact noC_ne N m3 h3 p hp
  · exact noC_ne N m2 h2 p hp
  · exact noC_ne N m1 h1 p hp
end Mine
-- part L12
set_option maxHeartbeats 4000000
namespace Mine
local macro_rules | `(tactic| k_get) => `(tactic| with_reducible assumption)
theorem law_s12 {w : World} {base : Heap} {L fa : Addr} {cdv : Value} {mg mb u : Str → Option Value} {means : ExcName → Option Value} {s : Shared} {Q : Flow → Shared → Prop} {aF aG aK aL aB aH aN : Addr} {Λ : Led} {c1 c2 c3 c4 : Obj} {p : Nat} {tk : Tok} {its vsB : List Value} {ks : List Int} {Bs : List (List Int)} {nB nL : Nat} {rest : List Stmt}
    (KX : (hd.heap_39 w.params).In base) (T : Top hd.view_39 (looseW hd.view_39 []) means mg mb base) (B : Below callerA base [] base)
    (F : Fr base L s.heap (fun y => if y = Str.ofString "told" then some (.ref aG) else if y = Str.ofString "func" then some (.ref aF) else if y = Str.ofString "body" then some (.ref aB) else if y = Str.ofString "kind" then some (.int (p : Int) tk) else u y))
    (N : News base L s.heap ((L + 1 + 1 + 1 + 1, c4) :: (L + 1 + 1 + 1, c3) :: (L + 1 + 1, c2) :: (L + 1, c1) :: Λ))
    (hc3 : c3.data = .cell (some (.ref aK))) (hF : FuncK (inL Λ) 45 aF (p : Int) tk (.ref aK) (.ref aL)) (hG : FuncK (inL Λ) 45 aG (p : Int) tk (.ref aH) (.ref aN)) (hp : p < 4)
    (hK : (aK, ({ cls := .type "tuple", data := .seq its.toArray } : Obj)) ∈ Λ) (hks : IntsAre its ks) (hl : its.length < 7)
    (hL : (aL, listOf vsB.toArray nL) ∈ Λ) (hBm : (aB, listOf vsB.toArray nB) ∈ Λ) (hB : BodyK (inL Λ) vsB Bs) (hBl : vsB.length ≤ 31)
    (h : ∀ h' tk', Fr base L h' (fun y => if y = Str.ofString "told" then some (.ref aG) else if y = Str.ofString "func" then some (.ref aF) else if y = Str.ofString "body" then some (.ref aB) else if y = Str.ofString "kind" then some (.int (p : Int) tk) else u y) → News base L h' ((L + 1 + 1 + 1 + 1, c4) :: (L + 1 + 1 + 1, c3) :: (L + 1 + 1, c2) :: (L + 1, c1) :: Λ) →
      wpAny (model PROG w) (LA L fa cdv) (execs rest (lenv L fa cdv)) Q Nev { s with heap := h', toks := tk' }) :
    wpAny (model PROG w) (LA L fa cdv) (execs (lawSt 12 :: rest) (lenv L fa cdv)) Q Nev s := by
  w_top off
  delta PROG LA lenv
  revert KX; k_fill; intro KX
  have kMk := kdMark
  obtain ⟨dF, esF, nF, hf1, hf2, hf3, hf4, hf5, hf6⟩ := hF
  obtain ⟨dG, esG, nG, hg1, hg2, hg3, hg4, hg5, hg6⟩ := hG
  change (_, _) ∈ Λ at hf1 hf2 hg1 hg2
  conv in (lawSt 12) => whnf
  conv in (occs := *) lawScope => all_goals whnf
  k_steps
  rename News _ _ _ _ => N1
  refine call_tuple_tup (items := its.toArray) ⟨_, (N1 _ (.tail _ (.tail _ (.tail _ (.tail _ hK))))).1, rfl, _, rfl⟩ ?_
  k_steps
  rename News _ _ _ _ => N1
  rename Fr _ _ _ _ => F1
  refine kde_tupleOf (zs := vsB) F1 N1 (News.isList N1 (.tail _ (.tail _ (.tail _ (.tail _ hL))))) (by simp only [List.size_toArray]; omega) rfl ?_
  intro D2 h2 F2 N2 l2
  k_lt l2
  clear F1 N1
  k_steps
  rename News base _ _ _ => N1
  rename Fr base _ _ _ => F1
  refine kde_tupleOf (zs := vsB) F1 N1 (News.isList N1 (.tail _ (.tail _ (.tail _ (.tail _ (.tail _ (.tail _ hBm))))))) (by simp only [List.size_toArray]; omega) rfl ?_
  intro D3 h3 F3 N3 l3
  k_lt l3
  clear F1 N1
  repeat' ((fail_if_success (with_reducible show wpAny _ _ (compareOp _ _ _) _ _ _)); first | (k_unfold; (try dsimp only)) | walk1 | (dsimp only; walk1) | (leave1; (try dsimp only)) | fail "no step")
  rename Fr base _ _ _ => F8
  rename News base _ _ _ => N8
  have NΛ : News base L _ Λ := News.sub N8 (by intro q9 hq9; repeat (first | exact hq9 | apply List.Mem.tail))
  refine ne_self (d := trD (p : Int) ks Bs) (.tuple (News.get N8 (by k_memK)) rfl rfl (.cons (.int _ _) (.cons (.tuple (NΛ _ hK).1 rfl rfl (reads_ints hks)) (.cons (.tuple (News.get N8 (by k_memK)) rfl rfl (reads_body NΛ hB)) .nil))))
    (.tuple (News.get N8 (by k_memK)) rfl rfl (.cons (.int _ _) (.cons (.tuple (NΛ _ hK).1 rfl rfl (reads_ints hks)) (.cons (.tuple (News.get N8 (by k_memK)) rfl rfl (reads_body NΛ hB)) .nil)))) trD_shaped trD_self (by ke_room) ?_
  clear NΛ
  k_steps
  · exfalso
    first | omega | (simp at *)
  · exact h _ _ F8 (News.sub N8 (by repeat' (first | (refine List.forall_mem_cons.mpr ⟨by k_memK, ?_⟩) | (intro q9 hq9; repeat (first | exact hq9 | apply List.Mem.tail)))))
end Mine
-- part C7
set_option maxHeartbeats 8000000
namespace Mine
theorem rest_indT {prog : Program} {w : World} {A : Around} {s : Shared} {h₀ : Heap} {L : Addr} {m : Str → Option Value} {env : Env} {ct elt : Expr} {x : Str} {scope : Scope} {cl : List (Str × Addr)} {S : Led → Prop} {P : Nat → Value → Prop} {Fin : List Value → Led → Prop} {n : Nat} (J : Nat → List Value → Led → Prop)
    (turn : ∀ i ys news v I oI C oC D m₂ h tk (E' : Value → Shared → Prop), i < n → J i ys news → P i v → LCg.NsObj oC m₂ → m₂ x = some v → Fr h₀ L h m → News h₀ L h ((I, oI) :: (C, oC) :: (D, LCg.lst ys) :: news) → LCg.Off3 I C D news → ((@Ne Nat I C) ∧ (@Ne Nat I D) ∧ (@Ne Nat C D)) →
      wpAny (model prog w) A (isTrue ct (compEnvC scope cl C env) (eval ct (compEnvC scope cl C env))) (fun ok s' => if ok = true then
        wpAny (model prog w) A (eval elt (compEnvC scope cl C env)) (LCg.CompEnd h₀ L m { s with heap := h, toks := tk } I oI C oC D (LCg.lst ys) S (fun y news' => J (i + 1) (ys ++ [y]) news')) E' s'
        else LCg.CompEnd h₀ L m { s with heap := h, toks := tk } I oI C oC D (LCg.lst ys) S (fun _ news' => J (i + 1) ys news') Value.none s') E' { s with heap := h, toks := tk })
    (fin : ∀ ys news, J n ys news → Fin ys news) : ∀ k i ys news, i + k = n → J i ys news → LCt.CompRestT prog w A h₀ L m env ct elt x scope cl s S P Fin k i ys news
  | 0, i, ys, news, e, hJ => LCt.CompRestT.zero (fin ys news (by rw [Nat.add_zero] at e; exact e ▸ hJ))
  | k + 1, i, ys, news, e, hJ => fun v I oI C oC D m₂ h tk E' hP hC hx F N o ne =>
      wpAny_mono (turn i ys news v I oI C oC D m₂ h tk E' (by omega) hJ hP hC hx F N o ne) (fun ok s₂ q => by
        cases ok with
        | true =>
          simp only [if_true] at q ⊢
          exact wpAny_mono q (fun y s₃ q => CompEnd.mono (fun nw hj => rest_indT J turn fin k (i + 1) (ys ++ [y]) nw (by omega) hj) q) fun _ _ x => x
        | false =>
          simp only [Bool.false_eq_true, if_false] at q ⊢
          exact CompEnd.mono (fun nw hj => rest_indT J turn fin k (i + 1) ys nw (by omega) hj) q) fun _ _ x => x
theorem any_mem (ns : List Int) (k : Int) : (ns.any (· == k)) = decide (k ∈ ns) := by
  induction ns with
  | nil => simp
  | cons a r ih =>
    simp only [List.any_cons, ih, List.mem_cons]
    by_cases h : a = k
    · subst h; simp
    · have h' : ¬ k = a := fun e => h e.symm
      have h2 : (a == k) = false := beq_eq_false_iff_ne.mpr h
      simp [h', h2]
theorem in_led {prog : Program} {w : World} {A : Around} {E : Value → Shared → Prop} {s : Shared} {base : Heap} {L : Addr} {led : Led} {l : Addr} {vs : List Value} {n : Nat} {ns : List Int} {k : Int} {t : Tok} {Q : Value → Shared → Prop} (N : News base L s.heap led) (hl : (l, listOf vs.toArray n) ∈ led) (hi : IntsAre vs ns)
    (h : Q (.bool (decide (k ∈ ns))) s) : wpAny (model prog w) A (compareOp .In (.int k t) (.ref l)) Q E s :=
  in_list_ints (News.isList N hl) hi (by rw [any_mem]; exact h)
end Mine
-- part L13
set_option maxHeartbeats 1000000
namespace Mine
local macro_rules | `(tactic| k_get) => `(tactic| with_reducible assumption)
local macro_rules | `(tactic| walk_at "subscriptTail") => `(tactic| (k_here; (with_reducible show wpAny _ _ (subscriptTail _ _ (Value.ref _) (Value.int _ _)) _ _ _); (with_unfolding_all refine' item_ledT ?k1 ?k2 ?k3 ?k4 ?k5 ?_ ?k6; (case k1 => k_asm); (case k2 => first | k_memK | k_ownIn); (case k3 => first | omega | (simp only [List.length_cons, List.length_nil]; omega)); (case k4 => first | decide | omega); (case k5 => rfl); (case k6 => with_unfolding_all rfl); k_whole)))
theorem law_s13 {w : World} {base : Heap} {L fa : Addr} {cdv : Value} {mg mb u : Str → Option Value} {means : ExcName → Option Value} {s : Shared} {Q : Flow → Shared → Prop} {aB : Addr} {Λ : Led} {c1 c2 c3 c4 : Obj} {x1 x2 x3 x4 : Option Value} {many : Int} {vsB : List Value} {Bs : List (List Int)} {nB : Nat} {rest : List Stmt}
    (KX : (hd.heap_39 w.params).In base) (T : Top hd.view_39 (looseW hd.view_39 []) means mg mb base) (B : Below callerA base [] base)
    (F : Fr base L s.heap (fun y => if y = Str.ofString "body" then some (.ref aB) else u y))
    (N : News base L s.heap ((L + 1 + 1 + 1 + 1, c4) :: (L + 1 + 1 + 1, c3) :: (L + 1 + 1, c2) :: (L + 1, c1) :: Λ))
    (hc1 : c1.data = .cell x1) (hc2 : c2.data = .cell x2) (hc3 : c3.data = .cell x3) (hc4 : c4.data = .cell x4) (hoff : OwnOff Λ (four L))
    (hBm : (aB, listOf vsB.toArray nB) ∈ Λ) (hB : BodyK (inL Λ) vsB Bs) (hBl : vsB.length ≤ 31) (hOk : ∀ b ∈ Bs, OkI many b)
    (h : ∀ h' tk' aX (xs : List Value) nX (c4' : Obj), Fr base L h' (fun y => if y = Str.ofString "body" then some (.ref aB) else u y) → News base L h' ((L + 1 + 1 + 1 + 1, c4') :: (L + 1 + 1 + 1, c3) :: (L + 1 + 1, c2) :: (L + 1, c1) :: (aX, listOf xs.toArray nX) :: Λ) →
      c4'.data = .cell (some (.ref aX)) → IntsAre xs (rds Bs) → xs.length ≤ 31 → OwnOff ((aX, listOf xs.toArray nX) :: Λ) (four L) →
      wpAny (model PROG w) (LA L fa cdv) (execs rest (lenv L fa cdv)) Q Nev { s with heap := h', toks := tk' }) :
    wpAny (model PROG w) (LA L fa cdv) (execs (lawSt 13 :: rest) (lenv L fa cdv)) Q Nev s := by
  w_top off
  delta PROG LA lenv
  revert KX; k_fill; intro KX
  have kMk := kdMark
  conv in (lawSt 13) => whnf
  conv in (occs := *) lawScope => all_goals whnf
  repeat' ((fail_if_success (with_reducible show wpAny _ _ (eval (Expr.ListComp _ _ _ _) _) _ _ _)); first | (k_unfold; (try dsimp only)) | walk1 | (dsimp only; walk1) | (leave1; (try dsimp only)) | fail "no step")
  k_dflt (refine LCt.ListComp_T (F₀ := by k_asm) (by with_unfolding_all rfl) (by decide) (by rfl) (by decide) (by rfl) ?_)
  repeat' ((fail_if_success (with_reducible show LCt.CompSrcT _ _ _ _ _ _ _ _ _ _ _ _ _ _ _)); first | (k_unfold; (try dsimp only)) | walk1 | (dsimp only; walk1) | (leave1; (try dsimp only)) | fail "no step")
  rename Fr _ _ _ _ => F0
  rename News _ _ _ _ => N0
  refine LCt.CompSrcT.ledger (k := nB) (by rfl) F0 N0 (.tail _ (.tail _ (.tail _ (.tail _ hBm)))) (by rw [PySem.sizeLine_eq]; simp only [List.size_toArray]; omega) ?_
  intro g9
  refine rest_indT (n := vsB.toArray.size) (J := fun i ys news => news = ((L + 1 + 1 + 1 + 1, c4) :: (L + 1 + 1 + 1, c3) :: (L + 1 + 1, c2) :: (L + 1, c1) :: Λ) ∧ IntsAre ys (rds (Bs.take i)) ∧ ys.length ≤ i) ?_ ?_ _ 0 [] _ (by omega) ⟨rfl, .nil, Nat.le_refl _⟩
  · rintro i ys news v I oI C oC D m₂ h9 tk9 E9 hi9 ⟨rfl, hys, hyl⟩ hP hC hx F2 N2 off ne
    have hv : vsB[i]? = some v := by simpa using hP
    clear F0 N0 hP
    obtain ⟨b, hb, hbv⟩ := hB.get hv
    obtain ⟨a, n, op, t, its', rfl, hp, hil, hint, hcase⟩ := ins_cases hbv (hOk b (List.mem_of_getElem? hb))
    change (_, _) ∈ Λ at hp
    rcases hcase with ⟨j, t', rfl, rfl, ho, h0, h1⟩ | ⟨h1, h2, h3, r, rfl⟩
    · k_steps
      · rename Fr _ _ _ _ => F8
        rename News _ _ _ _ => N8
        have hop : op = 32 := by assumption
        refine LCg.CompEnd.intro F8 N8 _ (fun p hp => hp) off (.inr ⟨_, .tail _ (.tail _ (.tail _ (.tail _ hBm))), rfl, _, rfl⟩) ⟨rfl, ?_, ?_⟩
        · rw [rds_take hb, hop]
          exact ints_snoc hys _ _
        · rw [List.length_append]; simp only [List.length_cons, List.length_nil]; omega
      · rename Fr _ _ _ _ => F8
        rename News _ _ _ _ => N8
        have hop : op ≠ 32 := by assumption
        refine LCg.CompEnd.intro F8 N8 _ (fun p hp => hp) off (.inr ⟨_, .tail _ (.tail _ (.tail _ (.tail _ hBm))), rfl, _, rfl⟩) ⟨rfl, ?_, by omega⟩
        rw [rds_take hb]
        simpa [rds, hop] using hys
    · k_steps
      · exact absurd (by assumption) h1
      · rename Fr _ _ _ _ => F8
        rename News _ _ _ _ => N8
        refine LCg.CompEnd.intro F8 N8 _ (fun p hp => hp) off (.inr ⟨_, .tail _ (.tail _ (.tail _ (.tail _ hBm))), rfl, _, rfl⟩) ⟨rfl, ?_, by omega⟩
        rw [rds_take hb]
        simpa [rds, h1] using hys
  · rintro ys news ⟨rfl, hys, hyl⟩
    rw [List.size_toArray, hB.length, List.take_length] at hys
    rw [List.size_toArray] at hyl
    clear F0 N0
    intro D h9 tk9 F9 N9 o1
    simp only [LCg.Off1] at o1
    k_steps
    rename Fr _ _ _ _ => F8
    rename News _ _ _ _ => N8
    refine h _ _ D ys ys.length _ F8 (News.sub N8 (by repeat' (first | (refine List.forall_mem_cons.mpr ⟨by k_memK, ?_⟩) | (intro q9 hq9; repeat (first | exact hq9 | apply List.Mem.tail))))) (by assumption) hys (by omega) (own_cons ?_ hoff)
    refine far_cons (Ne.symm o1.1) (far_cons (Ne.symm o1.2.1) (far_cons (Ne.symm o1.2.2.1) (far_cons (Ne.symm o1.2.2.2.1) far_nil)))
end Mine
local macro_rules | `(tactic| walk_at "idle") => `(tactic| fail "idle")
local macro_rules | `(tactic| walk_at "idle") => `(tactic| fail "idle")
-- part L14
set_option maxHeartbeats 1000000
namespace Mine
local macro_rules | `(tactic| k_get) => `(tactic| with_reducible assumption)
local macro_rules | `(tactic| walk_at "call builtin:len") => `(tactic| (k_here; (with_reducible show wpAny _ _ (call (Value.builtin "len") [Value.ref _]) _ _ _); k_dflt (refine' len_ledT ?k1 ?k2 ?k3 ?_; (case k1 => k_asm); (case k2 => first | k_memK | k_ownIn); (case k3 => omega); k_whole)))
theorem law_s14 {w : World} {base : Heap} {L fa : Addr} {cdv : Value} {mg mb u : Str → Option Value} {means : ExcName → Option Value} {s : Shared} {Q : Flow → Shared → Prop} {aG aH aN aK aX : Addr} {Λ : Led} {c1 c2 c3 c4 : Obj} {x1 : Option Value} {p : Nat} {tk tp : Tok} {its qs xs : List Value} {ks R : List Int} {nX : Nat} {rest : List Stmt}
    (KX : (hd.heap_39 w.params).In base) (T : Top hd.view_39 (looseW hd.view_39 []) means mg mb base) (B : Below callerA base [] base)
    (F : Fr base L s.heap (fun y => if y = Str.ofString "told" then some (.ref aG) else u y))
    (N : News base L s.heap ((L + 1 + 1 + 1 + 1, c4) :: (L + 1 + 1 + 1, c3) :: (L + 1 + 1, c2) :: (L + 1, c1) :: Λ))
    (hc1 : c1.data = .cell x1) (hc2 : c2.data = .cell (some (.int (p : Int) tp))) (hc3 : c3.data = .cell (some (.ref aK))) (hc4 : c4.data = .cell (some (.ref aX))) (hoff : OwnOff Λ (four L))
    (hG : FuncK (inL Λ) 45 aG (p : Int) tk (.ref aH) (.ref aN)) (hp : p < 4)
    (hH : (aH, ({ cls := .type "tuple", data := .seq qs.toArray } : Obj)) ∈ Λ) (hqs : IntsAre qs (keptL p R ks ks.length))
    (hK : (aK, ({ cls := .type "tuple", data := .seq its.toArray } : Obj)) ∈ Λ) (hks : IntsAre its ks) (hl : its.length < 7)
    (hX : (aX, listOf xs.toArray nX) ∈ Λ) (hxs : IntsAre xs R) (hxl : xs.length ≤ 31)
    (h : ∀ h' tk', Fr base L h' (fun y => if y = Str.ofString "told" then some (.ref aG) else u y) → News base L h' ((L + 1 + 1 + 1 + 1, c4) :: (L + 1 + 1 + 1, c3) :: (L + 1 + 1, c2) :: (L + 1, c1) :: Λ) →
      wpAny (model PROG w) (LA L fa cdv) (execs rest (lenv L fa cdv)) Q Nev { s with heap := h', toks := tk' }) :
    wpAny (model PROG w) (LA L fa cdv) (execs (lawSt 14 :: rest) (lenv L fa cdv)) Q Nev s := by
  w_top off
  delta PROG LA lenv
  revert KX; k_fill; intro KX
  have kMk := kdMark
  obtain ⟨dG, esG, nG, hg1, hg2, hg3, hg4, hg5, hg6⟩ := hG
  change (_, _) ∈ Λ at hg1 hg2
  conv in (lawSt 14) => whnf
  conv in (occs := *) lawScope => all_goals whnf
  repeat' ((fail_if_success (with_reducible show wpAny _ _ (call (Value.type "tuple") _) _ _ _)); first | (k_unfold; (try dsimp only)) | walk1 | (dsimp only; walk1) | (leave1; (try dsimp only)) | fail "no step")
  refine call_tuple_tup (items := qs.toArray) ⟨_, (N _ (.tail _ (.tail _ (.tail _ (.tail _ hH))))).1, rfl, _, rfl⟩ ?_
  repeat' ((fail_if_success (with_reducible show wpAny _ _ (eval (Expr.ListComp _ _ _ _) _) _ _ _)); first | (k_unfold; (try dsimp only)) | walk1 | (dsimp only; walk1) | (leave1; (try dsimp only)) | fail "no step")
  k_dflt (refine LCt.ListComp_T (F₀ := by k_asm) (by with_unfolding_all rfl) (by decide) (by rfl) (by decide) (by rfl) ?_)
  repeat' ((fail_if_success (with_reducible show LCt.CompSrcT _ _ _ _ _ _ _ _ _ _ _ _ _ _ _)); first | (k_unfold; (try dsimp only)) | walk1 | (dsimp only; walk1) | (leave1; (try dsimp only)) | fail "no step")
  rename IsRange _ _ _ _ _ _ _ _ => R0
  rename Fr _ _ _ _ => F0
  rename News _ _ _ _ => N0
  rename IntsAre its ks => hks
  rename IntsAre qs _ => hqs
  have hlk : its.length = ks.length := hks.length
  refine' LCt.CompSrcT.range (n := its.length) (by rfl) F0 N0 R0 (small_one (by omega) (by omega) (by omega) (by omega)) (by rw [rangeSize_nat]; omega) (by rw [PySem.sizeLine_eq]; omega) ?_
  intro g9
  refine rest_indT (n := its.length) (J := fun i ys news => news = ((L + 1 + 1 + 1 + 1, c4) :: (L + 1 + 1 + 1, c3) :: (L + 1 + 1, c2) :: (L + 1, c1) :: Λ) ∧ IntsAre ys (keptL p R ks i)) ?_ ?_ _ 0 [] _ (by omega) ⟨rfl, by rw [keptL_zero]; exact .nil⟩
  · rintro i ys news v I oI C oC D m₂ h9 tk9 E9 hi9 ⟨rfl, hys⟩ ⟨t9, rfl⟩ hC hx F2 N2 off ne
    rw [show (0 : Int) + (i : Int) = (i : Int) by omega] at hx
    clear F0 N0 R0
    repeat' ((fail_if_success (with_reducible show wpAny _ _ (compareOp _ _ _) _ _ _)); first | (k_unfold; (try dsimp only)) | walk1 | (dsimp only; walk1) | (leave1; (try dsimp only)) | fail "no step")
    rename News _ _ _ _ => N3
    refine in_led N3 (.tail _ (.tail _ (.tail _ (.tail _ (.tail _ (.tail _ (.tail _ hX))))))) hxs ?_
    have ec : ((p + i : Nat) : Int) = (p : Int) + (i : Int) := by omega
    k_steps
    · rename Fr _ _ _ _ => F8
      rename News _ _ _ _ => N8
      have hR : (p : Int) + (i : Int) ∈ R := by assumption
      refine LCg.CompEnd.intro F8 N8 _ (fun p hp => hp) off trivial ⟨rfl, ?_⟩
      rw [keptL_succ, ec, if_pos hR]
      exact ints_snoc hys _ _
    · rename Fr _ _ _ _ => F8
      rename News _ _ _ _ => N8
      have hR : ¬ (p : Int) + (i : Int) ∈ R := by assumption
      refine LCg.CompEnd.intro F8 N8 _ (fun p hp => hp) off trivial ⟨rfl, ?_⟩
      rw [keptL_succ, ec, if_neg hR, List.append_nil]
      exact hys
  · rintro ys news ⟨rfl, hys⟩
    clear F0 N0 R0
    intro D h9 tk9 F9 N9 o1
    simp only [LCg.Off1] at o1
    repeat' ((fail_if_success (with_reducible show wpAny _ _ (call (Value.type "tuple") _) _ _ _)); first | (k_unfold; (try dsimp only)) | walk1 | (dsimp only; walk1) | (leave1; (try dsimp only)) | fail "no step")
    rename Fr _ _ _ _ => F8
    rename News _ _ _ _ => N8
    refine kde_tupleOf (zs := ys) F8 N8 (News.isList N8 (.head _)) (by simp only [List.size_toArray]; rw [hys.length]; have := keptL_len (p := p) (R := R) (ks := ks) (m := its.length); omega) rfl ?_
    intro D2 h2 F2 N2 l2
    k_lt l2
    clear F8 N8
    repeat' ((fail_if_success (with_reducible show wpAny _ _ (compareOp _ _ _) _ _ _)); first | (k_unfold; (try dsimp only)) | walk1 | (dsimp only; walk1) | (leave1; (try dsimp only)) | fail "no step")
    rename Fr _ _ _ _ => F8
    rename News _ _ _ _ => N8
    have NΛ : News base L _ Λ := News.sub N8 (by intro q9 hq9; repeat (first | exact hq9 | apply List.Mem.tail))
    rw [hlk] at hys
    refine ne_self (d := insD (keptL p R ks ks.length)) (.tuple (NΛ _ hH).1 rfl rfl (reads_ints hqs)) (.tuple (News.get N8 (by k_memK)) rfl rfl (reads_ints hys)) insD_shaped insD_self (by ke_room) ?_
    clear NΛ
    k_steps
    exact h _ _ F8 (News.sub N8 (by repeat' (first | (refine List.forall_mem_cons.mpr ⟨by k_memK, ?_⟩) | (intro q9 hq9; repeat (first | exact hq9 | apply List.Mem.tail)))))
end Mine
local macro_rules | `(tactic| walk_at "idle") => `(tactic| fail "idle")
local macro_rules | `(tactic| walk_at "idle") => `(tactic| fail "idle")
-- part PL
set_option maxHeartbeats 1000000
namespace Mine
local macro_rules | `(tactic| k_get) => `(tactic| with_reducible assumption)
theorem pl_use {w : World} {base : Heap} {L fa : Addr} {cdv : Value} {mg mb m : Str → Option Value} {means : ExcName → Option Value} {s : Shared} {Q : Value → Shared → Prop} {aX : Addr} {Λ : Led} {p jn nX : Nat} {tj tp : Tok} {xs : List Value} {R : List Int}
    (KX : (hd.heap_39 w.params).In base) (T : Top hd.view_39 (looseW hd.view_39 []) means mg mb base) (B : Below callerA base [] base)
    (F : Fr base L s.heap m) (N : News base L s.heap Λ) (hX : (aX, listOf xs.toArray nX) ∈ Λ) (hxs : IntsAre xs R) (hxl : xs.length ≤ 31) (hp : p < 4) (hj : jn < 100)
    (h : ∀ h' tk' t, Fr base L h' m → News base L h' Λ → Q (.int (plN p R jn : Int) t) { s with heap := h', toks := tk' }) :
    wpAny (model PROG w) (LA L fa cdv) (call (.ref 190) [.int (jn : Int) tj, .int (p : Int) tp, .ref aX]) Q Nev s := by
  w_top off
  delta PROG LA lenv
  revert KX; k_fill; intro KX
  have kMk := kdMark
  conv in (occs := *) lawScope => all_goals whnf
  repeat' ((fail_if_success (with_reducible show wpAny _ _ (eval (Expr.ListComp _ _ _ _) _) _ _ _)); first | (k_unfold; (try dsimp only)) | walk1 | (dsimp only; walk1) | (leave1; (try dsimp only)) | fail "no step")
  k_dflt (refine LCt.ListComp_T (F₀ := by k_asm) (by with_unfolding_all rfl) (by decide) (by rfl) (by decide) (by rfl) ?_)
  repeat' ((fail_if_success (with_reducible show LCt.CompSrcT _ _ _ _ _ _ _ _ _ _ _ _ _ _ _)); first | (k_unfold; (try dsimp only)) | walk1 | (dsimp only; walk1) | (leave1; (try dsimp only)) | fail "no step")
  rename IsRange _ _ _ _ _ _ _ _ => R0
  rename Fr _ _ _ _ => F0
  rename News _ _ _ _ => N0
  rename_i g l _ _ _ _ _ _ _ _ o1 o2 _ _ _ _ _ _ _ _ _
  refine' LCt.CompSrcT.range (n := jn) (by rfl) F0 N0 R0 (small_one (by omega) (by omega) (by omega) (by omega)) (by rw [rangeSize_nat]; omega) (by rw [PySem.sizeLine_eq]; omega) ?_
  intro g9
  refine rest_indT (n := jn) (J := fun i ys news => news = ((l + 1 + 1, o1) :: (l + 1, o2) :: Λ) ∧ ys.length = plN p R i) ?_ ?_ _ 0 [] _ (by omega) ⟨rfl, rfl⟩
  · rintro i ys news v I oI C oC D m₂ h9 tk9 E9 hi9 ⟨rfl, hys⟩ ⟨t9, rfl⟩ hC hx F2 N2 off ne
    rw [show (0 : Int) + (i : Int) = (i : Int) by omega] at hx
    clear F0 N0 R0
    k_steps
    · rename Fr _ _ _ _ => F8
      rename News _ _ _ _ => N8
      have hlt : i < p := by omega
      refine LCg.CompEnd.intro F8 N8 _ (fun p hp => hp) off trivial ⟨rfl, ?_⟩
      rw [List.length_append, plN_succ, if_pos (.inl hlt), hys]; rfl
    · rename Fr _ _ _ _ => F8
      rename News _ _ _ _ => N8
      have hlt : ¬ i < p := by omega
      refine in_led N8 (.tail _ (.tail _ (.tail _ (.tail _ (.tail _ hX))))) hxs ?_
      k_steps
      · rename Fr _ _ _ _ => F8
        rename News _ _ _ _ => N8
        have hR : (i : Int) ∈ R := by assumption
        refine LCg.CompEnd.intro F8 N8 _ (fun p hp => hp) off trivial ⟨rfl, ?_⟩
        rw [List.length_append, plN_succ, if_pos (.inr hR), hys]; rfl
      · rename Fr _ _ _ _ => F8
        rename News _ _ _ _ => N8
        have hR : ¬ (i : Int) ∈ R := by assumption
        refine LCg.CompEnd.intro F8 N8 _ (fun p hp => hp) off trivial ⟨rfl, ?_⟩
        rw [plN_succ, if_neg (by rintro (q | q); exact hlt q; exact hR q), hys]; rfl
  · rintro ys news ⟨rfl, hys⟩
    clear F0 N0 R0
    intro D h9 tk9 F9 N9 o1
    have hple : plN p R jn ≤ jn := by
      unfold plN
      exact Nat.le_trans (List.length_filter_le _ _) (by rw [List.length_range]; exact Nat.le_refl _)
    repeat' ((fail_if_success (with_reducible show wpAny _ _ (call (Value.builtin "len") _) _ _ _)); first | (k_unfold; (try dsimp only)) | walk1 | (dsimp only; walk1) | (leave1; (try dsimp only)) | fail "no step")
    rename Fr _ _ _ _ => F8
    rename News _ _ _ _ => N8
    refine len_led (vs := ys) (n := ys.length) N8 (.head _) (by omega) ?_
    rw [hys]
    exact leaveK_ F8 (News.sub N8 (l := Λ) (by intro q9 hq9; repeat (first | exact hq9 | apply List.Mem.tail))) fun F N => h _ _ _ F N
end Mine
-- part L16
set_option maxHeartbeats 4000000
namespace Mine
local macro_rules | `(tactic| k_get) => `(tactic| with_reducible assumption)
theorem law_s15 {w : World} {base : Heap} {L fa : Addr} {cdv : Value} {mg mb u : Str → Option Value} {means : ExcName → Option Value} {s : Shared} {Q : Flow → Shared → Prop} {Λ : Led} {c1 c2 c3 c4 : Obj} {rest : List Stmt}
    (KX : (hd.heap_39 w.params).In base) (T : Top hd.view_39 (looseW hd.view_39 []) means mg mb base) (B : Below callerA base [] base)
    (F : Fr base L s.heap u) (N : News base L s.heap ((L + 1 + 1 + 1 + 1, c4) :: (L + 1 + 1 + 1, c3) :: (L + 1 + 1, c2) :: (L + 1, c1) :: Λ))
    (h : ∀ h' tk' aD nD, Fr base L h' (fun y => if y = Str.ofString "due" then some (.ref aD) else u y) → News base L h' ((aD, listOf ([] : List Value).toArray nD) :: (L + 1 + 1 + 1 + 1, c4) :: (L + 1 + 1 + 1, c3) :: (L + 1 + 1, c2) :: (L + 1, c1) :: Λ) → @LT.lt Nat _ (L + 1 + 1 + 1 + 1) aD → AllLt aD Λ →
      wpAny (model PROG w) (LA L fa cdv) (execs rest (lenv L fa cdv)) Q Nev { s with heap := h', toks := tk' }) :
    wpAny (model PROG w) (LA L fa cdv) (execs (lawSt 15 :: rest) (lenv L fa cdv)) Q Nev s := by
  w_top off
  delta PROG LA lenv
  revert KX; k_fill; intro KX
  have kMk := kdMark
  conv in (lawSt 15) => whnf
  conv in (occs := *) lawScope => all_goals whnf
  k_steps
  rename @LT.lt Nat _ _ _ ∧ _ => hlt
  exact h _ _ _ _ (by assumption) (by assumption) (by omega) (by first | exact hlt.2.2.2.2 | assumption)
local macro_rules | `(tactic| walk_at "subscriptTail") => `(tactic| (k_here; (with_reducible show wpAny _ _ (subscriptTail _ _ (Value.ref _) (Value.int _ _)) _ _ _); (with_unfolding_all refine' item_ledT ?k1 ?k2 ?k3 ?k4 ?k5 ?_ ?k6; (case k1 => k_asm); (case k2 => first | k_memK | k_ownIn); (case k3 => first | omega | (simp only [List.length_cons, List.length_nil]; omega)); (case k4 => first | decide | omega); (case k5 => rfl); (case k6 => with_unfolding_all rfl); k_whole)))
theorem law_s16 {w : World} {base : Heap} {L fa : Addr} {cdv : Value} {mg mb u : Str → Option Value} {means : ExcName → Option Value} {s : Shared} {Q : Flow → Shared → Prop} {aB aD aX : Addr} {Λ : Led} {c1 c2 c3 c4 : Obj} {x1 x3 : Option Value} {p nB nD nX : Nat} {many : Int} {tp : Tok} {vsB xs : List Value} {Bs : List (List Int)} {rest : List Stmt}
    (KX : (hd.heap_39 w.params).In base) (T : Top hd.view_39 (looseW hd.view_39 []) means mg mb base) (B : Below callerA base [] base)
    (F : Fr base L s.heap (fun y => if y = Str.ofString "due" then some (.ref aD) else if y = Str.ofString "body" then some (.ref aB) else u y)) (N : News base L s.heap ((aD, listOf ([] : List Value).toArray nD) :: (L + 1 + 1 + 1 + 1, c4) :: (L + 1 + 1 + 1, c3) :: (L + 1 + 1, c2) :: (L + 1, c1) :: Λ))
    (hc1 : c1.data = .cell x1) (hc2 : c2.data = .cell (some (.int (p : Int) tp))) (hc3 : c3.data = .cell x3) (hc4 : c4.data = .cell (some (.ref aX))) (hD : @LT.lt Nat _ (L + 1 + 1 + 1 + 1) aD) (hoff : OwnOff Λ [aD])
    (hX : (aX, listOf xs.toArray nX) ∈ Λ) (hxs : IntsAre xs (rds Bs)) (hxl : xs.length ≤ 31) (hp : p < 4) (hmany : many < 100)
    (hBm : (aB, listOf vsB.toArray nB) ∈ Λ) (hB : BodyK (inL Λ) vsB Bs) (hBl : vsB.length ≤ 31) (hOk : ∀ b ∈ Bs, OkI many b)
    (h : ∀ h' tk' (ys : List Value) nY (Λ1 : Led) v, Fr base L h' (fun y => if y = Str.ofString "plain" then v else (fun y => if y = Str.ofString "due" then some (.ref aD) else if y = Str.ofString "body" then some (.ref aB) else u y) y) → News base L h' ((aD, listOf ys.toArray nY) :: (L + 1 + 1 + 1 + 1, c4) :: (L + 1 + 1 + 1, c3) :: (L + 1 + 1, c2) :: (L + 1, c1) :: Λ1) → (∀ q ∈ Λ, q ∈ Λ1) → BodyK (inL Λ1) ys (nb p (rds Bs) Bs) → ys.length ≤ 31 →
      wpAny (model PROG w) (LA L fa cdv) (execs rest (lenv L fa cdv)) Q Nev { s with heap := h', toks := tk' }) :
    wpAny (model PROG w) (LA L fa cdv) (execs (lawSt 16 :: rest) (lenv L fa cdv)) Q Nev s := by
  w_top off
  delta PROG LA lenv
  revert KX; k_fill; intro KX
  have kMk := kdMark
  conv in (lawSt 16) => whnf
  conv in (occs := *) lawScope => all_goals whnf
  have hxs' : Unit → IntsAre xs (rds Bs) := fun _ => hxs
  repeat' ((fail_if_success (with_reducible show wpAny _ _ (pyIter (Value.ref _)) _ _ _)); first | (k_unfold; (try dsimp only)) | walk1 | (dsimp only; walk1) | (leave1; (try dsimp only)) | fail "no step")
  rename Fr _ _ _ _ => F0
  rename News _ _ _ _ => N0
  refine kdl_iter (fun i m nx => ∃ (ys : List Value) (nY : Nat) (Λ1 : Led), nx = (aD, listOf ys.toArray nY) :: (L + 1 + 1 + 1 + 1, c4) :: (L + 1 + 1 + 1, c3) :: (L + 1 + 1, c2) :: (L + 1, c1) :: Λ1 ∧ (∀ q ∈ Λ, q ∈ Λ1) ∧ OwnOff Λ1 [aD] ∧ BodyK (inL Λ1) ys (nb p (rds Bs) (Bs.take (i))) ∧ ys.length ≤ i ∧ (∀ y, y ≠ Str.ofString "plain" → m y = (fun y => if y = Str.ofString "due" then some (.ref aD) else if y = Str.ofString "body" then some (.ref aB) else u y) y)) rfl (.tail _ (.tail _ (.tail _ (.tail _ (.tail _ hBm))))) F0 N0 ⟨[], nD, Λ, rfl, fun _ hq => hq, hoff, .nil, Nat.le_refl _, fun _ _ => rfl⟩ ?_ ?_
  · rintro i v m1 nx h9 tk9 own hv hso hlm ⟨ys, nY, Λ1, rfl, hs1, ho1, hys, hyl, hm1⟩ F1 N1
    clear F0 N0
    obtain ⟨b, hb, hbv⟩ := hB.get hv
    have hilt : i < vsB.length := (List.getElem?_eq_some_iff.mp hv).1
    obtain ⟨a, n, op, t, its', rfl, hp0, hil, hint, hcase⟩ := ins_cases hbv (hOk b (List.mem_of_getElem? hb))
    change (_, _) ∈ Λ at hp0
    have F2 := fr_swap (M := (fun y => if y = Str.ofString "due" then some (.ref aD) else if y = Str.ofString "body" then some (.ref aB) else u y)) hm1 F1
    clear F1
    change News _ _ _ ((aD, listOf ys.toArray nY) :: (L + 1 + 1 + 1 + 1, c4) :: (L + 1 + 1 + 1, c3) :: (L + 1 + 1, c2) :: (L + 1, c1) :: (Λ1 ++ own)) at N1
    generalize hΩ : Λ1 ++ own = Ω at N1
    have hsΩ : ∀ q ∈ Λ, q ∈ Ω := fun q hq => hΩ ▸ List.mem_append_left _ (hs1 q hq)
    have hp' := hsΩ _ hp0
    have hX' := hsΩ _ hX
    have hoΩ : OwnOff Ω [aD] := by
      intro q hq c hc
      rw [← hΩ] at hq
      rcases List.mem_append.mp hq with hq | hq
      · exact ho1 q hq c hc
      · rw [List.mem_singleton.mp hc]; exact hso q hq aD (.head _)
    have fin : ∀ (ys2 : List Value) nY2 (Λ2 led : Led) h' tk' v2, (∀ q ∈ Λ1, q ∈ Λ2) → OwnOff Λ2 [aD] → BodyK (inL Λ2) ys2 (nb p (rds Bs) (Bs.take (i + 1))) → ys2.length ≤ i + 1 → (∀ q ∈ own, ∀ r ∈ Λ2, q.1 ≠ r.1) → (∀ q ∈ Λ2, q ∈ led) → (∀ q ∈ (L + 1 + 1 + 1 + 1, c4) :: (L + 1 + 1 + 1, c3) :: (L + 1 + 1, c2) :: (L + 1, c1) :: Ω, q ∈ led) → (aD, listOf ys2.toArray nY2) ∈ led → Fr base L h' (fun y => if y = Str.ofString "plain" then v2 else (fun y => if y = Str.ofString "due" then some (.ref aD) else if y = Str.ofString "body" then some (.ref aB) else u y) y) → News base L h' led → InvEndG base L (fun m nx => (aB, listOf vsB.toArray nB) ∈ nx ∧ ∃ (ys : List Value) (nY : Nat) (Λ1 : Led), nx = (aD, listOf ys.toArray nY) :: (L + 1 + 1 + 1 + 1, c4) :: (L + 1 + 1 + 1, c3) :: (L + 1 + 1, c2) :: (L + 1, c1) :: Λ1 ∧ (∀ q ∈ Λ, q ∈ Λ1) ∧ OwnOff Λ1 [aD] ∧ BodyK (inL Λ1) ys (nb p (rds Bs) (Bs.take (i + 1))) ∧ ys.length ≤ i + 1 ∧ (∀ y, y ≠ Str.ofString "plain" → m y = (fun y => if y = Str.ofString "due" then some (.ref aD) else if y = Str.ofString "body" then some (.ref aB) else u y) y)) own { s with heap := h9, toks := tk9 } { s with heap := h', toks := tk' } := by
      intro ys2 nY2 Λ2 led h' tk' v2 a1 a2 a3 a4 a5 a6 a7 a8 F3 N3
      refine InvEndG.intro F3 N3 (nx := (aD, listOf ys2.toArray nY2) :: (L + 1 + 1 + 1 + 1, c4) :: (L + 1 + 1 + 1, c3) :: (L + 1 + 1, c2) :: (L + 1, c1) :: Λ2) ⟨.tail _ (.tail _ (.tail _ (.tail _ (.tail _ (a1 _ (hs1 _ hBm)))))), ys2, nY2, Λ2, rfl, fun q hq => a1 q (hs1 q hq), a2, a3, a4, fun y hy => if_neg hy⟩ ?_ ?_ ?_
      · intro q hq c hc
        obtain ⟨r, hr, rfl⟩ := List.mem_map.mp hc
        rcases List.mem_cons.mp hr with rfl | hr
        · exact hso q hq aD (.head _)
        · rcases List.mem_cons.mp hr with rfl | hr
          · exact hso q hq _ (.tail _ (.head _))
          · rcases List.mem_cons.mp hr with rfl | hr
            · exact hso q hq _ (.tail _ (.tail _ (.head _)))
            · rcases List.mem_cons.mp hr with rfl | hr
              · exact hso q hq _ (.tail _ (.tail _ (.tail _ (.head _))))
              · rcases List.mem_cons.mp hr with rfl | hr
                · exact hso q hq _ (.tail _ (.tail _ (.tail _ (.tail _ (.head _)))))
                · exact a5 q hq r hr
      · intro q hq
        rcases List.mem_cons.mp hq with rfl | hq
        · exact a8
        · rcases List.mem_cons.mp hq with rfl | hq
          · exact a7 _ (.head _)
          · rcases List.mem_cons.mp hq with rfl | hq
            · exact a7 _ (.tail _ (.head _))
            · rcases List.mem_cons.mp hq with rfl | hq
              · exact a7 _ (.tail _ (.tail _ (.head _)))
              · rcases List.mem_cons.mp hq with rfl | hq
                · exact a7 _ (.tail _ (.tail _ (.tail _ (.head _))))
                · exact a6 q hq
      · intro q hq
        exact a7 q (.tail _ (.tail _ (.tail _ (.tail _ (hΩ ▸ List.mem_append_right _ hq)))))
    have hoΛ : ∀ q ∈ own, ∀ r ∈ Λ1, q.1 ≠ r.1 := fun q hq r hr => hso q hq r.1 (List.mem_map.mpr ⟨r, .tail _ (.tail _ (.tail _ (.tail _ (.tail _ hr)))), rfl⟩)
    have fin1 : ∀ (D : Addr) (its2 : List Value) nD (b' : List Int) nY2 (led : Led) h' tk' v2, AllLt D Ω → @Ne Nat D aD → IntsAre its2 b' → nb1 p (rds Bs) b = [b'] → (D, ({ cls := .type "tuple", data := .seq its2.toArray nD } : Obj)) ∈ led → (∀ q ∈ (L + 1 + 1 + 1 + 1, c4) :: (L + 1 + 1 + 1, c3) :: (L + 1 + 1, c2) :: (L + 1, c1) :: Ω, q ∈ led) → (aD, listOf (ys ++ [Value.ref D]).toArray nY2) ∈ led → Fr base L h' (fun y => if y = Str.ofString "plain" then v2 else (fun y => if y = Str.ofString "due" then some (.ref aD) else if y = Str.ofString "body" then some (.ref aB) else u y) y) → News base L h' led → InvEndG base L (fun m nx => (aB, listOf vsB.toArray nB) ∈ nx ∧ ∃ (ys : List Value) (nY : Nat) (Λ1 : Led), nx = (aD, listOf ys.toArray nY) :: (L + 1 + 1 + 1 + 1, c4) :: (L + 1 + 1 + 1, c3) :: (L + 1 + 1, c2) :: (L + 1, c1) :: Λ1 ∧ (∀ q ∈ Λ, q ∈ Λ1) ∧ OwnOff Λ1 [aD] ∧ BodyK (inL Λ1) ys (nb p (rds Bs) (Bs.take (i + 1))) ∧ ys.length ≤ i + 1 ∧ (∀ y, y ≠ Str.ofString "plain" → m y = (fun y => if y = Str.ofString "due" then some (.ref aD) else if y = Str.ofString "body" then some (.ref aB) else u y) y)) own { s with heap := h9, toks := tk9 } { s with heap := h', toks := tk' } := by
      intro D its2 nD b' nY2 led h' tk' v2 d1 d2 d3 d4 d5 d6 d7 F3 N3
      refine fin (ys ++ [.ref D]) nY2 ((D, ({ cls := .type "tuple", data := .seq its2.toArray nD } : Obj)) :: Λ1) led h' tk' v2 (fun q hq => .tail _ hq) (own_cons (far_cons d2 far_nil) ho1) ?_ ?_ ?_ ?_ d6 d7 F3 N3
      · rw [nb_take hb, d4]
        exact BodyK.append (hys.mono fun _ _ hq => .tail _ hq) (.cons ⟨its2, ⟨D, nD, rfl, .head _⟩, d3⟩ .nil)
      · rw [List.length_append]; simp only [List.length_cons, List.length_nil]; omega
      · intro q hq r hr
        rcases List.mem_cons.mp hr with rfl | hr
        · exact Nat.ne_of_lt (allLt_mem d1 q (hΩ ▸ List.mem_append_right _ hq))
        · exact hoΛ q hq r hr
      · intro q hq
        rcases List.mem_cons.mp hq with rfl | hq
        · exact d5
        · exact d6 q (.tail _ (.tail _ (.tail _ (.tail _ (hΩ ▸ List.mem_append_left _ hq)))))
    have fin2 : ∀ nY2 (led : Led) h' tk' v2, nb1 p (rds Bs) b = [b] → (∀ q ∈ (L + 1 + 1 + 1 + 1, c4) :: (L + 1 + 1 + 1, c3) :: (L + 1 + 1, c2) :: (L + 1, c1) :: Ω, q ∈ led) → (aD, listOf (ys ++ [Value.ref a]).toArray nY2) ∈ led → Fr base L h' (fun y => if y = Str.ofString "plain" then v2 else (fun y => if y = Str.ofString "due" then some (.ref aD) else if y = Str.ofString "body" then some (.ref aB) else u y) y) → News base L h' led → InvEndG base L (fun m nx => (aB, listOf vsB.toArray nB) ∈ nx ∧ ∃ (ys : List Value) (nY : Nat) (Λ1 : Led), nx = (aD, listOf ys.toArray nY) :: (L + 1 + 1 + 1 + 1, c4) :: (L + 1 + 1 + 1, c3) :: (L + 1 + 1, c2) :: (L + 1, c1) :: Λ1 ∧ (∀ q ∈ Λ, q ∈ Λ1) ∧ OwnOff Λ1 [aD] ∧ BodyK (inL Λ1) ys (nb p (rds Bs) (Bs.take (i + 1))) ∧ ys.length ≤ i + 1 ∧ (∀ y, y ≠ Str.ofString "plain" → m y = (fun y => if y = Str.ofString "due" then some (.ref aD) else if y = Str.ofString "body" then some (.ref aB) else u y) y)) own { s with heap := h9, toks := tk9 } { s with heap := h', toks := tk' } := by
      intro nY2 led h' tk' v2 d4 d6 d7 F3 N3
      refine fin (ys ++ [.ref a]) nY2 Λ1 led h' tk' v2 (fun q hq => hq) ho1 ?_ ?_ hoΛ (fun q hq => d6 q (.tail _ (.tail _ (.tail _ (.tail _ (hΩ ▸ List.mem_append_left _ hq)))))) d6 d7 F3 N3
      · rw [nb_take hb, d4]
        exact BodyK.append hys (.cons (hbv.mono fun _ _ hq => hs1 _ hq) .nil)
      · rw [List.length_append]; simp only [List.length_cons, List.length_nil]; omega
    have fin3 : ∀ nY2 (led : Led) h' tk' v2, nb1 p (rds Bs) b = [] → (∀ q ∈ (L + 1 + 1 + 1 + 1, c4) :: (L + 1 + 1 + 1, c3) :: (L + 1 + 1, c2) :: (L + 1, c1) :: Ω, q ∈ led) → (aD, listOf ys.toArray nY2) ∈ led → Fr base L h' (fun y => if y = Str.ofString "plain" then v2 else (fun y => if y = Str.ofString "due" then some (.ref aD) else if y = Str.ofString "body" then some (.ref aB) else u y) y) → News base L h' led → InvEndG base L (fun m nx => (aB, listOf vsB.toArray nB) ∈ nx ∧ ∃ (ys : List Value) (nY : Nat) (Λ1 : Led), nx = (aD, listOf ys.toArray nY) :: (L + 1 + 1 + 1 + 1, c4) :: (L + 1 + 1 + 1, c3) :: (L + 1 + 1, c2) :: (L + 1, c1) :: Λ1 ∧ (∀ q ∈ Λ, q ∈ Λ1) ∧ OwnOff Λ1 [aD] ∧ BodyK (inL Λ1) ys (nb p (rds Bs) (Bs.take (i + 1))) ∧ ys.length ≤ i + 1 ∧ (∀ y, y ≠ Str.ofString "plain" → m y = (fun y => if y = Str.ofString "due" then some (.ref aD) else if y = Str.ofString "body" then some (.ref aB) else u y) y)) own { s with heap := h9, toks := tk9 } { s with heap := h', toks := tk' } := by
      intro nY2 led h' tk' v2 d4 d6 d7 F3 N3
      refine fin ys nY2 Λ1 led h' tk' v2 (fun q hq => hq) ho1 ?_ (by omega) hoΛ (fun q hq => d6 q (.tail _ (.tail _ (.tail _ (.tail _ (hΩ ▸ List.mem_append_left _ hq)))))) d6 d7 F3 N3
      rw [nb_take hb, d4, List.append_nil]
      exact hys
    rcases hcase with ⟨j, t', rfl, rfl, ho, h0, h1⟩ | ⟨h1, h2, h3, r, rfl⟩
    · obtain ⟨jn, rfl⟩ := Int.eq_ofNat_of_zero_le h0
      rcases ho with rfl | rfl | rfl
      · repeat' ((fail_if_success (with_reducible show wpAny _ _ (compareOp CmpOp.In _ _) _ _ _)); first | (k_unfold; (try dsimp only)) | walk1 | (dsimp only; walk1) | (leave1; (try dsimp only)) | fail "no step")
        rename News _ _ _ _ => N3
        refine in_led N3 (by k_ownIn) (hxs' ()) ?_
        repeat' ((fail_if_success (with_reducible show wpAny _ _ (call (Value.ref _) [_, _, _]) _ _ _)); first | (k_unfold; (try dsimp only)) | walk1 | (dsimp only; walk1) | (leave1; (try dsimp only)) | fail "no step")
        · have hjR : (jn : Int) ∈ rds Bs := by assumption
          rename Fr _ _ _ _ => F3
          rename News _ _ _ _ => N3
          refine pl_use KX T B F3 N3 (by k_ownIn) (hxs' ()) hxl hp (by omega) ?_
          intro h7 tk7 t7 F7 N7
          k_steps
          rename Fr _ _ _ _ => F8
          rename News _ _ _ _ => N8
          rw [List.push_toArray] at N8
          rename @LT.lt Nat _ _ _ ∧ @LT.lt Nat _ aD _ ∧ _ => lD
          exact fin1 _ _ _ [32, (plN p (rds Bs) jn : Int)] _ _ _ _ _ lD.2.2.2.2.2.2 (Nat.ne_of_gt lD.2.1) (.cons _ _ (.cons _ _ .nil)) (by simp [nb1, hjR]) (by k_memK) (by intro q9 hq9; repeat (first | exact hq9 | apply List.Mem.tail)) (by k_memK) F8 N8
        · have hjR : ¬ (jn : Int) ∈ rds Bs := by assumption
          exact absurd (rds_mem (List.mem_of_getElem? hb)) hjR
      · repeat' ((fail_if_success (with_reducible show wpAny _ _ (compareOp CmpOp.In _ _) _ _ _)); first | (k_unfold; (try dsimp only)) | walk1 | (dsimp only; walk1) | (leave1; (try dsimp only)) | fail "no step")
        rename News _ _ _ _ => N3
        refine in_led N3 (by k_ownIn) (hxs' ()) ?_
        repeat' ((fail_if_success (with_reducible show wpAny _ _ (call (Value.ref _) [_, _, _]) _ _ _)); first | (k_unfold; (try dsimp only)) | walk1 | (dsimp only; walk1) | (leave1; (try dsimp only)) | fail "no step")
        · have hjR : (jn : Int) ∈ rds Bs := by assumption
          rename Fr _ _ _ _ => F3
          rename News _ _ _ _ => N3
          refine pl_use KX T B F3 N3 (by k_ownIn) (hxs' ()) hxl hp (by omega) ?_
          intro h7 tk7 t7 F7 N7
          k_steps
          rename Fr _ _ _ _ => F8
          rename News _ _ _ _ => N8
          rw [List.push_toArray] at N8
          rename @LT.lt Nat _ _ _ ∧ @LT.lt Nat _ aD _ ∧ _ => lD
          exact fin1 _ _ _ [33, (plN p (rds Bs) jn : Int)] _ _ _ _ _ lD.2.2.2.2.2.2 (Nat.ne_of_gt lD.2.1) (.cons _ _ (.cons _ _ .nil)) (by simp [nb1, hjR]) (by k_memK) (by intro q9 hq9; repeat (first | exact hq9 | apply List.Mem.tail)) (by k_memK) F8 N8
        · have hjR : ¬ (jn : Int) ∈ rds Bs := by assumption
          rename Fr _ _ _ _ => F8
          rename News _ _ _ _ => N8
          rw [List.push_toArray] at N8
          rename @LT.lt Nat _ _ _ ∧ @LT.lt Nat _ aD _ ∧ _ => lD
          exact fin1 _ _ _ [26] _ _ _ _ _ lD.2.2.2.2.2.2 (Nat.ne_of_gt lD.2.1) (.cons _ _ .nil) (by simp [nb1, hjR]) (by k_memK) (by intro q9 hq9; repeat (first | exact hq9 | apply List.Mem.tail)) (by k_memK) F8 N8
      · repeat' ((fail_if_success (with_reducible show wpAny _ _ (compareOp CmpOp.In _ _) _ _ _)); first | (k_unfold; (try dsimp only)) | walk1 | (dsimp only; walk1) | (leave1; (try dsimp only)) | fail "no step")
        rename News _ _ _ _ => N3
        refine in_led N3 (by k_ownIn) (hxs' ()) ?_
        repeat' ((fail_if_success (with_reducible show wpAny _ _ (call (Value.ref _) [_, _, _]) _ _ _)); first | (k_unfold; (try dsimp only)) | walk1 | (dsimp only; walk1) | (leave1; (try dsimp only)) | fail "no step")
        · have hjR : (jn : Int) ∈ rds Bs := by assumption
          rename Fr _ _ _ _ => F3
          rename News _ _ _ _ => N3
          refine pl_use KX T B F3 N3 (by k_ownIn) (hxs' ()) hxl hp (by omega) ?_
          intro h7 tk7 t7 F7 N7
          k_steps
          rename Fr _ _ _ _ => F8
          rename News _ _ _ _ => N8
          rw [List.push_toArray] at N8
          rename @LT.lt Nat _ _ _ ∧ @LT.lt Nat _ aD _ ∧ _ => lD
          exact fin1 _ _ _ [34, (plN p (rds Bs) jn : Int)] _ _ _ _ _ lD.2.2.2.2.2.2 (Nat.ne_of_gt lD.2.1) (.cons _ _ (.cons _ _ .nil)) (by simp [nb1, hjR]) (by k_memK) (by intro q9 hq9; repeat (first | exact hq9 | apply List.Mem.tail)) (by k_memK) F8 N8
        · have hjR : ¬ (jn : Int) ∈ rds Bs := by assumption
          rename Fr _ _ _ _ => F8
          rename News _ _ _ _ => N8
          exact fin3 _ _ _ _ _ (by simp [nb1, hjR]) (by intro q9 hq9; repeat (first | exact hq9 | apply List.Mem.tail)) (by k_memK) F8 N8
    · k_steps
      · rename (_ = true) => hany
        exact absurd hany (by simp; omega)
      · rename Fr _ _ _ _ => F8
        rename News _ _ _ _ => N8
        rw [List.push_toArray] at N8
        exact fin2 _ _ _ _ _ (by simp [nb1, h1, h2, h3]) (by intro q9 hq9; repeat (first | exact hq9 | apply List.Mem.tail)) (by k_memK) F8 N8
  · rintro m1 nx h9 tk9 ⟨ys, nY, Λ1, rfl, hs1, ho1, hys, hyl, hm1⟩ F9 N9
    have F8 := fr_out (M := (fun y => if y = Str.ofString "due" then some (.ref aD) else if y = Str.ofString "body" then some (.ref aB) else u y)) hm1 F9
    rw [hB.length, List.take_length] at hys
    exact h _ _ ys nY Λ1 _ F8 N9 hs1 hys (by omega)
end Mine
local macro_rules | `(tactic| walk_at "idle") => `(tactic| fail "idle")
local macro_rules | `(tactic| walk_at "idle") => `(tactic| fail "idle")
-- part L17
set_option maxHeartbeats 1000000
namespace Mine
local macro_rules | `(tactic| k_get) => `(tactic| with_reducible assumption)
theorem law_s17 {w : World} {base : Heap} {L fa : Addr} {cdv : Value} {mg mb u : Str → Option Value} {means : ExcName → Option Value} {s : Shared} {Q : Flow → Shared → Prop} {aG aN aD : Addr} {Λ : Led} {p : Int} {tk : Tok} {loc : Value} {ys zs : List Value} {Cs : List (List Int)} {nY nZ : Nat}
    (KX : (hd.heap_39 w.params).In base) (T : Top hd.view_39 (looseW hd.view_39 []) means mg mb base) (B : Below callerA base [] base)
    (F : Fr base L s.heap (fun y => if y = Str.ofString "told" then some (.ref aG) else if y = Str.ofString "due" then some (.ref aD) else u y))
    (N : News base L s.heap Λ) (hG : FuncK (inL Λ) 45 aG p tk loc (.ref aN))
    (hN : (aN, listOf zs.toArray nZ) ∈ Λ) (hz : BodyK (inL Λ) zs Cs) (hzl : zs.length ≤ 31)
    (hD : (aD, listOf ys.toArray nY) ∈ Λ) (hy : BodyK (inL Λ) ys Cs) (hyl : ys.length ≤ 31)
    (h : ∀ h' tk' m', Fr base L h' m' → News base L h' Λ → Q (.ret (.bool true)) { s with heap := h', toks := tk' }) :
    wpAny (model PROG w) (LA L fa cdv) (execs [lawSt 17] (lenv L fa cdv)) Q Nev s := by
  w_top off
  delta PROG LA lenv
  revert KX; k_fill; intro KX
  have kMk := kdMark
  obtain ⟨dG, esG, nG, hg1, hg2, hg3, hg4, hg5, hg6⟩ := hG
  change (_, _) ∈ Λ at hg1 hg2
  conv in (lawSt 17) => whnf
  conv in (occs := *) lawScope => all_goals whnf
  repeat' ((fail_if_success (with_reducible show wpAny _ _ (call (Value.type "list") _) _ _ _)); first | (k_unfold; (try dsimp only)) | walk1 | (dsimp only; walk1) | (leave1; (try dsimp only)) | fail "no step")
  rename Fr _ _ _ _ => F0
  rename News _ _ _ _ => N0
  refine list_copyK F0 N0 (News.isList N0 hN) ?_ (by rw [PySem.sizeLine_eq]; simp only [List.size_toArray]; omega)
  intro D c h' F' N' l1
  clear F0 N0
  repeat' ((fail_if_success (with_reducible show wpAny _ _ (compareOp _ _ _) _ _ _)); first | (k_unfold; (try dsimp only)) | walk1 | (dsimp only; walk1) | (leave1; (try dsimp only)) | fail "no step")
  rename Fr _ _ _ _ => F8
  rename News _ _ _ _ => N8
  have NΛ : News base L _ Λ := News.sub N8 (by intro q9 hq9; repeat (first | exact hq9 | apply List.Mem.tail))
  refine eq_self' (d := .list (bodD Cs)) (.list (News.get N8 (.head _)) rfl rfl (reads_body NΛ hz)) (.list (NΛ _ hD).1 rfl rfl (reads_body NΛ hy)) lstD_shaped lstD_self (by ke_room) ?_
  clear NΛ
  k_steps
  exact h _ _ _ F8 (News.sub N8 (by intro q9 hq9; repeat (first | exact hq9 | apply List.Mem.tail)))
end Mine
-- part L0
set_option maxHeartbeats 4000000
namespace Mine
abbrev five (L aT : Addr) : List Addr := [L + 1 + 1 + 1 + 1, L + 1 + 1 + 1, L + 1 + 1, L + 1, aT]
theorem far5 {base h : Heap} {L aT d : Addr} {o c1 c2 c3 c4 : Obj} {x1 x2 x3 x4 : Option Value} {led : Led} (N : News base L h led) (m4 : (L + 1 + 1 + 1 + 1, c4) ∈ led) (m3 : (L + 1 + 1 + 1, c3) ∈ led) (m2 : (L + 1 + 1, c2) ∈ led) (m1 : (L + 1, c1) ∈ led) (h1 : c1.data = .cell x1) (h2 : c2.data = .cell x2) (h3 : c3.data = .cell x3) (h4 : c4.data = .cell x4)
    (hm : (d, o) ∈ led) (ho : ∀ x, o.data ≠ .cell x) (hne : @Ne Nat d aT) : (d, o) ∈ offL (five L aT) led :=
  offL_mem hm (far_cons (cell_ne N hm m4 h4 ho) (far_cons (cell_ne N hm m3 h3 ho) (far_cons (cell_ne N hm m2 h2 ho) (far_cons (cell_ne N hm m1 h1 ho) (far_cons hne far_nil)))))
theorem pack5 {base h : Heap} {L aT : Addr} {ws : List Value} {n : Nat} {c1 c2 c3 c4 : Obj} {x1 x2 x3 x4 : Option Value} {led : Led} (N : News base L h led) (m4 : (L + 1 + 1 + 1 + 1, c4) ∈ led) (m3 : (L + 1 + 1 + 1, c3) ∈ led) (m2 : (L + 1 + 1, c2) ∈ led) (m1 : (L + 1, c1) ∈ led) (mT : (aT, listOf ws.toArray n) ∈ led) (h1 : c1.data = .cell x1) (h2 : c2.data = .cell x2) (h3 : c3.data = .cell x3) (h4 : c4.data = .cell x4) :
    ∃ Λ', News base L h Λ' ∧ OwnOff Λ' (five L aT) ∧ (∀ d o, (d, o) ∈ led → (∀ x, o.data ≠ .cell x) → o.cls ≠ .type "list" → (d, o) ∈ Λ') ∧ (∀ d o, (d, o) ∈ led → (∀ x, o.data ≠ .cell x) → @Ne Nat d aT → (d, o) ∈ Λ') :=
  ⟨offL (five L aT) led, News.sub N offL_sub, offL_off, fun _ _ hm ho hl => far5 N m4 m3 m2 m1 h1 h2 h3 h4 hm ho (cls_ne N hm mT hl), fun _ _ hm ho hne => far5 N m4 m3 m2 m1 h1 h2 h3 h4 hm ho hne⟩
theorem law_s0 {w : World} {base : Heap} {L fa : Addr} {cdv : Value} {mg mb u : Str → Option Value} {means : ExcName → Option Value} {s : Shared} {Q : Flow → Shared → Prop} {aS : Addr} {vs : List Value} {ns : List Int} {c1 c2 c3 c4 : Obj} {x1 x2 x3 x4 : Option Value} {rest : List Stmt}
    (KX : (hd.heap_39 w.params).In base) (T : Top hd.view_39 (looseW hd.view_39 []) means mg mb base) (B : Below callerA base [] base)
    (F : Fr base L s.heap (fun y => if y = Str.ofString "script" then some (.ref aS) else u y)) (N : News base L s.heap [(L + 1 + 1 + 1 + 1, c4), (L + 1 + 1 + 1, c3), (L + 1 + 1, c2), (L + 1, c1)])
    (hc1 : c1.data = .cell x1) (hc2 : c2.data = .cell x2) (hc3 : c3.data = .cell x3) (hc4 : c4.data = .cell x4)
    (hS : base.IsList aS vs.toArray) (hi : IntsAre vs ns) (hz : ns.length ≤ 63)
    (h : ∀ h' tk' aT aM (c1' : Obj) (ws : List Value) n (Λ : Led), Fr base L h' (fun y => if y = Str.ofString "module" then some (.ref aM) else if y = Str.ofString "script" then some (.ref aS) else u y) →
      News base L h' ((L + 1 + 1 + 1 + 1, c4) :: (L + 1 + 1 + 1, c3) :: (L + 1 + 1, c2) :: (L + 1, c1') :: (aT, listOf ws.toArray n) :: Λ) → c1'.data = .cell (some (.ref aT)) → @LT.lt Nat _ (L + 1 + 1 + 1 + 1) aT → OwnOff Λ (five L aT) → IntsAre ws ns.reverse → ModK (inL Λ) aM →
      wpAny (model PROG w) (LA L fa cdv) (execs rest (lenv L fa cdv)) Q Nev { s with heap := h', toks := tk' }) :
    wpAny (model PROG w) (LA L fa cdv) (execs (lawSt 0 :: lawSt 1 :: lawSt 2 :: rest) (lenv L fa cdv)) Q Nev s := by
  w_top off
  delta PROG LA lenv
  revert KX; k_fill; intro KX
  have kMk := kdMark
  conv in (lawSt 0) => whnf
  conv in (lawSt 1) => whnf
  conv in (lawSt 2) => whnf
  conv in (occs := *) lawScope => all_goals whnf
  k_steps
  rename News _ _ _ _ => N9
  rename Fr base _ _ _ => F9
  rename IntsAre _ (List.reverse ns) => hI
  rename (Obj.data _ = Data.cell (some _)) => hd1
  rename_i aT ws _ _ _ _ _ x0 d0 _ _ _ _ _ _ _ _ _ _ _ _ _ _ _ _ _ _ _ _ _ _ _ _ _ _ _ _ _ _ _ _ _ _ _ _ _ _ _ _ _ _ _ _ _ _ _ _ _ _ _ _ _ _ _ _ _ _ _ _ _ _ _ _ _ _ _ _ _ _ _ _ _ _ _ _ _ _ _ _ _ _ _ _ _ _ _ _ _ _ _ _ _ _ _ _ _ _ _ _ _ _ lK _ _ _
  have hne : @Ne Nat lK aT := by omega
  obtain ⟨Λ', NΛ, oΛ, hT, hT2⟩ := pack5 (aT := aT) N9 (by k_memK) (by k_memK) (by k_memK) (by k_memK) (by k_memK) hd1 hc2 hc3 hc4
  have hM : ModK (inL Λ') x0 := by
    refine ⟨d0, _, _, lK, _, [_, _, _, _], (hT _ _ (by k_memK) (fun x e => by cases e) (by intro e; cases e)), (hT _ _ (by k_memK) (fun x e => by cases e) (by intro e; injection e with e; exact absurd e (by decide))), by k_get, hT2 _ _ (by k_memK) (fun x e => by cases e) hne, rfl, ?_⟩
    intro i t e
    rcases i with _ | _ | _ | _ | i
    · obtain rfl := Option.some.inj e
      exact ⟨_, _, _, ⟨_, _, rfl, (hT _ _ (by k_memK) (fun x e => by cases e) (by intro e; injection e with e; exact absurd e (by decide)))⟩, ⟨_, _, rfl, (hT _ _ (by k_memK) (fun x e => by cases e) (by intro e; injection e with e; exact absurd e (by decide)))⟩, rfl⟩
    · obtain rfl := Option.some.inj e
      exact ⟨_, _, _, ⟨_, _, rfl, (hT _ _ (by k_memK) (fun x e => by cases e) (by intro e; injection e with e; exact absurd e (by decide)))⟩, ⟨_, _, rfl, (hT _ _ (by k_memK) (fun x e => by cases e) (by intro e; injection e with e; exact absurd e (by decide)))⟩, rfl⟩
    · obtain rfl := Option.some.inj e
      exact ⟨_, _, _, ⟨_, _, rfl, (hT _ _ (by k_memK) (fun x e => by cases e) (by intro e; injection e with e; exact absurd e (by decide)))⟩, ⟨_, _, rfl, (hT _ _ (by k_memK) (fun x e => by cases e) (by intro e; injection e with e; exact absurd e (by decide)))⟩, rfl⟩
    · obtain rfl := Option.some.inj e
      exact ⟨_, _, _, ⟨_, _, rfl, (hT _ _ (by k_memK) (fun x e => by cases e) (by intro e; injection e with e; exact absurd e (by decide)))⟩, ⟨_, _, rfl, (hT _ _ (by k_memK) (fun x e => by cases e) (by intro e; injection e with e; exact absurd e (by decide)))⟩, rfl⟩
    · simp at e
  exact h _ _ aT x0 _ ws _ Λ' F9 (news_cons N9 (by k_memK) (news_cons N9 (by k_memK) (news_cons N9 (by k_memK) (news_cons N9 (by k_memK) (news_cons N9 (by k_memK) NΛ))))) hd1 (by omega) oΛ hI hM
end Mine
-- part JN
set_option maxHeartbeats 4000000
namespace Mine
theorem law_all {w : World} {base : Heap} {L fa : Addr} {cdv : Value} {mg mb u : Str → Option Value} {means : ExcName → Option Value} {s : Shared} {Q : Flow → Shared → Prop} {aS : Addr} {vs : List Value} {ns : List Int} {c1 c2 c3 c4 : Obj} {x1 x2 x3 x4 : Option Value}
    (KX : (hd.heap_39 w.params).In base) (T : Top hd.view_39 (looseW hd.view_39 []) means mg mb base) (B : Below callerA base [] base)
    (F : Fr base L s.heap (fun y => if y = Str.ofString "script" then some (.ref aS) else u y)) (N : News base L s.heap [(L + 1 + 1 + 1 + 1, c4), (L + 1 + 1 + 1, c3), (L + 1 + 1, c2), (L + 1, c1)])
    (hc1 : c1.data = .cell x1) (hc2 : c2.data = .cell x2) (hc3 : c3.data = .cell x3) (hc4 : c4.data = .cell x4)
    (hS : base.IsList aS vs.toArray) (hi : IntsAre vs ns) (hz : ns.length ≤ 63)
    (h : ∀ h' tk' m' Λ', Fr base L h' m' → News base L h' Λ' → Q (.ret (.bool true)) { s with heap := h', toks := tk' }) :
    wpAny (model PROG w) (LA L fa cdv) (execs [lawSt 0, lawSt 1, lawSt 2, lawSt 3, lawSt 4, lawSt 5, lawSt 6, lawSt 7, lawSt 8, lawSt 9, lawSt 10, lawSt 11, lawSt 12, lawSt 13, lawSt 14, lawSt 15, lawSt 16, lawSt 17] (lenv L fa cdv)) Q Nev s := by
  refine law_s0 (rest := [lawSt 3, lawSt 4, lawSt 5, lawSt 6, lawSt 7, lawSt 8, lawSt 9, lawSt 10, lawSt 11, lawSt 12, lawSt 13, lawSt 14, lawSt 15, lawSt 16, lawSt 17]) KX T B F N hc1 hc2 hc3 hc4 hS hi hz ?_
  intro h1 tk1 aT aM c1' ws n1 Λ1 F1 N1 hd1 hT1 o1 hi1 hM1
  refine law_s3 (rest := [lawSt 5, lawSt 6, lawSt 7, lawSt 8, lawSt 9, lawSt 10, lawSt 11, lawSt 12, lawSt 13, lawSt 14, lawSt 15, lawSt 16, lawSt 17]) KX T B F1 N1 hd1 hc2 hc3 hc4 hT1 o1 hi1 (by rw [List.length_reverse]; exact hz) hM1 ?_
  intro h2 tk2 k tk tp c2' ws2 n2 hk0 hk4 F2 N2 hd2 hi2
  obtain ⟨p, rfl⟩ := Int.eq_ofNat_of_zero_le hk0
  refine law_s5 (rest := [lawSt 6, lawSt 7, lawSt 8, lawSt 9, lawSt 10, lawSt 11, lawSt 12, lawSt 13, lawSt 14, lawSt 15, lawSt 16, lawSt 17]) KX T B F2 N2 hd1 hd2 hc3 hc4 hT1 o1 hi2 (by rw [List.length_dropLast, List.length_reverse]; omega) ?_
  intro h3 tk3 aK c3' ws3 ns3 n3 its ks F3 N3 hd3 hi3 hz3 hks hl o3
  refine law_s6 (rest := [lawSt 8, lawSt 9, lawSt 10, lawSt 11, lawSt 12, lawSt 13, lawSt 14, lawSt 15, lawSt 16, lawSt 17]) KX T B F3 N3 hd1 hd2 hd3 hc4 hT1 o3 hk0 hk4 (.head _) hl ?_
  intro h4 tk4 aB tm Λ4 vsB Bs nB F4 N4 hs4 o4 hTB hB hBl hOk
  have G4 := fr_re (x := Str.ofString "body") (v := .ref aB) F4 (by rfl)
  refine law_s8 (rest := [lawSt 9, lawSt 10, lawSt 11, lawSt 12, lawSt 13, lawSt 14, lawSt 15, lawSt 16, lawSt 17]) KX T B G4 N4 hd1 hd2 hd3 hc4 hT1 hTB o4 hi3 hz3 hBl hB hOk ?_
  intro h5 tk5 ws5 n5 vsB5 Bs5 nB5 Λ5 u5 F5 hu5 N5 hs5 o5 hB5 hBl5 hOk5
  have e5a : u5 (Str.ofString "body") = some (.ref aB) := by rw [hu5 _ (by decide) (by decide) (by decide)]; rfl
  have e5b : u5 (Str.ofString "kind") = some (.int (p : Int) tk) := by rw [hu5 _ (by decide) (by decide) (by decide)]; rfl
  have e5c : u5 (Str.ofString "module") = some (.ref aM) := by rw [hu5 _ (by decide) (by decide) (by decide)]; rfl
  have G5 := fr_re (x := Str.ofString "body") (v := .ref aB) (fr_re (x := Str.ofString "kind") (v := .int (p : Int) tk) (fr_re (x := Str.ofString "module") (v := .ref aM) F5 e5c)
    (by show (if Str.ofString "kind" = Str.ofString "module" then _ else _) = _; rw [if_neg (by decide)]; exact e5b)) (by show (if Str.ofString "body" = Str.ofString "kind" then _ else if Str.ofString "body" = Str.ofString "module" then _ else _) = _; rw [if_neg (by decide), if_neg (by decide)]; exact e5a)
  have hK5 := hs5 _ (hs4 _ (.head _))
  refine law_s9 (rest := [lawSt 11, lawSt 12, lawSt 13, lawSt 14, lawSt 15, lawSt 16, lawSt 17]) KX T B G5 N5 hd1 hd2 hd3 hc4 hT1 hTB o5 hBl5 hB5 hOk5 hK5 hl ?_
  intro h6 tk6 aF aL vsB6 n6 n6' Λ6 F6 N6 hs6 o6 hB6 hBl6 hBm6 hL6 hF6
  have hM6 : ModK (inL Λ6) aM := hM1.mono fun a o q => hs6 _ (hs5 _ (hs4 _ (.tail _ q)))
  have hOk6 : ∀ b ∈ Bs5 ++ [[11]], OkI ((p : Int) + (its.length : Int)) b := by
    intro b hb
    rcases List.mem_append.mp hb with hb | hb
    · exact hOk5 b hb
    · rw [List.mem_singleton.mp hb]; exact .inr ⟨11, [], rfl, by decide, by decide, by decide, by decide⟩
  generalize hBs6 : Bs5 ++ [[11]] = Bs6 at *
  have hp4 : p < 4 := by omega
  have G6 := fr_re (x := Str.ofString "func") (v := .ref aF) (fr_re (x := Str.ofString "module") (v := .ref aM) F6 (by rfl)) (by rfl)
  refine law_s11 (rest := [lawSt 12, lawSt 13, lawSt 14, lawSt 15, lawSt 16, lawSt 17]) KX T B G6 N6 (hM6.mono fun a o q => .tail _ (.tail _ (.tail _ (.tail _ q)))) (hF6.mono fun a o q => .tail _ (.tail _ (.tail _ (.tail _ q)))) hp4
    (.tail _ (.tail _ (.tail _ (.tail _ (hs6 _ hK5))))) hks hl (.tail _ (.tail _ (.tail _ (.tail _ hL6)))) (hB6.mono fun a o q => .tail _ (.tail _ (.tail _ (.tail _ q)))) hBl6 hOk6 ?_
  intro h7 tk7 aG aH aN qs zs nZ Λ7 F7 N7 hs7 hN7 hH7 hqs hzs hzl hG7
  have m4 := hs7 _ (.head _)
  have m3 := hs7 _ (.tail _ (.head _))
  have m2 := hs7 _ (.tail _ (.tail _ (.head _)))
  have m1 := hs7 _ (.tail _ (.tail _ (.tail _ (.head _))))
  have up : ∀ q ∈ Λ6, q ∈ Λ7 := fun q hq => hs7 q (.tail _ (.tail _ (.tail _ (.tail _ hq))))
  have N7' := news_cons N7 m4 (news_cons N7 m3 (news_cons N7 m2 (news_cons N7 m1 (News.sub N7 (noC_sub (l := Λ7))))))
  have o7 : OwnOff (noC Λ7) (four L) := noC_off N7 m4 m3 m2 m1 hd1 hd2 hd3 hc4
  have hF7 := noC_func (hF6.mono fun a o q => up (a, o) q)
  have hG7' := noC_func hG7
  have hK7 := noC_mem (up _ (hs6 _ hK5)) rfl
  have hL7 := noC_mem (up _ hL6) rfl
  have hBm7 := noC_mem (up _ hBm6) rfl
  have hB7 := noC_body (hB6.mono fun a o q => up (a, o) q)
  have hN7' := noC_mem hN7 rfl
  have hH7' := noC_mem hH7 rfl
  have hzs7 := noC_body hzs
  generalize noC Λ7 = Λ8 at *
  have G7 := fr_re (x := Str.ofString "told") (v := .ref aG) (fr_re (x := Str.ofString "func") (v := .ref aF) (fr_re (x := Str.ofString "body") (v := .ref aB) (fr_re (x := Str.ofString "kind") (v := .int (p : Int) tk) F7 (by rfl)) (by rfl)) (by rfl)) (by rfl)
  refine law_s12 (rest := [lawSt 13, lawSt 14, lawSt 15, lawSt 16, lawSt 17]) KX T B G7 N7' hd3 hF7 hG7' hp4 hK7 hks hl hL7 hBm7 hB7 hBl6 ?_
  intro h8 tk8 F8 N8
  have G8 := fr_re (x := Str.ofString "body") (v := .ref aB) F8 (by rfl)
  refine law_s13 (rest := [lawSt 14, lawSt 15, lawSt 16, lawSt 17]) KX T B G8 N8 hd1 hd2 hd3 hc4 o7 hBm7 hB7 hBl6 hOk6 ?_
  intro h9 tk9 aX xs nX c4' F9 N9 hd4 hxs hxl o9
  have G9 := fr_re (x := Str.ofString "told") (v := .ref aG) F9 (by rfl)
  refine law_s14 (rest := [lawSt 15, lawSt 16, lawSt 17]) KX T B G9 N9 hd1 hd2 hd3 hd4 o9 (hG7'.mono fun a o q => .tail _ q) hp4 (.tail _ hH7') hqs (.tail _ hK7) hks hl (.head _) hxs hxl ?_
  intro h10 tk10 F10 N10
  refine law_s15 (rest := [lawSt 16, lawSt 17]) KX T B F10 N10 ?_
  intro h11 tk11 aD nD F11 N11 hLD hAD
  have G11 := fr_re (x := Str.ofString "due") (v := .ref aD) (fr_re (x := Str.ofString "body") (v := .ref aB) F11 (by rfl)) (by rfl)
  refine law_s16 (rest := [lawSt 17]) (many := (p : Int) + (its.length : Int)) KX T B G11 N11 hd1 hd2 hd3 hd4 hLD (off_one (allLt_mem hAD)) (.head _) hxs hxl hp4 (by omega) (.tail _ hBm7) (hB7.mono fun a o q => .tail _ q) hBl6 hOk6 ?_
  intro h12 tk12 ys nY Λ12 v12 F12 N12 hs12 hys hyl
  have G12 := fr_re (x := Str.ofString "told") (v := .ref aG) (fr_re (x := Str.ofString "due") (v := .ref aD) F12 (by rfl)) (by rfl)
  refine law_s17 KX T B G12 N12 (hG7'.mono fun a o q => .tail _ (.tail _ (.tail _ (.tail _ (.tail _ (hs12 _ (.tail _ q))))))) (.tail _ (.tail _ (.tail _ (.tail _ (.tail _ (hs12 _ (.tail _ hN7'))))))) (hzs7.mono fun a o q => .tail _ (.tail _ (.tail _ (.tail _ (.tail _ (hs12 _ (.tail _ q)))))))
    hzl (.head _) (hys.mono fun a o q => .tail _ (.tail _ (.tail _ (.tail _ (.tail _ q))))) hyl ?_
  intro h13 tk13 m13 F13 N13
  exact h _ _ _ _ F13 N13
end Mine
-- part FN
set_option maxHeartbeats 4000000
namespace Mine
theorem fin_ : PySem.Challenge.rw_nm0123_01.Holds := hd (by
  w_top off
  k_go0
  (all_goals try k_fold)
  rename Heap.IsList _ _ _ => hS
  rename IntsAre _ _ => hI
  rename Below _ _ _ _ => B0
  rename Top _ _ _ _ _ _ => T0
  rename Fr _ _ _ _ => F0
  rename News _ _ _ _ => N0
  rename Frag.In _ _ => X0
  have hz : _ ≤ 63 := Nat.le_of_not_lt (fun q => (by assumption : ¬ ((63 : Nat) : Int) < _) (Int.ofNat_lt.mpr q))
  refine wpAny_mono (E := Nev) (law_all X0 T0 B0 (fr_re F0 (by rfl)) N0 (by assumption) (by assumption) (by assumption) (by assumption) hS hI hz ?_) (fun _ _ q => q) (fun _ _ q => q.elim)
  intro h' tk' m' Λ' F' N'
  k_steps)
end Mine
set_option maxHeartbeats 8000000 in
theorem PySem.Challenge.cw_nm0123_01_holds : PySem.Challenge.rw_nm0123_01.Holds := by
  exact Mine.fin_
