import PyProof.Rows.All
import Wide.All
import OpenK.AllK
import Wide.FinOn
import PySem.Challenge.RW_pf0197_01
open PySem PySem.W PySem.Calls PyProof.Rows
set_option Elab.async false
set_option maxRecDepth 100000
set_option rowWalk.seconds 0
section --HdB
set_option maxHeartbeats 8000000
namespace Mine
section
local macro_rules | `(tactic| o_head $_) => `(tactic| skip)
theorem hd (h : False) : PySem.Challenge.rw_pf0197_01.row.Holds := by
  w_on
  k_head
  exact h.elim
end
end Mine
end
section --P0
namespace Mine
section
variable {aQ7 bQ7 cQ7 : Int} {aQ8 bQ8 cQ8 : Nat}
theorem il1 (hQ9 : bQ7 ≤ cQ7) (kQ9 : aQ7 < bQ7) : aQ7 < cQ7 := Int.lt_of_lt_of_le kQ9 hQ9
theorem il2 (hQ9 : bQ7 < cQ7) (kQ9 : aQ7 ≤ bQ7) : aQ7 < cQ7 := Int.lt_of_le_of_lt kQ9 hQ9
theorem il3 (hQ9 : bQ7 ≤ cQ7) (kQ9 : aQ7 ≤ bQ7) : aQ7 ≤ cQ7 := Int.le_trans kQ9 hQ9
theorem il4 (hQ9 : bQ7 < cQ7) (kQ9 : aQ7 ≤ bQ7) : aQ7 ≤ cQ7 := Int.le_of_lt (Int.lt_of_le_of_lt kQ9 hQ9)
theorem iu1 (hQ9 : cQ7 ≤ bQ7) (kQ9 : bQ7 < aQ7) : cQ7 < aQ7 := Int.lt_of_le_of_lt hQ9 kQ9
theorem iu2 (hQ9 : cQ7 < bQ7) (kQ9 : bQ7 ≤ aQ7) : cQ7 < aQ7 := Int.lt_of_lt_of_le hQ9 kQ9
theorem iu3 (hQ9 : cQ7 ≤ bQ7) (kQ9 : bQ7 ≤ aQ7) : cQ7 ≤ aQ7 := Int.le_trans hQ9 kQ9
theorem iu4 (hQ9 : cQ7 < bQ7) (kQ9 : bQ7 ≤ aQ7) : cQ7 ≤ aQ7 := Int.le_of_lt (Int.lt_of_lt_of_le hQ9 kQ9)
theorem nl2 (hQ9 : bQ8 < cQ8) (kQ9 : aQ8 ≤ bQ8) : aQ8 < cQ8 := Nat.lt_of_le_of_lt kQ9 hQ9
theorem nl3 (hQ9 : bQ8 ≤ cQ8) (kQ9 : aQ8 ≤ bQ8) : aQ8 ≤ cQ8 := Nat.le_trans kQ9 hQ9
theorem nu1 (hQ9 : cQ8 ≤ bQ8) (kQ9 : bQ8 < aQ8) : cQ8 < aQ8 := Nat.lt_of_le_of_lt hQ9 kQ9
theorem nu2 (hQ9 : cQ8 < bQ8) (kQ9 : bQ8 ≤ aQ8) : cQ8 < aQ8 := Nat.lt_of_lt_of_le hQ9 kQ9
theorem nu3 (hQ9 : cQ8 ≤ bQ8) (kQ9 : bQ8 ≤ aQ8) : cQ8 ≤ aQ8 := Nat.le_trans hQ9 kQ9
theorem nu4 (hQ9 : cQ8 < bQ8) (kQ9 : bQ8 ≤ aQ8) : cQ8 ≤ aQ8 := Nat.le_of_lt (Nat.lt_of_lt_of_le hQ9 kQ9)
end
section
variable {nQ iQ jQ KQ BQ CQ : Nat}
theorem dq0 (hQ9 : nQ + KQ ≤ BQ) (kQ9 : BQ + 1 ≤ CQ + KQ) : nQ < CQ := by omega
theorem dq1 (hQ9 : nQ + KQ ≤ BQ) (kQ9 : BQ + jQ + 1 ≤ CQ + KQ) : nQ + jQ < CQ := by omega
theorem dq2 (hQ9 : nQ + KQ ≤ BQ) (kQ9 : BQ + (jQ + iQ) + 1 ≤ CQ + KQ) : nQ + jQ + iQ < CQ := by omega
theorem dq3 (hQ9 : nQ + KQ ≤ BQ) (kQ9 : BQ + (jQ + iQ) ≤ CQ + KQ) : nQ + jQ + iQ ≤ CQ := by omega
theorem dq4 (hQ9 : nQ + KQ ≤ BQ) (kQ9 : BQ + jQ ≤ CQ + KQ) : nQ + jQ ≤ CQ := by omega
end
section
variable {rQ9 aQ9 bQ9 cQ9 : Nat} {oQ9 : Obj} {lQ9 : List (Addr × Obj)}
theorem ltm (hQ9 : ∀ p ∈ lQ9, @LT.lt Nat instLTNat p.1 rQ9) (mQ9 : (aQ9, oQ9) ∈ lQ9) : aQ9 < rQ9 := hQ9 _ mQ9
theorem neAll (hQ9 : ∀ p ∈ lQ9, @LT.lt Nat instLTNat p.1 rQ9) : ∀ p ∈ lQ9, p.1 ≠ rQ9 := fun p hp => Nat.ne_of_lt (hQ9 p hp)
theorem lts (hQ9 : aQ9 < bQ9) : aQ9 < bQ9 + 1 := Nat.lt_succ_of_lt hQ9
theorem lss : aQ9 < aQ9 + 1 := Nat.lt_succ_self aQ9
theorem ltr (hQ8 : bQ9 < cQ9) (hQ7 : aQ9 < bQ9) : aQ9 < cQ9 := Nat.lt_trans hQ7 hQ8
theorem ltp (hQ9 : aQ9 + 1 < bQ9) : aQ9 < bQ9 := Nat.lt_of_succ_lt hQ9
theorem nlt (hQ9 : aQ9 < bQ9) : aQ9 ≠ bQ9 := Nat.ne_of_lt hQ9
theorem ngt (hQ9 : bQ9 < aQ9) : aQ9 ≠ bQ9 := Nat.ne_of_gt hQ9
theorem neNil : ∀ p ∈ ([] : List (Addr × Obj)), p.1 ≠ rQ9 := fun _ hp => nomatch hp
theorem neCons {pQ9 : Addr × Obj} (hQ8 : pQ9.1 ≠ rQ9) (hQ7 : ∀ p ∈ lQ9, p.1 ≠ rQ9) : ∀ p ∈ pQ9 :: lQ9, p.1 ≠ rQ9 := List.forall_mem_cons.mpr ⟨hQ8, hQ7⟩
end
section
variable {pQ9 : Addr × Obj} {lQ9 mQ9 kQ9 : List (Addr × Obj)}
theorem subNil : ∀ q, q ∈ ([] : List (Addr × Obj)) → q ∈ mQ9 := fun _ hq => nomatch hq
theorem subCons (hQ8 : pQ9 ∈ mQ9) (hQ7 : ∀ q, q ∈ lQ9 → q ∈ mQ9) : ∀ q, q ∈ pQ9 :: lQ9 → q ∈ mQ9 := List.forall_mem_cons.mpr ⟨hQ8, hQ7⟩
theorem subTail (hQ7 : ∀ q, q ∈ lQ9 → q ∈ mQ9) : ∀ q, q ∈ lQ9 → q ∈ pQ9 :: mQ9 := fun q hq => List.mem_cons_of_mem _ (hQ7 q hq)
theorem subSame : ∀ q, q ∈ lQ9 → q ∈ lQ9 := fun _ hq => hq
theorem subApp (hQ8 : ∀ q, q ∈ lQ9 → q ∈ mQ9) (hQ7 : ∀ q, q ∈ kQ9 → q ∈ mQ9) : ∀ q, q ∈ lQ9 ++ kQ9 → q ∈ mQ9 := fun q hq => (List.mem_append.mp hq).elim (hQ8 q) (hQ7 q)
end
theorem foldL {aQ9 : Type} {MQ9 : Model} {AQ9 : Around} {cQ9 : Sem aQ9} {QQ9 : aQ9 → Shared → Prop} {EQ9 : Value → Shared → Prop} {sQ9 : Shared}
    (hQ9 : let qk := QQ9; let ek := EQ9; wpAny MQ9 AQ9 cQ9 qk ek sQ9) : wpAny MQ9 AQ9 cQ9 QQ9 EQ9 sQ9 := hQ9
end Mine
end
local macro_rules | `(tactic| k_lt $h:ident) => `(tactic| skip)
local macro_rules | `(tactic| k_memK) => `(tactic| k_extra "a1")
local macro_rules | `(tactic| k_cls) => `(tactic| k_extra "a2")
local macro_rules | `(tactic| k_types) => `(tactic| k_extra "a3")
local macro_rules | `(tactic| k_all) => `(tactic| k_extra "a4")
local macro_rules | `(tactic| k_subL) => `(tactic| k_extra "a5")
local macro_rules | `(tactic| kc_bool) => `(tactic| k_extra "a6")
local macro_rules | `(tactic| k_units) => `(tactic| k_extra "a7")
local macro_rules | `(tactic| omega) => `(tactic| k_extra "a8")
local macro_rules | `(tactic| k_room) => `(tactic| k_extra "b1")
theorem Mine.lnP0 : True := by
  k_with "a1" => (first | with_reducible assumption | ((with_reducible apply Mine.ltm); (with_reducible assumption); k_mem))
  k_with "a2" => (first | with_reducible exact Mine.lss | with_reducible exact Mine.ltp (by assumption) | with_reducible exact Mine.ltp (Mine.ltp (by assumption)) | with_reducible exact Mine.ltp (Mine.ltp (Mine.ltp (by assumption))) | ((with_reducible refine Mine.lts ?_); first | with_reducible exact Mine.lss | k_memK) | ((with_reducible refine Mine.lts (Mine.lts ?_)); first | with_reducible exact Mine.lss | k_memK) | ((with_reducible refine Mine.lts (Mine.lts (Mine.lts ?_))); k_memK))
  k_with "a3" => (first | k_cls | ((with_reducible apply Mine.ltr); (with_reducible assumption); first | k_memK | k_cls) | ((with_reducible apply Mine.ltr); (with_reducible exact Mine.ltp (by assumption)); first | k_memK | k_cls))
  k_with "a4" => (first | with_reducible exact Mine.neAll (by assumption) | with_reducible exact Mine.neNil | ((with_reducible refine Mine.neCons ?_ ?_); k_ne; k_all))
  k_with "a5" => (first | with_reducible exact Mine.subNil | with_reducible exact Mine.subSame | ((with_reducible refine Mine.subCons ?_ ?_); k_mem; k_subL) | ((with_reducible refine Mine.subApp ?_ ?_); k_subL; k_subL) | ((with_reducible refine Mine.subTail ?_); k_subL))
  k_with "a6" => (first | with_reducible assumption | ((with_reducible show @Ne Nat _ _); first | ((with_reducible refine Mine.nlt ?_); k_memK) | ((with_reducible refine Mine.ngt ?_); k_memK) | (with_reducible exact Ne.symm (by assumption)) | ((with_reducible refine Mine.nlt ?_); k_types) | ((with_reducible refine Mine.ngt ?_); k_types)) | ((with_reducible apply Mine.dq0); (with_reducible assumption); decide) | ((with_reducible apply Mine.dq1); (with_reducible assumption); decide) | ((with_reducible apply Mine.dq2); (with_reducible assumption); decide) | ((with_reducible apply Mine.dq3); (with_reducible assumption); decide) | ((with_reducible apply Mine.dq4); (with_reducible assumption); decide) | ((with_reducible first | apply Mine.il1 | apply Mine.il3); (with_reducible assumption); decide) | ((with_reducible first | apply Mine.il2 | apply Mine.il4); (with_reducible assumption); decide) | ((with_reducible first | apply Mine.iu1 | apply Mine.iu3); (with_reducible assumption); decide) | ((with_reducible first | apply Mine.iu2 | apply Mine.iu4); (with_reducible assumption); decide) | ((with_reducible first | apply Mine.nl3 | apply Mine.nl2); (with_reducible assumption); decide) | ((with_reducible first | apply Mine.nu1 | apply Mine.nu3); (with_reducible assumption); decide) | ((with_reducible first | apply Mine.nu2 | apply Mine.nu4); (with_reducible assumption); decide) | ((with_reducible show @LT.lt Nat _ _ _); first | k_memK | k_types) | decide)
  k_with "a7" => (repeat (rename ∀ _ ∈ (_ : List (Addr × Obj)), @LT.lt Nat _ _ _ => hrw; replace hrw := allLt_of hrw; dsimp only [AllLt] at hrw))
  k_with "a8" => (first | (k_whole; kc_bool) | omega +splitDisjunctions | (k_whole; k_units; omega +splitDisjunctions))
  k_with "a9" => (first | (k_whole; kc_bool) | lia | omega +splitDisjunctions)
  trivial
section --C0
namespace Mine
noncomputable abbrev top (dp : Nat) (fr : List Env) (un : Nat) : Around := { handled := none, depth := dp, frames := some fr, guards := some [], units := un }
structure Rd (K : Frag) (k : Nat) (A : Around) (g : Heap) (s : Shared) : Prop where
  hh : A.handled = none
  hg : A.guards = some []
  hd : A.depth + k ≤ 900
  hu : A.units + 10 * k ≤ 9000
  ex : ∃ (base : Heap) (outer : List Env) (p : Program) (loose : List Str) (mean : ExcName → Option Value) (mg mb : Str → Option Value), Below A base outer g ∧ Top p loose mean mg mb g
  X : K.In g
  st : g.StaysIn s.heap
  sz : g.objs.size = s.heap.objs.size
theorem enter {prog : Program} {w : World} {K : Frag} {k : Nat} {A : Around} {g : Heap} {s : Shared} {news : List (Addr × Obj)} {Q E : Value → Shared → Prop}
    {name qual : Str} {params : Arguments} {body : List Stmt} {scope : Scope} {dV kV doc pm cdv ct oc : Value} {an od : Option Addr} {osl : Array (Option Value)} {f : Addr} {args : Args} {binds : List (Str × Value)}
    (R : Rd K k A g s) (foot : ∀ p ∈ news, s.heap.get? p.1 = some p.2 ∧ g.get? p.1 = none)
    (ho : K.lookup f = some ⟨oc, od, .func (fnOf name qual params body scope dV kV doc pm an cdv ct), osl⟩) (hcd : codeIn K cdv qual = true)
    (hbind : BindsTo s (fnOf name qual params body scope dV kV doc pm an cdv ct) args binds) (hloc : ∀ y ∈ binds, scope.names.lookup y.1 = some .local)
    (h : ∀ (base : Heap) (dp un : Nat) (outer : List Env) (p : Program) (loose : List Str) (mean : ExcName → Option Value) (mg mb : Str → Option Value) (L : Addr) (h₁ : Heap),
      Fr g L h₁ (fun y => binds.reverse.lookup y) → News g L h₁ news → Below (top dp outer un) base outer g → K.In g → Top p loose mean mg mb g → dp + k ≤ 900 → un + 10 * k ≤ 9000 → (∀ p ∈ news, p.1 < L) → g.objs.size = L →
      A = top dp outer un →
      wpAny (model prog w) ((top dp outer un).deeper (envOf qual scope L f cdv)) (execs body (envOf qual scope L f cdv))
        (fun fl s' => Q (match fl with | .ret v => v | _ => .none) s')
        (fun e s' => wpAny (model prog w) ((top dp outer un).deeper (envOf qual scope L f cdv)) (leaving (envOf qual scope L f cdv) e) (fun _ s'' => E e s'') (fun e' s'' => E e' s'') s')
        { s with heap := h₁, toks := s.toks + binds.length })
    (hcell : ∀ x ∈ scope.names, x.2 ≠ .cell) (hco : scope.isCoroutine = false) (hgen : scope.isGenerator = false) (hk : scope.kind = .function) :
    wpAny (model prog w) A (call (.ref f) args.pos args.kw) Q E s := by
  obtain ⟨hh, hg, hd, hu, ⟨base, outer, p, loose, mean, mg, mb, B, T⟩, X, st, sz⟩ := R
  obtain ⟨a1, dp, a2, a3, un⟩ := A
  have hst := B.stack
  dsimp only at hh hg hd hu hst
  subst hh hg hst
  refine wpAny_call ?_
  refine codeAny_call_def (fd := fnOf name qual params body scope dV kV doc pm an cdv ct) (body := body) (binds := binds) (by show dp < 1000; omega) (st _ _ (X _ _ ho)) rfl (T.nolimit.keeps st) (codeRec_of (X.keeps st) hcd) rfl hbind hcell hloc (fun h₁ hns hk₁ => ?_) hco hgen hk
  refine wpAny_mono (h base dp un outer p loose mean mg mb s.heap.objs.size h₁ ⟨hns, fun b o e => hk₁ b o (st _ _ e), Nat.le_of_eq sz⟩ (fun q hq => ⟨hk₁ _ _ (foot q hq).1, Nat.ne_of_lt (Heap.lt_size (foot q hq).1), (foot q hq).2⟩) B X T hd hu (fun q hq => Heap.lt_size (foot q hq).1) sz rfl) (fun fl s' hl => ?_) fun _ _ y => y
  exact hl
noncomputable abbrev tup2 (x y : Int) (t t' : Tok) : Obj := { cls := .type "tuple", data := .seq #[.int x t, .int y t'] }
section
variable {prog : Program} {w : World} {A : Around} {E : Value → Shared → Prop} {s : Shared} {g : Heap} {L a : Addr} {m : Str → Option Value} {x y : Int} {t t' u : Tok} {value slice : Expr} {Q : Value → Shared → Prop}
theorem tup_isTup {h : Heap} (ha : h.get? a = some (tup2 x y t t')) : IsTup h a #[.int x t, .int y t'] := ⟨_, ha, rfl, _, rfl⟩
theorem tup_item0 (F : Fr g L s.heap m) (ha : g.get? a = some (tup2 x y t t')) (h : Q (.int x t) s)
    (hs : subscripted slice false (.ref a) (.int 0 u) = operate [.ref a, .int 0 u] (getItem (.ref a) (.int 0 u)) := by with_unfolding_all rfl) :
    wpAny (model prog w) A (subscriptTail value slice (.ref a) (.int 0 u)) Q E s :=
  item_tupleT (l := [.int x t, .int y t']) (j := 0) (tup_isTup (F.keep _ _ ha)) (by decide) (by decide) rfl rfl h hs
theorem tup_item1 (F : Fr g L s.heap m) (ha : g.get? a = some (tup2 x y t t')) (h : Q (.int y t') s)
    (hs : subscripted slice false (.ref a) (.int 1 u) = operate [.ref a, .int 1 u] (getItem (.ref a) (.int 1 u)) := by with_unfolding_all rfl) :
    wpAny (model prog w) A (subscriptTail value slice (.ref a) (.int 1 u)) Q E s :=
  item_tupleT (l := [.int x t, .int y t']) (j := 1) (tup_isTup (F.keep _ _ ha)) (by decide) (by decide) rfl rfl h hs
end
section
variable {K : Frag} {base h₀ h h' : Heap} {outer : List Env} {L r : Addr} {m mg mb : Str → Option Value} {s : Shared} {p : Program} {loose : List Str} {mean : ExcName → Option Value} {env : Env} {k dp un : Nat} {news : List (Addr × Obj)} {o : Obj}
theorem rd_of (B : Below (top dp outer un) base outer h₀) (F : Fr h₀ L s.heap m) (X : K.In h₀) (T : Top p loose mean mg mb h₀) (hf : env.frame = some L) (hk : env.scope.kind = .function)
    (hd : dp + (k + 1) ≤ 900) (hu : un + 10 * (k + 1) ≤ 9000) : Rd K k ((top dp outer un).deeper env) s.heap s :=
  ⟨rfl, rfl, by show dp + 1 + k ≤ 900; omega, by show un + 3 + 10 * k ≤ 9000; omega, ⟨base, _, p, loose, mean, mg, mb, pushX B F hf hk, T.keeps F.keep⟩, X.keeps F.keep, fun _ _ e => e, rfl⟩
theorem rd_hide {foot : List (Addr × Obj)} (B : Below (top dp outer un) base outer h₀) (F : Fr h₀ L s.heap m) (N : News h₀ L s.heap news) (hsub : ∀ p ∈ foot, p ∈ news) (X : K.In h₀) (T : Top p loose mean mg mb h₀) (hf : env.frame = some L) (hk : env.scope.kind = .function)
    (hd : dp + (k + 1) ≤ 900) (hu : un + 10 * (k + 1) ≤ 9000) : Rd K k ((top dp outer un).deeper env) (hideAll s.heap (foot.map (·.1))) s := by
  have N' : News h₀ L s.heap foot := fun p hp => N p (hsub p hp)
  obtain ⟨FG, BG, st, _⟩ := groundX (R := fun _ _ => True) (A := (top dp outer un).deeper env) B F N' rfl hf hk
  exact ⟨rfl, rfl, by show dp + 1 + k ≤ 900; omega, by show un + 3 + 10 * k ≤ 9000; omega, ⟨base, _, p, loose, mean, mg, mb, BG, T.keeps st⟩, X.keeps st, fun _ _ e => of_hideAll _ e, hideAll_size _ _⟩
theorem back (F : Fr h₀ L h m) (N : News h₀ L h news) (st : h.StaysIn h') : Fr h₀ L h' m ∧ News h₀ L h' news := by
  obtain ⟨⟨oL, es, ep, hL, r⟩, keep, above⟩ := F
  exact ⟨⟨⟨oL, es, ep, st _ _ hL, r⟩, fun b o e => st _ _ (keep b o e), above⟩, fun p hp => ⟨st _ _ (N p hp).1, (N p hp).2⟩⟩
theorem back1 (F : Fr h₀ L h m) (N : News h₀ L h news) (st : h.StaysIn h') (hl : h.objs.size ≤ r) (hr : h'.get? r = some o) : Fr h₀ L h' m ∧ News h₀ L h' ((r, o) :: news) ∧ (∀ p ∈ news, p.1 < r) ∧ L < r := by
  obtain ⟨F', N'⟩ := back F N st
  refine ⟨F', fun p hp => ?_, fun p hp => Nat.lt_of_lt_of_le (Heap.lt_size (N p hp).1) hl, by obtain ⟨oL, _, _, hL, _⟩ := F.ns; exact Nat.lt_of_lt_of_le (Heap.lt_size hL) hl⟩
  rcases List.mem_cons.mp hp with rfl | hp
  · refine ⟨hr, fun e => ?_, ?_⟩
    · obtain ⟨oL, es, ep, hL, _⟩ := F.ns
      exact Nat.lt_irrefl _ (Nat.lt_of_lt_of_le (Heap.lt_size hL) (Nat.le_trans hl (Nat.le_of_eq e)))
    · cases q : h₀.get? r with
      | none => rfl
      | some o' => exact absurd (Nat.lt_of_lt_of_le (Heap.lt_size (F.keep _ _ q)) hl) (Nat.lt_irrefl _)
  · exact N' p hp
theorem putF {v : Value} {x : Str} (F : Fr h₀ L h m) (e : m x = some v) : Fr h₀ L h (fun y => if y = x then some v else m y) := by
  have : (fun y => if y = x then some v else m y) = m := by
    funext y
    by_cases q : y = x
    · rw [if_pos q, q, e]
    · rw [if_neg q]
  rw [this]; exact F
theorem put2F {v v' : Value} {x x' : Str} (F : Fr h₀ L h m) (e : m x = some v) (e' : m x' = some v') : Fr h₀ L h (fun y => if y = x then some v else if y = x' then some v' else m y) := by
  have : (fun y => if y = x then some v else if y = x' then some v' else m y) = m := by
    funext y
    by_cases q : y = x
    · rw [if_pos q, q, e]
    · rw [if_neg q]
      by_cases q : y = x'
      · rw [if_pos q, q, e']
      · rw [if_neg q]
  rw [this]; exact F
theorem put3F {v v' v'' : Value} {x x' x'' : Str} (F : Fr h₀ L h m) (e : m x = some v) (e' : m x' = some v') (e'' : m x'' = some v'') : Fr h₀ L h (fun y => if y = x then some v else if y = x' then some v' else if y = x'' then some v'' else m y) := by
  have : (fun y => if y = x then some v else if y = x' then some v' else if y = x'' then some v'' else m y) = m := by
    funext y
    by_cases q : y = x
    · rw [if_pos q, q, e]
    · rw [if_neg q]
      by_cases q : y = x'
      · rw [if_pos q, q, e']
      · rw [if_neg q]
        by_cases q : y = x''
        · rw [if_pos q, q, e'']
        · rw [if_neg q]
  rw [this]; exact F
end
theorem noPyl {x y : Int} (h0 : 0 < y) (h1 : y < 1000000000000000000000000000000000000000000000000000000000000) : Builtin.divisionGoesByPylong x y = false := by
  refine PyProof.noPylong_of_log2 ?_
  have hz : y.natAbs ≠ 0 := by omega
  have : y.natAbs.log2 < 200 := (Nat.log2_lt hz).mpr (by
    have e : (2 : Nat) ^ 200 = 1606938044258990275541962092341162602522202993782792835301376 := by decide +kernel
    rw [e]; omega)
  omega
section
variable {M : Model} {A : Around} {E : Value → Shared → Prop} {s : Shared} {h₀ : Heap} {L : Addr} {m : Str → Option Value} {news : List (Addr × Obj)}
theorem newTuple_mine {vs : List Value} {Q : Value → Shared → Prop} (F : Fr h₀ L s.heap m) (N : News h₀ L s.heap news)
    (h : ∀ r h', Fr h₀ L h' m → News h₀ L h' ((r, { cls := .type "tuple", data := .seq vs.toArray }) :: news) → (∀ p ∈ news, p.1 < r) → L < r → Q (.ref r) { s with heap := h' }) (hsz : vs.length ≤ sizeLine) :
    wpAny M A (newTuple vs) Q E s :=
  wpAny_newObj_type (h _ _ (F.push _) (N.push F _) (fun p hp => Heap.lt_size (N p hp).1) (by obtain ⟨oL, _, _, hL, _⟩ := F.ns; exact Heap.lt_size hL)) (by show vs.toArray.size ≤ sizeLine; rw [List.size_toArray]; exact hsz)
theorem newList_mine {vs : List Value} {Q : Value → Shared → Prop} (F : Fr h₀ L s.heap m) (N : News h₀ L s.heap news)
    (h : ∀ r h', Fr h₀ L h' m → News h₀ L h' ((r, { cls := .type "list", data := .seq vs.toArray }) :: news) → (∀ p ∈ news, p.1 < r) → L < r → Q (.ref r) { s with heap := h' }) (hsz : vs.length ≤ sizeLine) :
    wpAny M A (newList vs) Q E s :=
  wpAny_newObj_type (h _ _ (F.push _) (N.push F _) (fun p hp => Heap.lt_size (N p hp).1) (by obtain ⟨oL, _, _, hL, _⟩ := F.ns; exact Heap.lt_size hL)) (by show vs.toArray.size ≤ sizeLine; rw [List.size_toArray]; exact hsz)
end
theorem under {g : Heap} {L r : Nat} (h : g.objs.size = L) (h' : L < r) : g.objs.size ≤ r := by omega
theorem bits60 {x : Int} (h0 : -1000000000000000000000000000000000000000000000000000000000000 < x) (h1 : x < 1000000000000000000000000000000000000000000000000000000000000) : Builtin.Int.intBits x ≤ 201 := by
  unfold Builtin.Int.intBits
  split
  · omega
  · rename_i hz
    have hz' : x.natAbs ≠ 0 := by
      intro e
      simp at hz
      omega
    have : x.natAbs.log2 < 200 := (Nat.log2_lt hz').mpr (by
      have e : (2 : Nat) ^ 200 = 1606938044258990275541962092341162602522202993782792835301376 := by decide +kernel
      rw [e]; omega)
    omega
theorem mulOk60 {x y : Int} (h0 : -1000000000000000000000000000000000000000000000000000000000000 < x) (h1 : x < 1000000000000000000000000000000000000000000000000000000000000) (h2 : -1000000000000000000000000000000000000000000000000000000000000 < y) (h3 : y < 1000000000000000000000000000000000000000000000000000000000000) : IntMulOk x y :=
  mulOk_of_bits (bits60 h0 h1) (bits60 h2 h3) (by decide)
section
variable {K : Frag} {base h₀ h h' : Heap} {outer : List Env} {L d : Addr} {m : Str → Option Value} {s : Shared} {news news' : List (Addr × Obj)} {o o' : Obj}
theorem upd_mem {d : Addr} {o o' : Obj} {l l' : List (Addr × Obj)} (h : Upd d o o' l l') : (d, o) ∈ l := by
  induction h with
  | head => exact .head _
  | tail _ _ ih => exact .tail _ ih
theorem backU (F : Fr h₀ L h m) (N : News h₀ L h news) (hn : h'.get? d = some o') (U : Upd d o o' news news') (st : (hideAll h [d]).StaysIn h') : Fr h₀ L h' m ∧ News h₀ L h' news' := by
  have D := N _ (upd_mem U)
  dsimp only at D
  obtain ⟨pre, post, rfl, rfl, h1, h2⟩ := U.split
  obtain ⟨⟨oL, es, ep, hL, r⟩, keep, above⟩ := F
  have one : ∀ {b : Addr} {ob : Obj}, h.get? b = some ob → b ≠ d → h'.get? b = some ob := fun {b ob} e ne => st _ _ (hideAll_get [d] e (by simpa using ne))
  refine ⟨⟨⟨oL, es, ep, one hL (Ne.symm D.2.1), r⟩, fun b ob e => one (keep b ob e) (fun q => by rw [q, D.2.2] at e; cases e), above⟩, fun p hp => ?_⟩
  rcases List.mem_append.mp hp with q | q
  · have P := N p (List.mem_append_left _ q); exact ⟨one P.1 (h1 p q), P.2⟩
  · rcases List.mem_cons.mp q with rfl | q
    · exact ⟨hn, D.2⟩
    · have P := N p (List.mem_append_right _ (.tail _ q)); exact ⟨one P.1 (h2 p q), P.2⟩
theorem foot1 (N : News h₀ L h news) (hm : (d, o) ∈ news) : ∀ p ∈ [(d, o)], h.get? p.1 = some p.2 ∧ (hideAll h ([(d, o)].map (·.1))).get? p.1 = none := fun p hp => by
  rcases List.mem_singleton.mp hp with rfl
  exact ⟨(N _ hm).1, hideAll_none _ (by simp)⟩
theorem sub1 (hm : (d, o) ∈ news) : ∀ p ∈ [(d, o)], p ∈ news := fun p hp => by
  rcases List.mem_singleton.mp hp with rfl
  exact hm
theorem hid1 {b : Addr} {ob : Obj} (e : h.get? b = some ob) (ne : b ≠ d) : (hideAll h ([(d, o)].map (·.1))).get? b = some ob := hideAll_get _ e (by simpa using ne)
theorem inst_mix {g : Heap} {C x dx : Addr} {od : Obj} (F : Fr g L h m) (hx : g.get? x = some (instObj C dx)) (N : News g L h news) (hd : (dx, od) ∈ news) : InstAt h x (instObj C dx) C (some od) := ⟨F.keep _ _ hx, rfl, rfl, (N _ hd).1⟩
theorem inst_base {g : Heap} {C x dx : Addr} {od : Obj} (F : Fr g L h m) (hx : g.get? x = some (instObj C dx)) (hd : g.get? dx = some od) : InstAt h x (instObj C dx) C (some od) := ⟨F.keep _ _ hx, rfl, rfl, F.keep _ _ hd⟩
end
theorem if_f {A B : Prop} (h : B) : (if false = true then A else B) := by simpa using h
theorem if_t {A B : Prop} (h : A) : (if true = true then A else B) := by simpa using h
noncomputable def Stop (P : Prop) : Prop := P
theorem Stop.go {P : Prop} (h : Stop P) : P := h
theorem Stop.out {P : Prop} (h : P) : Stop P := h
end Mine
end
local macro_rules | `(tactic| walk_at $s) => `(tactic| k_extra $s)
local macro_rules | `(tactic| k_inst) => `(tactic| first | (refine' Mine.inst_mix ?F ?x ?N ?d; (case F => k_asm); (case x => assumption); (case N => k_asm); (case d => k_mem)) | (refine' Mine.inst_base ?F ?x ?d; (case F => k_asm); (case x => assumption); (case d => assumption)))
section --C0K
namespace Mine
theorem dle {nQ kQ KQ BQ : Nat} (hQ : nQ + KQ ≤ BQ) (hkQ : Nat.ble kQ KQ = true) : nQ + kQ ≤ BQ := Nat.le_trans (Nat.add_le_add_left (Nat.le_of_ble_eq_true hkQ) nQ) hQ
theorem ule {nQ kQ KQ BQ : Nat} (hQ : nQ + 10 * KQ ≤ BQ) (hkQ : Nat.ble kQ KQ = true) : nQ + 10 * kQ ≤ BQ := Nat.le_trans (Nat.add_le_add_left (Nat.mul_le_mul_left 10 (Nat.le_of_ble_eq_true hkQ)) nQ) hQ
section
variable {G : Prop} {h₀ h h' : Heap} {L r r' d : Addr} {m : Str → Option Value} {news news' : List (Addr × Obj)} {o o' p q : Obj}
theorem back_k (F : Fr h₀ L h m) (N : News h₀ L h news) (st : h.StaysIn h') (k : Fr h₀ L h' m → News h₀ L h' news → G) : G := k (back F N st).1 (back F N st).2
theorem back1_k (F : Fr h₀ L h m) (N : News h₀ L h news) (st : h.StaysIn h') (hl : h.objs.size ≤ r) (hr : h'.get? r = some o) (k : Fr h₀ L h' m → News h₀ L h' ((r, o) :: news) → (∀ p ∈ news, p.1 < r) → L < r → G) : G :=
  k (back1 F N st hl hr).1 (back1 F N st hl hr).2.1 (back1 F N st hl hr).2.2.1 (back1 F N st hl hr).2.2.2
theorem backU_k (F : Fr h₀ L h m) (N : News h₀ L h news) (hn : h'.get? d = some o') (U : Upd d o o' news news') (st : (hideAll h [d]).StaysIn h') (k : Fr h₀ L h' m → News h₀ L h' news' → G) : G := k (backU F N hn U st).1 (backU F N hn U st).2
end
end Mine
end
section --T0
namespace Mine
theorem tuple_turns {prog : Program} {w : World} {A : Around} {E : Value → Shared → Prop} {s : Shared} {env : Env} {h₀ : Heap} {x : Str} {body : List Stmt} {Q : Flow → Shared → Prop} {d : Addr} {items : Array Value}
    {m₀ : Str → Option Value} {news : List (Addr × Obj)} (J : Nat → (Str → Option Value) → List (Addr × Obj) → Prop)
    (hh : A.handled = none) (F : Fr h₀ env.locals s.heap m₀) (N : News h₀ env.locals s.heap news) (hd : s.heap.IsTuple d items) (hdL : d ≠ env.locals) (hdn : ∀ p ∈ news, p.1 ≠ d) (hj : J 0 m₀ news)
    (turn : ∀ i v m₁ news₁ h tk own, items[i]? = some v → news₁.map (·.1) = news.map (·.1) → OwnOff own (news.map (·.1)) → J i m₁ news₁ → Fr h₀ env.locals h (fun y => if y = x then some v else m₁ y) → News h₀ env.locals h (news₁ ++ own) →
      wpAny (model prog w) A (execs body env) (InvPostN h₀ env.locals (J (i + 1)) own (news.map (·.1)) { s with heap := h, toks := tk } Q) E { s with heap := h, toks := tk })
    (done : ∀ m₁ news₁ h tk, J items.size m₁ news₁ → Fr h₀ env.locals h m₁ → News h₀ env.locals h news₁ → Q .next { s with heap := h, toks := tk }) :
    wpAny (model prog w) A (pyIter (.ref d)) (fun it s₂ => LoopAtV prog w A h₀ env x body Q E it s₂) E s := by
  refine wpAny_pyIter_tuple hd ?_
  obtain ⟨ob, hob, _⟩ := id hd
  have ds : d < s.heap.objs.size := Heap.lt_size hob
  refine loop_invN J (Walks.tuple hh s.heap.objs.size d (Nat.ne_of_lt ds) items) ?_ ?_ ?_ ?_ ⟨⟨_, Heap.get?_push_size _ rfl, rfl, rfl⟩, hd.at fun o e => Heap.get?_push_of_some _ e⟩ (F.push _) (fun p hp => ⟨Heap.get?_push_of_some _ (N p hp).1, (N p hp).2⟩) hj ?_ ?_
  · intro hm
    rcases List.mem_cons.mp hm with z | z
    · exact Nat.lt_irrefl _ (z ▸ F.ns.lt)
    · rw [List.mem_singleton] at z; exact hdL z.symm
  · intro b hb
    rw [List.mem_singleton.mp hb]
    exact next_is_new F
  · intro p hp hI
    exact absurd (Heap.lt_size (N p hp).1) ((List.mem_singleton.mp hI) ▸ Nat.lt_irrefl _)
  · intro p hp hI
    rcases List.mem_cons.mp hI with z | z
    · exact absurd (Heap.lt_size (N p hp).1) (z ▸ Nat.lt_irrefl _)
    · exact hdn p hp (List.mem_singleton.mp z)
  · rintro i v m₁ news₁ h tk own hi hv hmap hoff hJ F₁ N₁
    exact turn i v m₁ news₁ h tk own hv hmap hoff hJ F₁ N₁
  · intro m₁ news₁ h tk hJ F₁ N₁
    exact done m₁ news₁ h tk hJ F₁ N₁
theorem thru {m : Str → Option Value} {x y : Str} {u v : Option Value} (hne : y ≠ x) (e : m y = v) : (if y = x then u else m y) = v := by rw [if_neg hne]; exact e
theorem put5F {h₀ h : Heap} {L : Addr} {m : Str → Option Value} {x1 x2 x3 x4 x5 : Str} {v1 v2 v3 v4 v5 : Value} (F : Fr h₀ L h m) (e1 : m x1 = some v1) (e2 : m x2 = some v2) (e3 : m x3 = some v3) (e4 : m x4 = some v4) (e5 : m x5 = some v5) :
    Fr h₀ L h (fun y => if y = x1 then some v1 else if y = x2 then some v2 else if y = x3 then some v3 else if y = x4 then some v4 else if y = x5 then some v5 else m y) := by
  have e : (fun y => if y = x1 then some v1 else if y = x2 then some v2 else if y = x3 then some v3 else if y = x4 then some v4 else if y = x5 then some v5 else m y) = m := by
    funext y
    (repeat' split) <;> simp_all
  rw [e]; exact F
end Mine
end
section --S24
namespace Mine
theorem ints_all {vs : List Value} {ns : List Int} (h : IntsAre vs ns) : ∀ v ∈ vs, ∃ n t, v = .int n t := by
  induction h with
  | nil => exact fun v h => absurd h List.not_mem_nil
  | cons n t r ih => exact fun v h => (List.mem_cons.mp h).elim (fun e => ⟨n, t, e⟩) (ih v)
theorem ints_len {vs : List Value} {ns : List Int} (h : IntsAre vs ns) : vs.length = ns.length := by
  induction h with
  | nil => rfl
  | cons n t r ih => rw [List.length_cons, List.length_cons, ih]
theorem good_true {cw : ClaimW} {cl : Str → Option Addr} {mean : ExcName → Option Value} {args : List WData} {tabs : List (Addr × Addr)} {s₁ : Shared} {h' : Heap} {tk : Nat} (hT : TabsAt tabs s₁.heap) (hr : ∀ x, cw.raises args x = false) (hp : cw.post args (.bool true) args = true) (hg : s₁.gens = #[])
    (hgr : ∀ q ∈ tabs, ∃ ps, h'.get? q.2 = some (tabObj ps)) (hk : (ghostOf s₁.heap tabs).StaysIn h') : GoodWG cw cl mean args s₁ (.ok (.ret (.bool true))) { s₁ with heap := h', toks := tk } := by
  have keep : ∀ b o, b ∉ tabs.map (·.2) → s₁.heap.get? b = some o → h'.get? b = some o := fun b o hb e => hk b o (hideAll_get _ e hb)
  have grown : ∀ b o, b ∈ tabs.map (·.2) → s₁.heap.get? b = some o → isCodeTable s₁.heap b ∧ o = tabObj #[] ∧ ∃ ps, h'.get? b = some (tabObj ps) := fun b o hb e => by
    obtain ⟨q, hq, rfl⟩ := List.mem_map.mp hb
    have e2 := (hT q hq).2
    rw [e] at e2
    exact ⟨((hT q hq).1.tab (hT q hq).2).isCodeTable, Option.some.inj e2, hgr q hq⟩
  refine ⟨.inl ⟨_, _, _, rfl, hr, .bool true, hp, fun _ => ⟨List.nodup_nil, fun a h => nomatch h⟩⟩, ⟨fun b o e => ?_, fun b o e => ?_⟩, rfl, .of_eq hg⟩
  · by_cases hb : b ∈ tabs.map (·.2)
    · obtain ⟨ht, rfl, ps, hP⟩ := grown b o hb e
      exact .inr (.inl ⟨ht, rfl, #[], ps, rfl, by rw [Array.empty_append]; exact hP⟩)
    · exact .inl (keep b o hb e)
  · by_cases hb : b ∈ tabs.map (·.2)
    · obtain ⟨_, _, ps, hP⟩ := grown b o hb e
      exact ⟨_, hP⟩
    · exact ⟨o, keep b o hb e⟩
end Mine
end
section --C1
set_option maxHeartbeats 0
namespace Mine
theorem lnC1a : True := by
  k_with_none
  k_with "a1" => (first | with_reducible assumption | ((with_reducible apply Mine.ltm); (with_reducible assumption); k_mem))
  k_with "a2" => (first | with_reducible exact Mine.lss | with_reducible exact Mine.ltp (by assumption) | with_reducible exact Mine.ltp (Mine.ltp (by assumption)) | with_reducible exact Mine.ltp (Mine.ltp (Mine.ltp (by assumption))) | ((with_reducible refine Mine.lts ?_); first | with_reducible exact Mine.lss | k_memK) | ((with_reducible refine Mine.lts (Mine.lts ?_)); first | with_reducible exact Mine.lss | k_memK) | ((with_reducible refine Mine.lts (Mine.lts (Mine.lts ?_))); k_memK))
  k_with "a3" => (first | k_cls | ((with_reducible apply Mine.ltr); (with_reducible assumption); first | k_memK | k_cls) | ((with_reducible apply Mine.ltr); (with_reducible exact Mine.ltp (by assumption)); first | k_memK | k_cls))
  k_with "a4" => (first | with_reducible exact Mine.neAll (by assumption) | with_reducible exact Mine.neNil | ((with_reducible refine Mine.neCons ?_ ?_); k_ne; k_all))
  k_with "a5" => (first | with_reducible exact Mine.subNil | with_reducible exact Mine.subSame | ((with_reducible refine Mine.subCons ?_ ?_); k_mem; k_subL) | ((with_reducible refine Mine.subApp ?_ ?_); k_subL; k_subL) | ((with_reducible refine Mine.subTail ?_); k_subL))
  k_with "a6" => (first | with_reducible assumption | ((with_reducible show @Ne Nat _ _); first | ((with_reducible refine Mine.nlt ?_); k_memK) | ((with_reducible refine Mine.ngt ?_); k_memK) | (with_reducible exact Ne.symm (by assumption)) | ((with_reducible refine Mine.nlt ?_); k_types) | ((with_reducible refine Mine.ngt ?_); k_types)) | ((with_reducible apply Mine.dq0); (with_reducible assumption); decide) | ((with_reducible apply Mine.dq1); (with_reducible assumption); decide) | ((with_reducible apply Mine.dq2); (with_reducible assumption); decide) | ((with_reducible apply Mine.dq3); (with_reducible assumption); decide) | ((with_reducible apply Mine.dq4); (with_reducible assumption); decide) | ((with_reducible first | apply Mine.il1 | apply Mine.il3); (with_reducible assumption); decide) | ((with_reducible first | apply Mine.il2 | apply Mine.il4); (with_reducible assumption); decide) | ((with_reducible first | apply Mine.iu1 | apply Mine.iu3); (with_reducible assumption); decide) | ((with_reducible first | apply Mine.iu2 | apply Mine.iu4); (with_reducible assumption); decide) | ((with_reducible first | apply Mine.nl3 | apply Mine.nl2); (with_reducible assumption); decide) | ((with_reducible first | apply Mine.nu1 | apply Mine.nu3); (with_reducible assumption); decide) | ((with_reducible first | apply Mine.nu2 | apply Mine.nu4); (with_reducible assumption); decide) | ((with_reducible show @LT.lt Nat _ _ _); first | k_memK | k_types) | decide)
  k_with "a7" => (repeat (rename ∀ _ ∈ (_ : List (Addr × Obj)), @LT.lt Nat _ _ _ => hrw; replace hrw := allLt_of hrw; dsimp only [AllLt] at hrw))
  k_with "a8" => (first | (k_whole; kc_bool) | omega +splitDisjunctions | (k_whole; k_units; omega +splitDisjunctions))
  k_with "a9" => (first | (k_whole; kc_bool) | lia | omega +splitDisjunctions)
  k_with "eval Call" => ((fail_if_success (fail_if_success k_fold)); refine foldL ?_; intro qk ek; walk1)
  k_with "eval BinOp" => ((fail_if_success (fail_if_success k_fold)); refine foldL ?_; intro qk ek; walk1)
  k_with "eval Tuple" => ((fail_if_success (fail_if_success k_fold)); refine foldL ?_; intro qk ek; walk1)
  k_with "isTrue Compare" => ((fail_if_success (fail_if_success k_fold)); refine foldL ?_; intro qk ek; walk1)
  k_with "eval Subscript" => ((fail_if_success (fail_if_success k_fold)); refine foldL ?_; intro qk ek; walk1)
  k_with "exec Assign" => ((fail_if_success (fail_if_success k_fold)); refine foldL ?_; intro qk ek; walk1)
  k_with "eval List" => ((fail_if_success (fail_if_success k_fold)); refine foldL ?_; intro qk ek; walk1)
  k_with "eval Attribute" => ((fail_if_success (fail_if_success k_fold)); refine foldL ?_; intro qk ek; walk1)
  k_with "eval UnaryOp" => ((fail_if_success (fail_if_success k_fold)); refine foldL ?_; intro qk ek; walk1)
  k_with "callWith ref" => ((fail_if_success (fail_if_success k_fold)); refine foldL ?_; intro qk ek; walk1)
  k_with "callWith" => ((fail_if_success (fail_if_success k_fold)); refine foldL ?_; intro qk ek; walk1)
  k_with "subscriptTail Name Constant ref int" => (k_here; first | refine tup_item0 (by assumption) (by assumption) ?_ | refine tup_item1 (by assumption) (by assumption) ?_)
  k_with "exec While" => (k_here; refine Stop.go ?_)
  k_with "binaryOp FloorDiv int int" => (k_here; refine floordiv_int (by first | decide | omega) ?_ (Or.inl (noPyl (by first | decide | omega) (by first | decide | omega))))
  k_with "newTuple" => (k_here; k_dflt (refine' newTuple_mine ?k1 ?k2 ?_ ?k3; (case k1 => k_asm); (case k2 => k_asm); (case k3 => first | decide | (exact Nat.le_of_ble_eq_true rfl) | (simp only [sizeLine_eq]; simp))); intro D' h' F' N' l1 l2; (try k_lt l1); (try k_lt2 l2); (try k_sweep))
  k_with "binaryOp Mult int int" => (k_here; refine mul_int ?_ (by first | exact mulOk60 (by omega) (by omega) (by omega) (by omega) | mul_fits))
  trivial
noncomputable def fr (a b : Int) : Int × Int := (Int.fdiv a (Int.gcd a b), Int.fdiv b (Int.gcd a b))
noncomputable def timesF (a b : Int × Int) : Int × Int := fr (a.1 * b.1) (a.2 * b.2)
noncomputable def plusF (a b : Int × Int) : Int × Int := fr (a.1 * b.2 + b.1 * a.2) (a.2 * b.2)
noncomputable def dividedF (a b : Int × Int) : Int × Int := fr (a.1 * b.2) (a.2 * b.1)
noncomputable def signF (x : Int) : Int := if x > 0 then 1 else if x < 0 then -1 else 0
noncomputable def roundedF (a : Int × Int) : Int := Int.fdiv (2 * a.1 + a.2) (2 * a.2)
theorem common_divisor_spec {w : World} {A : Around} {s : Shared} {x y : Int} {t t' : Tok} {Q E : Value → Shared → Prop}
    (R : Rd (hd.heap_1 w.params) 1 A s.heap s) (hy : 0 ≤ y)
    (hret : ∀ t h' tk', s.heap.StaysIn h' → Q (.int (Int.gcd x y) t) { s with heap := h', toks := tk' }) :
    wpAny (model PySem.Challenge.rw_pf0197_01.row.prog w) A (call (.ref 73) [.int x t, .int y t'] []) Q E s := by
  revert R; k_fill; intro R
  refine' enter (news := []) (args := ⟨[.int x t, .int y t'], []⟩) (binds := [(Str.ofString "one", .int x t), (Str.ofString "other", .int y t')]) R ?foot ?ho ?hcd ?hbind ?hloc ?h ?hcell ?hco ?hgen ?hk
  case foot => intro p hp; cases hp
  case ho => k_is
  case hcd => k_is
  case hbind => exact BindsTo.of_eq rfl
  case hloc => exact locs rfl
  case hcell => decide
  case hco => exact rfl
  case hgen => exact rfl
  case hk => exact rfl
  clear R
  intro base dp un outer p loose mean mg mb L h₁ F' N' B' X' T' hDp hUn hl hs hA
  clear hA
  (try dsimp only); (try k_fold)
  k_steps
  refine Stop.out ?_
  (with_reducible rename Fr _ _ _ _ => F1)
  (with_reducible rename News _ _ _ _ => N1)
  refine While_inv (fun n m news => ∃ a b ta tb, m (Str.ofString "first") = some (.int a ta) ∧ m (Str.ofString "second") = some (.int b tb) ∧ 0 ≤ a ∧ 0 ≤ b ∧ Int.gcd a b = Int.gcd x y ∧ n = b.toNat) F1 N1 ⟨_, _, _, _, rfl, rfl, ?_, hy, ?_, rfl⟩ ?_
  · split <;> omega
  · split <;> simp [Int.gcd]
  clear F1 N1
  rintro n m1 news1 h2 tk2 F2 N2 ⟨a, b, ta, tb, ha, hb, ha0, hb0, hg, rfl⟩
  replace F2 := put2F F2 ha hb
  replace N2 : News s.heap L h2 [] := News.nil
  (try dsimp only); (try k_fold)
  k_steps
  · (with_reducible rename Fr _ _ _ _ => F1)
    (with_reducible rename News _ _ _ _ => N1)
    rename 0 < b => hb1
    have hm := Int.emod_nonneg a (Int.ne_of_gt hb1)
    have hm2 := Int.emod_lt_of_pos a hb1
    have hfe : Int.fmod a b = a % b := Int.fmod_eq_emod_of_nonneg _ hb0
    rw [← hfe] at hm hm2
    refine WhileStep.intro F1 N1 ?_ ⟨_, _, _, _, rfl, rfl, hb0, hm, ?_, rfl⟩
    · omega
    · rw [← hg, hfe, Int.emod_def, Int.gcd_sub_mul_left_right, Int.gcd_comm]
  · rename ¬ (0 < b) => hb1
    obtain rfl : b = 0 := by omega
    have : a = (Int.gcd x y : Int) := by rw [← hg, Int.gcd_zero_right]; omega
    exact hret _ _ _ F2.keep |> (this ▸ ·)
theorem lnC1b : True := by
  k_with "call ref" => (k_here; (with_reducible show wpAny _ _ (call (Value.ref 73) _ _) _ _ _); first | ((with_reducible rename Fr _ _ _ _ => Fz); (with_reducible rename News _ _ _ _ => Nz); (k_dflt (refine' common_divisor_spec (rd_of ?B Fz ?X ?T rfl rfl ?d ?u) ?p0 ?_; (case B => assumption); (case X => assumption); (case T => assumption); (case d => (first | ((with_reducible apply dle); (with_reducible assumption); exact rfl) | omega)); (case u => (first | ((with_reducible apply ule); (with_reducible assumption); exact rfl) | omega)); (case p0 => (first | assumption | omega)); k_whole)); intro t9 h9 tk9 st9; k_dflt ((refine back_k Fz Nz st9 ?_; intro F9 N9)); clear Fz Nz st9; (try dsimp only); (try k_fold)) | refine Stop.go ?_)
  trivial
theorem fr_pos {x y : Int} (hy : 0 < y) : 0 < (fr x y).2 ∧ (fr x y).2 ≤ y := by
  have hg := Int.gcd_pos_of_ne_zero_right x (Int.ne_of_gt hy)
  have hg' : (0 : Int) < (Int.gcd x y : Int) := by omega
  have hd := Int.gcd_dvd_right x y
  unfold fr; dsimp only
  rw [Int.fdiv_eq_ediv_of_nonneg _ (Int.le_of_lt hg')]
  refine ⟨Int.ediv_pos_of_pos_of_dvd hy (Int.le_of_lt hg') hd, ?_⟩
  exact Int.ediv_le_self _ (Int.le_of_lt hy)
theorem fraction_spec {w : World} {A : Around} {s : Shared} {x y : Int} {t t' : Tok} {Q E : Value → Shared → Prop}
    (R : Rd (hd.heap_1 w.params) 2 A s.heap s) (hy : 0 < y) (hb : y < 1000000000000000000000000000000000000000000000000000000000000)
    (hret : ∀ r t t' h' tk', s.heap.StaysIn h' → s.heap.objs.size ≤ r → h'.get? r = some (tup2 (fr x y).1 (fr x y).2 t t') → Q (.ref r) { s with heap := h', toks := tk' }) :
    wpAny (model PySem.Challenge.rw_pf0197_01.row.prog w) A (call (.ref 81) [.int x t, .int y t'] []) Q E s := by
  revert R; k_fill; intro R
  refine' enter (news := []) (args := ⟨[.int x t, .int y t'], []⟩) (binds := [(Str.ofString "top", .int x t), (Str.ofString "bottom", .int y t')]) R ?foot ?ho ?hcd ?hbind ?hloc ?h ?hcell ?hco ?hgen ?hk
  case foot => intro p hp; cases hp
  case ho => k_is
  case hcd => k_is
  case hbind => exact binds_K (R.X.keeps R.st) rfl (by k_is) rfl rfl rfl
  case hloc => exact locs rfl
  case hcell => decide
  case hco => exact rfl
  case hgen => exact rfl
  case hk => exact rfl
  clear R
  intro base dp un outer p loose mean mg mb L h₁ F' N' B' X' T' hDp hUn hl hs hA
  clear hA
  (try dsimp only); (try k_fold)
  have hg : (0 : Int) < (Int.gcd x y : Int) := by
    have := Int.gcd_pos_of_ne_zero_right x (Int.ne_of_gt hy)
    omega
  have hg2 : (Int.gcd x y : Int) ≤ y := Int.gcd_le_right x hy
  k_steps
  try any_goals (exfalso; omega)
  · (with_reducible rename Fr _ _ _ _ => Fz)
    (with_reducible rename News _ _ _ _ => Nz)
    have hr := Nz.get (List.mem_cons_self ..)
    have hl := (Nz _ (List.mem_cons_self ..)).2.2
    exact hret _ _ _ _ _ Fz.keep (under hs (by assumption)) hr
end Mine
end
section --C2
set_option maxHeartbeats 0
namespace Mine
theorem lnC2a : True := by
  k_with_none
  k_with "a1" => (first | with_reducible assumption | ((with_reducible apply Mine.ltm); (with_reducible assumption); k_mem))
  k_with "a2" => (first | with_reducible exact Mine.lss | with_reducible exact Mine.ltp (by assumption) | with_reducible exact Mine.ltp (Mine.ltp (by assumption)) | with_reducible exact Mine.ltp (Mine.ltp (Mine.ltp (by assumption))) | ((with_reducible refine Mine.lts ?_); first | with_reducible exact Mine.lss | k_memK) | ((with_reducible refine Mine.lts (Mine.lts ?_)); first | with_reducible exact Mine.lss | k_memK) | ((with_reducible refine Mine.lts (Mine.lts (Mine.lts ?_))); k_memK))
  k_with "a3" => (first | k_cls | ((with_reducible apply Mine.ltr); (with_reducible assumption); first | k_memK | k_cls) | ((with_reducible apply Mine.ltr); (with_reducible exact Mine.ltp (by assumption)); first | k_memK | k_cls))
  k_with "a4" => (first | with_reducible exact Mine.neAll (by assumption) | with_reducible exact Mine.neNil | ((with_reducible refine Mine.neCons ?_ ?_); k_ne; k_all))
  k_with "a5" => (first | with_reducible exact Mine.subNil | with_reducible exact Mine.subSame | ((with_reducible refine Mine.subCons ?_ ?_); k_mem; k_subL) | ((with_reducible refine Mine.subApp ?_ ?_); k_subL; k_subL) | ((with_reducible refine Mine.subTail ?_); k_subL))
  k_with "a6" => (first | with_reducible assumption | ((with_reducible show @Ne Nat _ _); first | ((with_reducible refine Mine.nlt ?_); k_memK) | ((with_reducible refine Mine.ngt ?_); k_memK) | (with_reducible exact Ne.symm (by assumption)) | ((with_reducible refine Mine.nlt ?_); k_types) | ((with_reducible refine Mine.ngt ?_); k_types)) | ((with_reducible apply Mine.dq0); (with_reducible assumption); decide) | ((with_reducible apply Mine.dq1); (with_reducible assumption); decide) | ((with_reducible apply Mine.dq2); (with_reducible assumption); decide) | ((with_reducible apply Mine.dq3); (with_reducible assumption); decide) | ((with_reducible apply Mine.dq4); (with_reducible assumption); decide) | ((with_reducible first | apply Mine.il1 | apply Mine.il3); (with_reducible assumption); decide) | ((with_reducible first | apply Mine.il2 | apply Mine.il4); (with_reducible assumption); decide) | ((with_reducible first | apply Mine.iu1 | apply Mine.iu3); (with_reducible assumption); decide) | ((with_reducible first | apply Mine.iu2 | apply Mine.iu4); (with_reducible assumption); decide) | ((with_reducible first | apply Mine.nl3 | apply Mine.nl2); (with_reducible assumption); decide) | ((with_reducible first | apply Mine.nu1 | apply Mine.nu3); (with_reducible assumption); decide) | ((with_reducible first | apply Mine.nu2 | apply Mine.nu4); (with_reducible assumption); decide) | ((with_reducible show @LT.lt Nat _ _ _); first | k_memK | k_types) | decide)
  k_with "a7" => (repeat (rename ∀ _ ∈ (_ : List (Addr × Obj)), @LT.lt Nat _ _ _ => hrw; replace hrw := allLt_of hrw; dsimp only [AllLt] at hrw))
  k_with "a8" => (first | (k_whole; kc_bool) | omega +splitDisjunctions | (k_whole; k_units; omega +splitDisjunctions))
  k_with "a9" => (first | (k_whole; kc_bool) | lia | omega +splitDisjunctions)
  k_with "eval Call" => ((fail_if_success (fail_if_success k_fold)); refine foldL ?_; intro qk ek; walk1)
  k_with "eval BinOp" => ((fail_if_success (fail_if_success k_fold)); refine foldL ?_; intro qk ek; walk1)
  k_with "eval Tuple" => ((fail_if_success (fail_if_success k_fold)); refine foldL ?_; intro qk ek; walk1)
  k_with "isTrue Compare" => ((fail_if_success (fail_if_success k_fold)); refine foldL ?_; intro qk ek; walk1)
  k_with "eval Subscript" => ((fail_if_success (fail_if_success k_fold)); refine foldL ?_; intro qk ek; walk1)
  k_with "exec Assign" => ((fail_if_success (fail_if_success k_fold)); refine foldL ?_; intro qk ek; walk1)
  k_with "eval List" => ((fail_if_success (fail_if_success k_fold)); refine foldL ?_; intro qk ek; walk1)
  k_with "eval Attribute" => ((fail_if_success (fail_if_success k_fold)); refine foldL ?_; intro qk ek; walk1)
  k_with "eval UnaryOp" => ((fail_if_success (fail_if_success k_fold)); refine foldL ?_; intro qk ek; walk1)
  k_with "callWith ref" => ((fail_if_success (fail_if_success k_fold)); refine foldL ?_; intro qk ek; walk1)
  k_with "callWith" => ((fail_if_success (fail_if_success k_fold)); refine foldL ?_; intro qk ek; walk1)
  k_with "subscriptTail Name Constant ref int" => (k_here; first | refine tup_item0 (by assumption) (by assumption) ?_ | refine tup_item1 (by assumption) (by assumption) ?_)
  k_with "exec While" => (k_here; refine Stop.go ?_)
  k_with "binaryOp FloorDiv int int" => (k_here; refine floordiv_int (by first | decide | omega) ?_ (Or.inl (noPyl (by first | decide | omega) (by first | decide | omega))))
  k_with "newTuple" => (k_here; k_dflt (refine' newTuple_mine ?k1 ?k2 ?_ ?k3; (case k1 => k_asm); (case k2 => k_asm); (case k3 => first | decide | (exact Nat.le_of_ble_eq_true rfl) | (simp only [sizeLine_eq]; simp))); intro D' h' F' N' l1 l2; (try k_lt l1); (try k_lt2 l2); (try k_sweep))
  k_with "binaryOp Mult int int" => (k_here; refine mul_int ?_ (by first | exact mulOk60 (by omega) (by omega) (by omega) (by omega) | mul_fits))
  k_with "call ref" => (k_here; (with_reducible show wpAny _ _ (call (Value.ref 73) _ _) _ _ _); first | ((with_reducible rename Fr _ _ _ _ => Fz); (with_reducible rename News _ _ _ _ => Nz); (k_dflt (refine' common_divisor_spec (rd_of ?B Fz ?X ?T rfl rfl ?d ?u) ?p0 ?_; (case B => assumption); (case X => assumption); (case T => assumption); (case d => (first | ((with_reducible apply dle); (with_reducible assumption); exact rfl) | omega)); (case u => (first | ((with_reducible apply ule); (with_reducible assumption); exact rfl) | omega)); (case p0 => (first | assumption | omega)); k_whole)); intro t9 h9 tk9 st9; k_dflt ((refine back_k Fz Nz st9 ?_; intro F9 N9)); clear Fz Nz st9; (try dsimp only); (try k_fold)) | refine Stop.go ?_)
  k_with "call ref" => (k_here; (with_reducible show wpAny _ _ (call (Value.ref 81) _ _) _ _ _); first | ((with_reducible rename Fr _ _ _ _ => Fz); (with_reducible rename News _ _ _ _ => Nz); (k_dflt (refine' fraction_spec (rd_of ?B Fz ?X ?T rfl rfl ?d ?u) ?p0 ?p1 ?_; (case B => assumption); (case X => assumption); (case T => assumption); (case d => (first | ((with_reducible apply dle); (with_reducible assumption); exact rfl) | omega)); (case u => (first | ((with_reducible apply ule); (with_reducible assumption); exact rfl) | omega)); (case p0 => (first | assumption | omega)); (case p1 => (first | assumption | omega)); k_whole)); intro r9 t9 u9 h9 tk9 st9 hl9 hr9; k_dflt ((refine back1_k Fz Nz st9 hl9 hr9 ?_; intro F9 N9 l9 m9)); clear Fz Nz st9 hl9 hr9; (try k_lt l9); (try k_lt2 m9); (try dsimp only); (try k_fold)) | refine Stop.go ?_)
  trivial
theorem mul_bd {x y : Int} (hx : 0 < x) (hx1 : x < 1000000000000000000000000000000) (hy : 0 < y) (hy1 : y < 1000000000000000000000000000000) : 0 < x * y ∧ x * y < 1000000000000000000000000000000000000000000000000000000000000 := by
  refine ⟨Int.mul_pos hx hy, ?_⟩
  calc x * y ≤ 1000000000000000000000000000000 * y := Int.mul_le_mul_of_nonneg_right (by omega) (by omega)
    _ < 1000000000000000000000000000000000000000000000000000000000000 := by omega
theorem plus_spec {w : World} {A : Around} {s : Shared} {a b : Addr} {a1 a2 b1 b2 : Int} {ta ta' tb tb' : Tok} {Q E : Value → Shared → Prop}
    (R : Rd (hd.heap_1 w.params) 3 A s.heap s) (ha : s.heap.get? a = some (tup2 a1 a2 ta ta')) (hb : s.heap.get? b = some (tup2 b1 b2 tb tb')) (hap : 0 < a2) (hab : a2 < 1000000000000000000000000000000) (hbp : 0 < b2) (hbb : b2 < 1000000000000000000000000000000) (hat0 : -1000000000000000000000000000000 < a1) (hat1 : a1 < 1000000000000000000000000000000) (hbt0 : -1000000000000000000000000000000 < b1) (hbt1 : b1 < 1000000000000000000000000000000)
    (hret : ∀ r t t' h' tk', s.heap.StaysIn h' → s.heap.objs.size ≤ r → h'.get? r = some (tup2 (plusF (a1, a2) (b1, b2)).1 (plusF (a1, a2) (b1, b2)).2 t t') → Q (.ref r) { s with heap := h', toks := tk' }) :
    wpAny (model PySem.Challenge.rw_pf0197_01.row.prog w) A (call (.ref 88) [.ref a, .ref b] []) Q E s := by
  revert R; k_fill; intro R
  refine' enter (news := []) (args := ⟨[.ref a, .ref b], []⟩) (binds := [(Str.ofString "a", .ref a), (Str.ofString "b", .ref b)]) R ?foot ?ho ?hcd ?hbind ?hloc ?h ?hcell ?hco ?hgen ?hk
  case foot => intro p hp; cases hp
  case ho => k_is
  case hcd => k_is
  case hbind => exact BindsTo.of_eq rfl
  case hloc => exact locs rfl
  case hcell => decide
  case hco => exact rfl
  case hgen => exact rfl
  case hk => exact rfl
  clear R
  intro base dp un outer p loose mean mg mb L h₁ F' N' B' X' T' hDp hUn hl hs hA
  clear hA
  (try dsimp only); (try k_fold)
  obtain ⟨hm0, hm1⟩ := mul_bd hap hab hbp hbb
  k_steps
  (with_reducible rename Fr _ _ _ _ => Fz)
  (with_reducible rename News _ _ _ _ => Nz)
  exact hret _ _ _ _ _ Fz.keep (under hs (by first | assumption | omega)) (Nz.get (List.mem_cons_self ..))
theorem times_spec {w : World} {A : Around} {s : Shared} {a b : Addr} {a1 a2 b1 b2 : Int} {ta ta' tb tb' : Tok} {Q E : Value → Shared → Prop}
    (R : Rd (hd.heap_1 w.params) 3 A s.heap s) (ha : s.heap.get? a = some (tup2 a1 a2 ta ta')) (hb : s.heap.get? b = some (tup2 b1 b2 tb tb')) (hap : 0 < a2) (hab : a2 < 1000000000000000000000000000000) (hbp : 0 < b2) (hbb : b2 < 1000000000000000000000000000000) (hat0 : -1000000000000000000000000000000 < a1) (hat1 : a1 < 1000000000000000000000000000000) (hbt0 : -1000000000000000000000000000000 < b1) (hbt1 : b1 < 1000000000000000000000000000000)
    (hret : ∀ r t t' h' tk', s.heap.StaysIn h' → s.heap.objs.size ≤ r → h'.get? r = some (tup2 (timesF (a1, a2) (b1, b2)).1 (timesF (a1, a2) (b1, b2)).2 t t') → Q (.ref r) { s with heap := h', toks := tk' }) :
    wpAny (model PySem.Challenge.rw_pf0197_01.row.prog w) A (call (.ref 95) [.ref a, .ref b] []) Q E s := by
  revert R; k_fill; intro R
  refine' enter (news := []) (args := ⟨[.ref a, .ref b], []⟩) (binds := [(Str.ofString "a", .ref a), (Str.ofString "b", .ref b)]) R ?foot ?ho ?hcd ?hbind ?hloc ?h ?hcell ?hco ?hgen ?hk
  case foot => intro p hp; cases hp
  case ho => k_is
  case hcd => k_is
  case hbind => exact BindsTo.of_eq rfl
  case hloc => exact locs rfl
  case hcell => decide
  case hco => exact rfl
  case hgen => exact rfl
  case hk => exact rfl
  clear R
  intro base dp un outer p loose mean mg mb L h₁ F' N' B' X' T' hDp hUn hl hs hA
  clear hA
  (try dsimp only); (try k_fold)
  obtain ⟨hm0, hm1⟩ := mul_bd hap hab hbp hbb
  k_steps
  (with_reducible rename Fr _ _ _ _ => Fz)
  (with_reducible rename News _ _ _ _ => Nz)
  exact hret _ _ _ _ _ Fz.keep (under hs (by first | assumption | omega)) (Nz.get (List.mem_cons_self ..))
theorem divided_spec {w : World} {A : Around} {s : Shared} {a b : Addr} {a1 a2 b1 b2 : Int} {ta ta' tb tb' : Tok} {Q E : Value → Shared → Prop}
    (R : Rd (hd.heap_1 w.params) 3 A s.heap s) (ha : s.heap.get? a = some (tup2 a1 a2 ta ta')) (hb : s.heap.get? b = some (tup2 b1 b2 tb tb')) (hap : 0 < a2) (hab : a2 < 1000000000000000000000000000000) (hbp : 0 < b2) (hbb : b2 < 1000000000000000000000000000000) (hat0 : -1000000000000000000000000000000 < a1) (hat1 : a1 < 1000000000000000000000000000000) (hbt0 : 0 < b1) (hbt1 : b1 < 1000000000000000000000000000000)
    (hret : ∀ r t t' h' tk', s.heap.StaysIn h' → s.heap.objs.size ≤ r → h'.get? r = some (tup2 (dividedF (a1, a2) (b1, b2)).1 (dividedF (a1, a2) (b1, b2)).2 t t') → Q (.ref r) { s with heap := h', toks := tk' }) :
    wpAny (model PySem.Challenge.rw_pf0197_01.row.prog w) A (call (.ref 102) [.ref a, .ref b] []) Q E s := by
  revert R; k_fill; intro R
  refine' enter (news := []) (args := ⟨[.ref a, .ref b], []⟩) (binds := [(Str.ofString "a", .ref a), (Str.ofString "b", .ref b)]) R ?foot ?ho ?hcd ?hbind ?hloc ?h ?hcell ?hco ?hgen ?hk
  case foot => intro p hp; cases hp
  case ho => k_is
  case hcd => k_is
  case hbind => exact BindsTo.of_eq rfl
  case hloc => exact locs rfl
  case hcell => decide
  case hco => exact rfl
  case hgen => exact rfl
  case hk => exact rfl
  clear R
  intro base dp un outer p loose mean mg mb L h₁ F' N' B' X' T' hDp hUn hl hs hA
  clear hA
  (try dsimp only); (try k_fold)
  obtain ⟨hm0, hm1⟩ := mul_bd hap hab hbt0 hbt1
  k_steps
  try any_goals (exfalso; omega)
  (with_reducible rename Fr _ _ _ _ => Fz)
  (with_reducible rename News _ _ _ _ => Nz)
  exact hret _ _ _ _ _ Fz.keep (under hs (by first | assumption | omega)) (Nz.get (List.mem_cons_self ..))
theorem sign_of_spec {w : World} {A : Around} {s : Shared} {a : Addr} {a1 a2 : Int} {ta ta' : Tok} {Q E : Value → Shared → Prop}
    (R : Rd (hd.heap_1 w.params) 1 A s.heap s) (ha : s.heap.get? a = some (tup2 a1 a2 ta ta'))
    (hret : ∀ t h' tk', s.heap.StaysIn h' → Q (.int (signF a1) t) { s with heap := h', toks := tk' }) :
    wpAny (model PySem.Challenge.rw_pf0197_01.row.prog w) A (call (.ref 109) [.ref a] []) Q E s := by
  revert R; k_fill; intro R
  refine' enter (news := []) (args := ⟨[.ref a], []⟩) (binds := [(Str.ofString "a", .ref a)]) R ?foot ?ho ?hcd ?hbind ?hloc ?h ?hcell ?hco ?hgen ?hk
  case foot => intro p hp; cases hp
  case ho => k_is
  case hcd => k_is
  case hbind => exact BindsTo.of_eq rfl
  case hloc => exact locs rfl
  case hcell => decide
  case hco => exact rfl
  case hgen => exact rfl
  case hk => exact rfl
  clear R
  intro base dp un outer p loose mean mg mb L h₁ F' N' B' X' T' hDp hUn hl hs hA
  clear hA
  (try dsimp only); (try k_fold)
  k_steps
  all_goals (with_reducible rename Fr _ _ _ _ => Fz)
  · refine (?_ : signF a1 = 1) ▸ hret _ _ _ Fz.keep
    simp only [signF, gt_iff_lt]; split <;> omega
  · refine (?_ : signF a1 = -1) ▸ hret _ _ _ Fz.keep
    simp only [signF, gt_iff_lt]; split <;> (try split) <;> omega
  · refine (?_ : signF a1 = 0) ▸ hret _ _ _ Fz.keep
    simp only [signF, gt_iff_lt]; split <;> (try split) <;> omega
theorem rounded_spec {w : World} {A : Around} {s : Shared} {a : Addr} {a1 a2 : Int} {ta ta' : Tok} {Q E : Value → Shared → Prop}
    (R : Rd (hd.heap_1 w.params) 1 A s.heap s) (ha : s.heap.get? a = some (tup2 a1 a2 ta ta')) (hap : 0 < a2) (hab : a2 < 1000000000000000000000000000000) (hat0 : -1000000000000000000000000000000 < a1) (hat1 : a1 < 1000000000000000000000000000000)
    (hret : ∀ t h' tk', s.heap.StaysIn h' → Q (.int (roundedF (a1, a2)) t) { s with heap := h', toks := tk' }) :
    wpAny (model PySem.Challenge.rw_pf0197_01.row.prog w) A (call (.ref 123) [.ref a] []) Q E s := by
  revert R; k_fill; intro R
  refine' enter (news := []) (args := ⟨[.ref a], []⟩) (binds := [(Str.ofString "a", .ref a)]) R ?foot ?ho ?hcd ?hbind ?hloc ?h ?hcell ?hco ?hgen ?hk
  case foot => intro p hp; cases hp
  case ho => k_is
  case hcd => k_is
  case hbind => exact BindsTo.of_eq rfl
  case hloc => exact locs rfl
  case hcell => decide
  case hco => exact rfl
  case hgen => exact rfl
  case hk => exact rfl
  clear R
  intro base dp un outer p loose mean mg mb L h₁ F' N' B' X' T' hDp hUn hl hs hA
  clear hA
  (try dsimp only); (try k_fold)
  k_steps
  all_goals (with_reducible rename Fr _ _ _ _ => Fz)
  exact hret _ _ _ Fz.keep
end Mine
end
section --C3
open PySem.Builtin PySem.Builtin.Str
namespace Mine
def S (l : List Nat) : Str := ⟨l.toArray⟩
theorem S_cps (l : List Nat) : (S l).cps = l.toArray := rfl
theorem S_list (l : List Nat) : (S l).cps.toList = l := by simp [S]
theorem S_len (l : List Nat) : (S l).length = l.length := by simp [S, Str.length]
theorem S_inj {a b : List Nat} (h : S a = S b) : a = b := by
  have := congrArg (fun x : Str => x.cps.toList) h
  simpa [S] using this
theorem S_of (x : Str) : x = S x.cps.toList := by cases x; simp [S]
theorem S_app (a b : List Nat) : S a ++ S b = S (a ++ b) := by
  apply Str.ext'
  rw [Str.cps_append]; simp [S]
noncomputable def stripL (l : List Nat) : List Nat := ((l.dropWhile Unicode.isSpace).reverse.dropWhile Unicode.isSpace).reverse
theorem takeWhile_len {α : Type} (p : α → Bool) (l : List α) : l.drop (l.takeWhile p).length = l.dropWhile p := by
  induction l with
  | nil => rfl
  | cons a r ih =>
    by_cases h : p a
    · simp [List.takeWhile_cons, List.dropWhile_cons, h, ih]
    · simp [List.takeWhile_cons, List.dropWhile_cons, h]
theorem rev_take {α : Type} (p : α → Bool) (l : List α) : (l.reverse.dropWhile p).reverse = l.take (l.length - (l.reverse.takeWhile p).length) := by
  rw [← takeWhile_len p l.reverse, List.drop_reverse, List.reverse_reverse]
theorem strip_S (l : List Nat) : Txt.strip (S l) = S (stripL l) := by
  have key : PySem.stripped Unicode.isSpace true true (S l) = S (stripL l) := by
    rw [S_of (PySem.stripped _ _ _ _)]
    refine congrArg S ?_
    unfold PySem.stripped
    rw [StrLaws.strSub_toList, S_list]
    unfold stripLo stripHi stripL
    simp only [if_true, S_list, S_len]
    rw [rev_take, takeWhile_len]
    have e : (l.dropWhile Unicode.isSpace).length = l.length - (l.takeWhile Unicode.isSpace).length := by rw [← takeWhile_len, List.length_drop]
    rw [e]
    congr 1
    have h1 : ((l.dropWhile Unicode.isSpace).reverse.takeWhile Unicode.isSpace).length ≤ l.length := by
      refine Nat.le_trans (List.takeWhile_prefix _).length_le ?_
      rw [List.length_reverse, e]; k_extra "a9"
    k_extra "a9"
  unfold Txt.strip Txt.stripBy
  split
  · rename_i h
    rw [← key]
    unfold stripSame at h
    simp only [Bool.and_eq_true, beq_iff_eq] at h
    unfold PySem.stripped
    obtain ⟨ha, hb⟩ := h
    rw [ha] at hb
    rw [ha, hb]
    rw [S_of (strSub _ _ _), StrLaws.strSub_toList, S_list, S_len, List.drop_zero, Nat.sub_zero, List.take_length]
  · exact key
theorem ends_S (l u : List Nat) : Txt.endswith (S l) (S u) = decide (u <:+ l) := by
  unfold Txt.endswith
  rw [StrLaws.subAt_eq, S_list, S_list, S_len, S_len, Nat.zero_add, Bool.eq_iff_iff, Bool.and_eq_true, decide_eq_true_eq, decide_eq_true_eq, beq_iff_eq]
  constructor
  · rintro ⟨h1, h2⟩
    rw [List.take_of_length_le (by rw [List.length_drop]; k_extra "a9")] at h2
    rw [← h2]
    exact List.drop_suffix _ _
  · intro h
    refine ⟨h.length_le, ?_⟩
    rw [List.take_of_length_le (by rw [List.length_drop]; k_extra "a9")]
    exact (List.suffix_iff_eq_drop.mp h).symm
theorem in_S (c : Nat) (y : Str) : Txt.contains y (S [c]) = y.cps.contains c := by
  unfold Txt.contains
  show (!(occurrences y ⟨#[c]⟩ 0 y.length 1).isEmpty) = _
  rw [StrLaws.found_one, Bool.eq_iff_iff, decide_eq_true_eq]
  simp
theorem item_S {l : List Nat} {i : Int} (h0 : 0 ≤ i) (h1 : i < l.length) : Txt.item (S l) i = S [l.getD i.toNat 0] := by
  have hi : i.toNat < l.length := by k_extra "a9"
  unfold Txt.item Txt.charAt
  rw [StrLaws.at_nonneg (n := l.getD i.toNat 0) h0 (by simp [S, List.getD, hi])]
  rfl
theorem slice_S {l : List Nat} {i j : Int} (h0 : 0 ≤ i) (h1 : i ≤ j) (h2 : j ≤ l.length) : Txt.slice (S l) (some i) (some j) = S ((l.drop i.toNat).take (j - i).toNat) := by
  have := StrLaws.sliceText_plain (x := S l) (i := i) (j := j) ⟨h0, h1, by rw [S_list]; exact h2⟩
  rw [S_list] at this
  exact this
theorem slice_neg_S {l : List Nat} {k : Nat} (h0 : 0 < k) (h1 : k ≤ l.length) : Txt.slice (S l) none (some (-(k : Int))) = S (l.take (l.length - k)) := by
  have e : Txt.slice (S l) none (some (-(k : Int))) = Txt.slice (S l) none (some ((l.length - k : Nat) : Int)) := by
    have hn : -(k : Int) < 0 := by k_extra "a9"
    have hs : strSliceIndices none (some (-(k : Int))) 1 l.length = strSliceIndices none (some ((l.length - k : Nat) : Int)) 1 l.length := by
      have a : ¬ (((l.length - k : Nat) : Int) < 0) := by k_extra "a9"
      have b : -(k : Int) + (l.length : Int) = ((l.length - k : Nat) : Int) := by k_extra "a9"
      simp [strSliceIndices, h0, a, b]
    show StrLaws.sliceText _ _ _ = StrLaws.sliceText _ _ _
    unfold StrLaws.sliceText
    rw [S_len, hs]
  rw [e]
  have := StrLaws.sliceText_to (x := S l) (j := ((l.length - k : Nat) : Int)) ⟨by k_extra "a9", by rw [S_list]; k_extra "a9"⟩
  rw [S_list] at this
  refine Eq.trans this ?_
  rw [List.drop_zero]
  show S _ = S _
  congr 2
theorem slice_negAny_S {l : List Nat} {k : Nat} (h0 : 0 < k) : Txt.slice (S l) none (some (-(k : Int))) = S (l.take (l.length - k)) := by
  by_cases h1 : k ≤ l.length
  · exact slice_neg_S h0 h1
  · have e : Txt.slice (S l) none (some (-(k : Int))) = Txt.slice (S l) none (some 0) := by
      have hs : strSliceIndices none (some (-(k : Int))) 1 l.length = strSliceIndices none (some 0) 1 l.length := by
        have a : -(k : Int) + (l.length : Int) < 0 := by k_extra "a9"
        have b : max (0 : Int) (min (-(k : Int) + (l.length : Int)) l.length) = 0 := by k_extra "a9"
        have c : max (0 : Int) (min 0 (l.length : Int)) = 0 := by k_extra "a9"
        simp [strSliceIndices, h0, b, c]
      show StrLaws.sliceText _ _ _ = StrLaws.sliceText _ _ _
      unfold StrLaws.sliceText
      rw [S_len, hs]
    rw [e]
    have := StrLaws.sliceText_to (x := S l) (j := 0) ⟨by k_extra "a9", by rw [S_list]; k_extra "a9"⟩
    refine Eq.trans this ?_
    show S _ = S _
    have e2 : l.length - k = 0 := by k_extra "a9"
    simp [e2]
end Mine
end
section --C4
namespace Mine
section
variable {prog : Program} {w : World} {A : Around} {E : Value → Shared → Prop} {s : Shared} {l a b : List Nat} {c : Nat} {i j : Int} {t u : Tok} {y : Str} {value slice : Expr} {Q : Value → Shared → Prop}
theorem r_len (hl : l.length ≤ 1000000) (h : ∀ u k, Q (.int (l.length : Int) u) { s with toks := k }) : wpAny (model prog w) A (call (.builtin "len") [.str (S l) t]) Q E s :=
  P.len_str (by rw [S_len]; k_extra "a9") (by rw [S_len]; exact h _ _)
theorem r_in (h : Q (.bool (y.cps.contains c)) s) : wpAny (model prog w) A (compareOp .In (.str (S [c]) t) (.str y u)) Q E s :=
  SB.contains (by rw [in_S]; exact h)
theorem r_eq (h : Q (.bool (decide (S a = y))) s) : wpAny (model prog w) A (compareOp .Eq (.str (S a) t) (.str y u)) Q E s :=
  eq_str (by
    have e : (S a == y) = decide (S a = y) := by
      rw [Bool.eq_iff_iff, beq_iff_eq, decide_eq_true_eq]
    rw [e]; exact h)
theorem r_item (h0 : 0 ≤ i) (h1 : i < l.length) (hl : l.length ≤ 1000000) (h : ∀ u k, Q (.str (S [l.getD i.toNat 0]) u) { s with toks := k })
    (hs : subscripted slice false (.str (S l) t) (.int i u) = operate [.str (S l) t, .int i u] (getItem (.str (S l) t) (.int i u)) := by with_unfolding_all rfl)
    (ht : ∀ r, letTemporaryGo value (.str (S l) t) r = pure () := by intro _; with_unfolding_all rfl) :
    wpAny (model prog w) A (subscriptTail value slice (.str (S l) t) (.int i u)) Q E s :=
  KXi.item (S_len l) (by k_extra "a9") h1 (by k_extra "a9") (fun _ => by rw [item_S h0 h1]; exact h _ _) hs ht
theorem r_strip (hl : l.length ≤ 1000000) (h : ∀ u k, Q (.str (S (stripL l)) u) { s with toks := k }) : wpAny (model prog w) A (call (.builtin "str.strip") [.str (S l) t]) Q E s :=
  SCL.strip (fun t' k _ => by rw [strip_S]; exact h _ _) (by rw [S_len, sizeLine_eq]; k_extra "a9")
theorem r_ends (h : Q (.bool (Txt.endswith (S l) y)) s) : wpAny (model prog w) A (call (.builtin "str.endswith") [.str (S l) t, .str y u]) Q E s := SC.endswith h
theorem r_add (hl : a.length + b.length ≤ 1000000) (h : ∀ u k, Q (.str (S (a ++ b)) u) { s with toks := k }) : wpAny (model prog w) A (binaryOp .Add (.str (S a) t) (.str (S b) u)) Q E s :=
  SB.add (fun t' k => by rw [S_app]; exact h _ _) (by rw [S_len, S_len, sizeLine_eq]; k_extra "a9")
section
variable {h₀ : Heap} {L : Addr} {m : Str → Option Value} {news : List (Addr × Obj)} {ui uj : Tok}
theorem r_slice (hF : Fr h₀ L s.heap m) (hN : News h₀ L s.heap news) (h0 : 0 ≤ i) (h1 : i ≤ j) (h2 : j ≤ l.length) (hl : l.length ≤ 1000000)
    (h : ∀ h' t' k, Fr h₀ L h' m → News h₀ L h' news → Q (.str (S ((l.drop i.toNat).take (j - i).toNat)) t') { s with heap := h', toks := k })
    (hs : subscripted slice false (.str (S l) t) (.ref s.heap.objs.size) = operate [.ref s.heap.objs.size, .str (S l) t] (getItem (.str (S l) t) (.ref s.heap.objs.size)) := by with_unfolding_all rfl)
    (ht : ∀ r, letTemporaryGo value (.str (S l) t) r = pure () := by intro _; with_unfolding_all rfl) :
    wpAny (model prog w) A (subscriptTail value slice (.str (S l) t) (.ref s.heap.objs.size)) Q E { s with heap := s.heap.push { cls := .type "slice", data := .fields #[.int i ui, .int j uj, .none] } } :=
  slice_strN_ss hF hN (fun h' t' k F N => by rw [slice_S h0 h1 h2]; exact h _ _ _ F N) hs ht (by rw [S_len, sizeLine_eq]; k_extra "a9")
theorem r_slice_neg (hF : Fr h₀ L s.heap m) (hN : News h₀ L s.heap news) (h0 : j < 0) (hl : l.length ≤ 1000000)
    (h : ∀ h' t' k, Fr h₀ L h' m → News h₀ L h' news → Q (.str (S (l.take (l.length - (-j).toNat))) t') { s with heap := h', toks := k })
    (hs : subscripted slice false (.str (S l) t) (.ref s.heap.objs.size) = operate [.ref s.heap.objs.size, .str (S l) t] (getItem (.str (S l) t) (.ref s.heap.objs.size)) := by with_unfolding_all rfl)
    (ht : ∀ r, letTemporaryGo value (.str (S l) t) r = pure () := by intro _; with_unfolding_all rfl) :
    wpAny (model prog w) A (subscriptTail value slice (.str (S l) t) (.ref s.heap.objs.size)) Q E { s with heap := s.heap.push { cls := .type "slice", data := .fields #[.none, .int j uj, .none] } } :=
  slice_strN_ns hF hN (fun h' t' k F N => by
    have e : j = -(((-j).toNat : Nat) : Int) := by k_extra "a9"
    rw [e, slice_negAny_S (by k_extra "a9")]
    have e2 : (-(-(((-j).toNat : Nat) : Int))).toNat = (-j).toNat := by k_extra "a9"
    have := h h' t' k F N
    exact this) hs ht (by rw [S_len, sizeLine_eq]; k_extra "a9")
end
end
noncomputable def oneOf (l : List Nat) (i : Int) (y : Str) : Bool := if i < l.length then y.cps.contains (l.getD i.toNat 0) else false
noncomputable abbrev rdr (l : List Nat) (i : Int) (h1 h2 : Int) (k1 k2 t1 t2 : Tok) : Obj := dictOf [⟨h1, .str (Str.ofString "text") k1, .str (S l) t1⟩, ⟨h2, .str (Str.ofString "at") k2, .int i t2⟩] 2
noncomputable def skipL (l : List Nat) (i : Int) (y : Str) : List Nat := if oneOf l i y then [l.getD i.toNat 0] else []
noncomputable def skipAt (l : List Nat) (i : Int) (y : Str) : Int := if oneOf l i y then i + 1 else i
noncomputable def isDig (c : Nat) : Bool := decide (48 ≤ c) && decide (c ≤ 57)
noncomputable def digL (l : List Nat) (i : Int) : List Nat := (l.drop i.toNat).takeWhile isDig
theorem lit_empty : Str.ofString "" = S [] := by decide +kernel
theorem lit_digits : Str.ofString "0123456789" = S [48,49,50,51,52,53,54,55,56,57] := by decide +kernel
theorem dig_in (c : Nat) : (Str.ofString "0123456789").cps.contains c = isDig c := by
  rw [lit_digits, S_cps]
  have hlo : ∀ c, c < 58 → ([48,49,50,51,52,53,54,55,56,57] : List Nat).toArray.contains c = isDig c := by decide +kernel
  by_cases hc : c < 58
  · exact hlo c hc
  · have h1 : isDig c = false := by
      cases hq : isDig c with
      | false => rfl
      | true => exact absurd (Nat.lt_succ_of_le (of_decide_eq_true (Bool.and_eq_true_iff.mp hq).2)) hc
    rw [h1]
    cases hq : ([48,49,50,51,52,53,54,55,56,57] : List Nat).toArray.contains c with
    | false => rfl
    | true =>
      have hm : c ∈ ([48,49,50,51,52,53,54,55,56,57] : List Nat) := by rw [List.contains_toArray] at hq; exact List.contains_iff_mem.mp hq
      exact absurd ((by decide : ∀ x ∈ ([48,49,50,51,52,53,54,55,56,57] : List Nat), x < 58) c hm) hc
theorem oneOf_dig (l : List Nat) (i : Int) : oneOf l i (Str.ofString "0123456789") = if i < l.length then isDig (l.getD i.toNat 0) else false := by
  unfold oneOf; split
  · rw [dig_in]
  · rfl
theorem digL_step {l : List Nat} {j : Nat} (hj : j < l.length) (hd : isDig (l.getD j 0) = true) : (l.drop j).takeWhile isDig = l.getD j 0 :: (l.drop (j + 1)).takeWhile isDig := by
  have e : l.drop j = l.getD j 0 :: l.drop (j + 1) := by
    rw [List.drop_eq_getElem_cons hj]; simp [List.getD, hj]
  rw [e, List.takeWhile_cons, if_pos hd]
theorem digL_stop {l : List Nat} {j : Nat} (hd : j < l.length → isDig (l.getD j 0) = false) : (l.drop j).takeWhile isDig = [] := by
  by_cases hj : j < l.length
  · have e : l.drop j = l.getD j 0 :: l.drop (j + 1) := by
      rw [List.drop_eq_getElem_cons hj]; simp [List.getD, hj]
    rw [e, List.takeWhile_cons, hd hj]; rfl
  · rw [List.drop_eq_nil_of_le (by k_extra "a9")]; rfl
theorem digL_at {l : List Nat} {i j : Nat} (hij : i ≤ j) (h : (l.drop i).takeWhile isDig = ((l.drop i).take (j - i)) ++ (l.drop j).takeWhile isDig) (hs : (l.drop j).takeWhile isDig = []) (hj : j ≤ l.length) :
    (l.drop i).takeWhile isDig = (l.drop i).take (j - i) ∧ ((l.drop i).takeWhile isDig).length = j - i := by
  rw [hs, List.append_nil] at h
  refine ⟨h, ?_⟩
  rw [h, List.length_take, List.length_drop]; k_extra "a9"
theorem digL_next {l : List Nat} {i j : Nat} (hij : i ≤ j) (hj : j < l.length) (h : (l.drop i).takeWhile isDig = ((l.drop i).take (j - i)) ++ (l.drop j).takeWhile isDig) (hd : isDig (l.getD j 0) = true) :
    (l.drop i).takeWhile isDig = ((l.drop i).take (j + 1 - i)) ++ (l.drop (j + 1)).takeWhile isDig := by
  have e : (l.drop i).take (j + 1 - i) = (l.drop i).take (j - i) ++ [l.getD j 0] := by
    have e1 : j + 1 - i = (j - i) + 1 := by k_extra "a9"
    rw [e1, List.take_succ, List.getElem?_drop]
    have e2 : i + (j - i) = j := by k_extra "a9"
    rw [e2]
    simp [List.getD, hj]
  rw [h, digL_step hj hd, e, List.append_assoc]; rfl
theorem oneOf_lt {l : List Nat} {i : Int} {y : Str} (h : oneOf l i y = true) : i < l.length := by
  unfold oneOf at h
  split at h
  · assumption
  · cases h
theorem oneOf_dig_true {l : List Nat} {j : Nat} (h : oneOf l (j : Int) (Str.ofString "0123456789") = true) : j < l.length ∧ isDig (l.getD j 0) = true := by
  have hl := oneOf_lt h
  rw [oneOf_dig, if_pos hl] at h
  exact ⟨by k_extra "a9", by simpa using h⟩
theorem oneOf_dig_false {l : List Nat} {j : Nat} (h : oneOf l (j : Int) (Str.ofString "0123456789") = false) : j < l.length → isDig (l.getD j 0) = false := by
  intro hj
  rw [oneOf_dig, if_pos (by k_extra "a9")] at h
  simpa using h
end Mine
end
section --C6
open PySem.Builtin PySem.Builtin.Str
namespace Mine
noncomputable def wholeL (l : List Nat) : Int := l.foldl (fun (n : Int) (c : Nat) => n * 10 + ((c : Int) - 48)) 0
theorem wholeL_snoc (l : List Nat) (c : Nat) : wholeL (l ++ [c]) = wholeL l * 10 + ((c : Int) - 48) := by simp [wholeL]
theorem isDig_iff {c : Nat} : isDig c = true ↔ 48 ≤ c ∧ c ≤ 57 := by simp [isDig]
theorem occ_dig : ∀ c, c < 58 → 48 ≤ c → occurrences (Str.ofString "0123456789") (S [c]) 0 (Str.ofString "0123456789").length 1 = [c - 48] := by decide +kernel
section
variable {prog : Program} {w : World} {A : Around} {E : Value → Shared → Prop} {s : Shared} {c : Nat} {t u : Tok} {Q : Value → Shared → Prop}
theorem r_index_dig (h : isDig c = true) (hq : ∀ u k, Q (.int ((c : Int) - 48) u) { s with toks := k }) : wpAny (model prog w) A (call (.builtin "str.index") [.str (Str.ofString "0123456789") t, .str (S [c]) u]) Q E s := by
  obtain ⟨h0, h1⟩ := isDig_iff.mp h
  refine SC.index (occ_dig c (by k_extra "a9") h0) ?_
  have e : ((c - 48 : Nat) : Int) = (c : Int) - 48 := by k_extra "a9"
  rw [e]; exact hq _ _
end
noncomputable def StrEnd (h₀ : Heap) (L : Addr) (J : (Str → Option Value) → Prop) (nx : List (Addr × Obj)) (s : Shared) (f : Flow) (s₂ : Shared) : Prop :=
  f = .next ∧ ∃ h' tk m', s₂ = { s with heap := h', toks := tk } ∧ Fr h₀ L h' m' ∧ News h₀ L h' nx ∧ J m'
theorem strEnd {h₀ h' : Heap} {L : Addr} {J : (Str → Option Value) → Prop} {nx news' : List (Addr × Obj)} {s : Shared} {tk : Nat} {m' : Str → Option Value}
    (F : Fr h₀ L h' m') (N : News h₀ L h' news') (hs : ∀ p ∈ nx, p ∈ news') (hj : J m') : StrEnd h₀ L J nx s .next { s with heap := h', toks := tk } :=
  ⟨rfl, h', tk, m', rfl, F, fun p hp => N p (hs p hp), hj⟩
theorem str_turns {prog : Program} {w : World} {A : Around} {E : Value → Shared → Prop} {s : Shared} {env : Env} {h₀ : Heap} {x : Str} {body : List Stmt} {Q : Flow → Shared → Prop}
    {l : List Nat} {tx : Tok} {m₀ : Str → Option Value} {news : List (Addr × Obj)} (J : List Nat → (Str → Option Value) → Prop)
    (hh : A.handled = none) (F : Fr h₀ env.locals s.heap m₀) (N : News h₀ env.locals s.heap news) (hj : J [] m₀)
    (turn : ∀ pre c post t m₁ h tk own, l = pre ++ c :: post → J pre m₁ → Fr h₀ env.locals h (fun y => if y = x then some (.str (S [c]) t) else m₁ y) → News h₀ env.locals h (news ++ own) →
      wpAny (model prog w) A (execs body env) (StrEnd h₀ env.locals (J (pre ++ [c])) (news ++ own) { s with heap := h, toks := tk }) E { s with heap := h, toks := tk })
    (done : ∀ m₁ h tk, J l m₁ → Fr h₀ env.locals h m₁ → News h₀ env.locals h news → Q .next { s with heap := h, toks := tk }) :
    wpAny (model prog w) A (pyIter (.str (S l) tx)) (fun it s₂ => LoopAtV prog w A h₀ env x body Q E it s₂) E s := by
  refine wpAny_pyIter_str fun o St hW hst => ?_
  have W := hW A hh
  refine loop_invN (fun i m nx => nx = news ∧ J (l.take i) m) W ?_ ?_ ?_ ?_ hst (F.push _) (fun p hp => ⟨Heap.get?_push_of_some _ (N p hp).1, (N p hp).2⟩) ⟨rfl, by simpa using hj⟩ ?_ ?_
  · intro hm
    exact absurd F.ns.lt ((List.mem_singleton.mp hm) ▸ Nat.lt_irrefl _)
  · intro b' hb
    rw [List.mem_singleton.mp hb]
    exact next_is_new F
  · intro p hp hI
    exact absurd (Heap.lt_size (N p hp).1) ((List.mem_singleton.mp hI) ▸ Nat.lt_irrefl _)
  · intro p hp hI
    exact absurd (Heap.lt_size (N p hp).1) ((List.mem_singleton.mp hI) ▸ Nat.lt_irrefl _)
  · rintro i v m₁ nx h tk own hi ⟨n, u, hn, rfl⟩ _ hoff ⟨rfl, hj'⟩ F₁ N₁
    have hn' : l[i]? = some n := by simpa [S] using hn
    have hs : l.take (i + 1) = l.take i ++ [n] := by simp [List.take_add_one, hn']
    have e : l = l.take i ++ n :: l.drop (i + 1) := by
      have ht := List.take_append_drop (i + 1) l
      rw [hs, List.append_assoc] at ht
      exact ht.symm
    refine wpAny_mono (turn _ n _ u m₁ h tk own e hj' F₁ N₁) (fun f s₂ hf => ?_) fun _ _ x => x
    obtain ⟨rfl, h', tk', m', rfl, F', N', hj''⟩ := hf
    rw [hs]
    exact ⟨h', tk', m', _, nx, rfl, F', N', fun p hp => List.mem_append_left _ hp, fun p hp => List.mem_append_right _ hp, rfl, rfl, hj''⟩
  · rintro m₁ nx h tk ⟨rfl, hj'⟩ F₁ N₁
    have hl : (S l).cps.size = l.length := by simp [S]
    rw [hl, List.take_length] at hj'
    exact done m₁ h tk hj' F₁ N₁
section
variable {prog : Program} {w : World} {A : Around} {E : Value → Shared → Prop} {s : Shared} {a : List Nat} {t u : Tok} {y : Str} {Q : Value → Shared → Prop}
theorem r_eq_f (hn : S a ≠ y) (h : Q (.bool false) s) : wpAny (model prog w) A (compareOp .Eq (.str (S a) t) (.str y u)) Q E s := r_eq (by rw [decide_eq_false hn]; exact h)
theorem r_eq_t (hn : S a = y) (h : Q (.bool true) s) : wpAny (model prog w) A (compareOp .Eq (.str (S a) t) (.str y u)) Q E s := r_eq (by rw [decide_eq_true hn]; exact h)
theorem r_ne (h : Q (.bool (!decide (S a = y))) s) : wpAny (model prog w) A (compareOp .NotEq (.str (S a) t) (.str y u)) Q E s := P.ne_str (by
    have e : ((S a).cps.toList != y.cps.toList) = !decide (S a = y) := by
      rw [Bool.eq_iff_iff]
      simp only [bne_iff_ne, ne_eq, Bool.not_eq_true', decide_eq_false_iff_not]
      refine not_congr ⟨fun q => Str.ext' (Array.toList_inj.mp q), fun q => by rw [q]⟩
    rw [e]; exact h)
theorem r_ne_t (hn : S a ≠ y) (h : Q (.bool true) s) : wpAny (model prog w) A (compareOp .NotEq (.str (S a) t) (.str y u)) Q E s := r_ne (by rw [decide_eq_false hn]; exact h)
theorem r_ne_f (hn : S a = y) (h : Q (.bool false) s) : wpAny (model prog w) A (compareOp .NotEq (.str (S a) t) (.str y u)) Q E s := r_ne (by rw [decide_eq_true hn]; exact h)
end
theorem skipAt_bd {l : List Nat} {i : Int} {y : Str} (h0 : 0 ≤ i) (h1 : i ≤ l.length) : 0 ≤ skipAt l i y ∧ skipAt l i y ≤ l.length := by
  unfold skipAt; split
  · rename_i h
    have := oneOf_lt h
    k_extra "a9"
  · k_extra "a9"
theorem digL_bd {l : List Nat} {i : Int} (h0 : 0 ≤ i) (h1 : i ≤ l.length) : 0 ≤ i + ((digL l i).length : Int) ∧ i + ((digL l i).length : Int) ≤ l.length ∧ (digL l i).length ≤ l.length := by
  have h : (digL l i).length ≤ (l.drop i.toNat).length := (List.takeWhile_prefix _).length_le
  rw [List.length_drop] at h
  k_extra "a9"
theorem digL_all {l : List Nat} {i : Int} : ∀ c ∈ digL l i, isDig c = true := fun c hc => by
  unfold digL at hc
  have := List.all_takeWhile (p := isDig) (l := l.drop i.toNat)
  exact List.all_eq_true.mp this c hc
section
variable {M : Model} {prog : Program} {w : World} {A : Around} {E : Value → Shared → Prop} {s : Shared} {a b : List Nat} {x y : Str} {t u : Tok} {Q : Value → Shared → Prop} {env : Env} {k : Nat} {pos : Pos}
theorem const_empty (h : ∀ t k, Q (.str (S []) t) { s with toks := k }) : wpAny M A (eval (.Constant (.str (Str.ofString "")) k pos) env) Q E s :=
  wpAny_Constant_str (by rw [lit_empty]; exact h _ _)
end
noncomputable def expL (l : List Nat) (i : Int) : Option (Int × Int) :=
  if skipL l i (Str.ofString "eE") = [] then some (0, skipAt l i (Str.ofString "eE")) else
  let i1 := skipAt l i (Str.ofString "eE")
  let i2 := skipAt l i1 (Str.ofString "+-")
  let ds := digL l i2
  if ds = [] ∨ 9 < ds.length ∨ 300 < wholeL ds then none else
  some (if S (skipL l i1 (Str.ofString "+-")) = Str.ofString "-" then -wholeL ds else wholeL ds, i2 + ds.length)
noncomputable def B50 : Int := 100000000000000000000000000000000000000000000000000
theorem B50_eq : B50 = 100000000000000000000000000000000000000000000000000 := rfl
noncomputable def readDec (l : List Nat) : Option (Int × Int) :=
  let i1 := skipAt l 0 (Str.ofString "+-")
  let w := digL l i1
  let i2 := i1 + (w.length : Int)
  let i3 := skipAt l i2 (Str.ofString ".")
  let dot := skipL l i2 (Str.ofString ".")
  let p := if dot = [] then [] else digL l i3
  if w ++ p = [] then none else
  match expL l (i3 + (p.length : Int)) with
  | none => none
  | some (e, j) =>
    let ex := e - (p.length : Int)
    let n := wholeL (w ++ p)
    let n' := if S (skipL l 0 (Str.ofString "+-")) = Str.ofString "-" then -n else n
    if j < l.length ∨ ex < -50 ∨ 50 < ex ∨ B50 ≤ n ∨ n ≤ -B50 then none else
    if ex < 0 then some (fr n' (10 ^ (-ex).toNat)) else some (n' * 10 ^ ex.toNat, 1)
theorem pow10_bd {k : Nat} (h : k ≤ 50) : (0 : Int) < 10 ^ k ∧ (10 : Int) ^ k ≤ 100000000000000000000000000000000000000000000000000 := by
  refine ⟨Int.pow_pos (by decide), ?_⟩
  have e : (100000000000000000000000000000000000000000000000000 : Int) = 10 ^ 50 := by decide +kernel
  rw [e]
  have := Int.ofNat_le.mpr (Nat.pow_le_pow_right (n := 10) (by decide) h)
  rw [Int.natCast_pow, Int.natCast_pow] at this
  exact this
theorem pow10_pos {k : Nat} : (0 : Int) < 10 ^ k := Int.pow_pos (by decide)
theorem pow10_lo {k : Nat} : -1000000000000000000000000000000000000000000000000000000000000 < (10 : Int) ^ k := by have := pow10_pos (k := k); k_extra "a9"
theorem pow10_hi {k : Nat} (h : k ≤ 50) : (10 : Int) ^ k < 1000000000000000000000000000000000000000000000000000000000000 := by have := (pow10_bd h).2; k_extra "a9"
theorem stripL_len (l : List Nat) : (stripL l).length ≤ l.length := by
  unfold stripL
  rw [List.length_reverse]
  refine Nat.le_trans (List.dropWhile_suffix _).length_le ?_
  rw [List.length_reverse]
  exact (List.dropWhile_suffix _).length_le
noncomputable def unitOf (l : List Nat) : List Nat × Str :=
  let t := stripL l
  let cut (u : Str) (k : Nat) : List Nat × Str := (stripL (t.take (t.length - k)), u)
  if Txt.endswith (S t) (Str.ofString "px") = true then cut (Str.ofString "px") 2
  else if Txt.endswith (S t) (Str.ofString "pt") = true then cut (Str.ofString "pt") 2
  else if Txt.endswith (S t) (Str.ofString "pc") = true then cut (Str.ofString "pc") 2
  else if Txt.endswith (S t) (Str.ofString "mm") = true then cut (Str.ofString "mm") 2
  else if Txt.endswith (S t) (Str.ofString "cm") = true then cut (Str.ofString "cm") 2
  else if Txt.endswith (S t) (Str.ofString "in") = true then cut (Str.ofString "in") 2
  else if Txt.endswith (S t) (Str.ofString "em") = true then cut (Str.ofString "em") 2
  else if Txt.endswith (S t) (Str.ofString "%") = true then cut (Str.ofString "%") 1
  else (t, Str.ofString "")
noncomputable abbrev tupS (x y : Str) (t t' : Tok) : Obj := { cls := .type "tuple", data := .seq #[.str x t, .str y t'] }
section
variable {prog : Program} {w : World} {A : Around} {E : Value → Shared → Prop} {s : Shared} {t u : Tok} {x y : Str} {Q : Value → Shared → Prop}
theorem r_eqx (h : Q (.bool (decide (x = y))) s) : wpAny (model prog w) A (compareOp .Eq (.str x t) (.str y u)) Q E s :=
  eq_str (by
    have e : (x == y) = decide (x = y) := by rw [Bool.eq_iff_iff, beq_iff_eq, decide_eq_true_eq]
    rw [e]; exact h)
theorem r_eqx_f (hn : x ≠ y) (h : Q (.bool false) s) : wpAny (model prog w) A (compareOp .Eq (.str x t) (.str y u)) Q E s := r_eqx (by rw [decide_eq_false hn]; exact h)
theorem r_eqx_t (hn : x = y) (h : Q (.bool true) s) : wpAny (model prog w) A (compareOp .Eq (.str x t) (.str y u)) Q E s := r_eqx (by rw [decide_eq_true hn]; exact h)
end
theorem unitOf_len (l : List Nat) : (unitOf l).1.length ≤ l.length := by
  have h := stripL_len l
  have key : ∀ k, (stripL ((stripL l).take ((stripL l).length - k))).length ≤ l.length := fun k =>
    Nat.le_trans (stripL_len _) (Nat.le_trans (List.take_prefix _ _).length_le h)
  unfold unitOf
  dsimp only
  repeat' split
  all_goals first | exact key _ | exact h
noncomputable def units7 : List Str := [Str.ofString "", Str.ofString "px", Str.ofString "pt", Str.ofString "pc", Str.ofString "mm", Str.ofString "cm", Str.ofString "in"]
noncomputable def sizeOf7 (u : Str) : Int × Int :=
  if u = Str.ofString "pt" then (4, 3) else if u = Str.ofString "pc" then (16, 1) else if u = Str.ofString "mm" then (480, 127)
  else if u = Str.ofString "cm" then (4800, 127) else if u = Str.ofString "in" then (96, 1) else (1, 1)
theorem unitOf_mem (l : List Nat) : (unitOf l).2 = Str.ofString "%" ∨ (unitOf l).2 = Str.ofString "em" ∨ (unitOf l).2 ∈ units7 := by
  unfold unitOf units7
  dsimp only
  repeat' split
  all_goals simp
noncomputable def lengthF (u : Str) (t w f : Int × Int) : Int × Int :=
  if u = Str.ofString "%" then dividedF (timesF t w) (100, 1) else if u = Str.ofString "em" then timesF t f else timesF t (sizeOf7 u)
section
variable {prog : Program} {w : World} {A : Around} {E : Value → Shared → Prop} {s : Shared} {h₀ : Heap} {L d : Addr} {news : List (Addr × Obj)} {o : Obj} {kvs : List (Str × Value)} {x : Str} {t : Tok} {v : Value} {Q : Value → Shared → Prop} {value slice : Expr}
theorem r_item_dict (N : News h₀ L s.heap news) (hp : (d, o) ∈ news) (hd : o.IsDictOf (PySem.strKind prog w) kvs) (hv : valueAt kvs x = some v) (h : Q v { s with toks := s.toks + 1 })
    (hs : subscripted slice false (.ref d) (.str x t) = operate [.ref d, .str x t] (getItem (.ref d) (.str x t)) := by with_unfolding_all rfl) (hg : ∀ r, letTemporaryGo value (.ref d) r = pure () := by intro _; with_unfolding_all rfl) :
    wpAny (model prog w) A (subscriptTail value slice (.ref d) (.str x t)) Q E s :=
  have hD := Heap.dictOf_iff.mpr ⟨o, N.get hp, hd⟩
  subscriptTail_builtin hD.typeIs slot_dict_getitem.lookup (wpAny_getItem_of (strKind_is prog w x t) hD.mapOf hv h) hs hg
end
theorem lengthF_e (t w f : Int × Int) : lengthF (Str.ofString "") t w f = timesF t (1, 1) := by
  unfold lengthF
  rw [if_neg (by decide), if_neg (by decide)]
  exact congrArg (timesF t) (by decide +kernel)
theorem lengthF_px (t w f : Int × Int) : lengthF (Str.ofString "px") t w f = timesF t (1, 1) := by
  unfold lengthF
  rw [if_neg (by decide), if_neg (by decide)]
  exact congrArg (timesF t) (by decide +kernel)
theorem lengthF_pt (t w f : Int × Int) : lengthF (Str.ofString "pt") t w f = timesF t (4, 3) := by
  unfold lengthF
  rw [if_neg (by decide), if_neg (by decide)]
  exact congrArg (timesF t) (by decide +kernel)
theorem lengthF_pc (t w f : Int × Int) : lengthF (Str.ofString "pc") t w f = timesF t (16, 1) := by
  unfold lengthF
  rw [if_neg (by decide), if_neg (by decide)]
  exact congrArg (timesF t) (by decide +kernel)
theorem lengthF_mm (t w f : Int × Int) : lengthF (Str.ofString "mm") t w f = timesF t (480, 127) := by
  unfold lengthF
  rw [if_neg (by decide), if_neg (by decide)]
  exact congrArg (timesF t) (by decide +kernel)
theorem lengthF_cm (t w f : Int × Int) : lengthF (Str.ofString "cm") t w f = timesF t (4800, 127) := by
  unfold lengthF
  rw [if_neg (by decide), if_neg (by decide)]
  exact congrArg (timesF t) (by decide +kernel)
theorem lengthF_in (t w f : Int × Int) : lengthF (Str.ofString "in") t w f = timesF t (96, 1) := by
  unfold lengthF
  rw [if_neg (by decide), if_neg (by decide)]
  exact congrArg (timesF t) (by decide +kernel)
end Mine
end
section --C5
set_option maxHeartbeats 1000000
namespace Mine
theorem lnC5a : True := by
  k_with_none
  k_with "a1" => (first | with_reducible assumption | ((with_reducible apply Mine.ltm); (with_reducible assumption); k_mem))
  k_with "a2" => (first | with_reducible exact Mine.lss | with_reducible exact Mine.ltp (by assumption) | with_reducible exact Mine.ltp (Mine.ltp (by assumption)) | with_reducible exact Mine.ltp (Mine.ltp (Mine.ltp (by assumption))) | ((with_reducible refine Mine.lts ?_); first | with_reducible exact Mine.lss | k_memK) | ((with_reducible refine Mine.lts (Mine.lts ?_)); first | with_reducible exact Mine.lss | k_memK) | ((with_reducible refine Mine.lts (Mine.lts (Mine.lts ?_))); k_memK))
  k_with "a3" => (first | k_cls | ((with_reducible apply Mine.ltr); (with_reducible assumption); first | k_memK | k_cls) | ((with_reducible apply Mine.ltr); (with_reducible exact Mine.ltp (by assumption)); first | k_memK | k_cls))
  k_with "a4" => (first | with_reducible exact Mine.neAll (by assumption) | with_reducible exact Mine.neNil | ((with_reducible refine Mine.neCons ?_ ?_); k_ne; k_all))
  k_with "a5" => (first | with_reducible exact Mine.subNil | with_reducible exact Mine.subSame | ((with_reducible refine Mine.subCons ?_ ?_); k_mem; k_subL) | ((with_reducible refine Mine.subApp ?_ ?_); k_subL; k_subL) | ((with_reducible refine Mine.subTail ?_); k_subL))
  k_with "a6" => (first | with_reducible assumption | ((with_reducible show @Ne Nat _ _); first | ((with_reducible refine Mine.nlt ?_); k_memK) | ((with_reducible refine Mine.ngt ?_); k_memK) | (with_reducible exact Ne.symm (by assumption)) | ((with_reducible refine Mine.nlt ?_); k_types) | ((with_reducible refine Mine.ngt ?_); k_types)) | ((with_reducible apply Mine.dq0); (with_reducible assumption); decide) | ((with_reducible apply Mine.dq1); (with_reducible assumption); decide) | ((with_reducible apply Mine.dq2); (with_reducible assumption); decide) | ((with_reducible apply Mine.dq3); (with_reducible assumption); decide) | ((with_reducible apply Mine.dq4); (with_reducible assumption); decide) | ((with_reducible first | apply Mine.il1 | apply Mine.il3); (with_reducible assumption); decide) | ((with_reducible first | apply Mine.il2 | apply Mine.il4); (with_reducible assumption); decide) | ((with_reducible first | apply Mine.iu1 | apply Mine.iu3); (with_reducible assumption); decide) | ((with_reducible first | apply Mine.iu2 | apply Mine.iu4); (with_reducible assumption); decide) | ((with_reducible first | apply Mine.nl3 | apply Mine.nl2); (with_reducible assumption); decide) | ((with_reducible first | apply Mine.nu1 | apply Mine.nu3); (with_reducible assumption); decide) | ((with_reducible first | apply Mine.nu2 | apply Mine.nu4); (with_reducible assumption); decide) | ((with_reducible show @LT.lt Nat _ _ _); first | k_memK | k_types) | decide)
  k_with "a7" => (repeat (rename ∀ _ ∈ (_ : List (Addr × Obj)), @LT.lt Nat _ _ _ => hrw; replace hrw := allLt_of hrw; dsimp only [AllLt] at hrw))
  k_with "a8" => (first | (k_whole; kc_bool) | omega +splitDisjunctions | (k_whole; k_units; omega +splitDisjunctions))
  k_with "a9" => (first | (k_whole; kc_bool) | lia | omega +splitDisjunctions)
  k_with "eval Call" => ((fail_if_success (fail_if_success k_fold)); refine foldL ?_; intro qk ek; walk1)
  k_with "eval BinOp" => ((fail_if_success (fail_if_success k_fold)); refine foldL ?_; intro qk ek; walk1)
  k_with "eval Tuple" => ((fail_if_success (fail_if_success k_fold)); refine foldL ?_; intro qk ek; walk1)
  k_with "isTrue Compare" => ((fail_if_success (fail_if_success k_fold)); refine foldL ?_; intro qk ek; walk1)
  k_with "eval Subscript" => ((fail_if_success (fail_if_success k_fold)); refine foldL ?_; intro qk ek; walk1)
  k_with "exec Assign" => ((fail_if_success (fail_if_success k_fold)); refine foldL ?_; intro qk ek; walk1)
  k_with "eval List" => ((fail_if_success (fail_if_success k_fold)); refine foldL ?_; intro qk ek; walk1)
  k_with "eval Attribute" => ((fail_if_success (fail_if_success k_fold)); refine foldL ?_; intro qk ek; walk1)
  k_with "eval UnaryOp" => ((fail_if_success (fail_if_success k_fold)); refine foldL ?_; intro qk ek; walk1)
  k_with "callWith ref" => ((fail_if_success (fail_if_success k_fold)); refine foldL ?_; intro qk ek; walk1)
  k_with "callWith" => ((fail_if_success (fail_if_success k_fold)); refine foldL ?_; intro qk ek; walk1)
  k_with "subscriptTail Name Constant ref int" => (k_here; first | refine tup_item0 (by assumption) (by assumption) ?_ | refine tup_item1 (by assumption) (by assumption) ?_)
  k_with "exec While" => (k_here; refine Stop.go ?_)
  k_with "binaryOp FloorDiv int int" => (k_here; refine floordiv_int (by first | decide | omega) ?_ (Or.inl (noPyl (by first | decide | omega) (by first | decide | omega))))
  k_with "newTuple" => (k_here; k_dflt (refine' newTuple_mine ?k1 ?k2 ?_ ?k3; (case k1 => k_asm); (case k2 => k_asm); (case k3 => first | decide | (exact Nat.le_of_ble_eq_true rfl) | (simp only [sizeLine_eq]; simp))); intro D' h' F' N' l1 l2; (try k_lt l1); (try k_lt2 l2); (try k_sweep))
  k_with "binaryOp Mult int int" => (k_here; refine mul_int ?_ (by first | exact mulOk60 (by omega) (by omega) (by omega) (by omega) | mul_fits))
  k_with "call builtin:len" => (k_here; refine r_len (by first | omega | (simp only [List.length_append, List.length_cons, List.length_nil]; omega)) ?_; intro t9 k9)
  k_with "subscriptTail" => (k_here; (with_reducible show wpAny _ _ (subscriptTail _ _ (Value.str (S _) _) (Value.int _ _)) _ _ _); k_dflt (refine r_item (by omega) (by omega) (by omega) ?_); intro t9 k9)
  k_with "compareOp In str str" => (k_here; refine r_in ?_)
  k_with "subscriptTail" => (k_here; (with_reducible show wpAny _ _ (subscriptTail _ (Expr.Slice (some _) (some _) none _) (Value.str (S _) _) (Value.ref _)) _ _ _); (with_reducible rename Fr _ _ _ _ => Fz); (with_reducible rename News _ _ _ _ => Nz); k_dflt (refine r_slice (s := ⟨_, _, _, _, _⟩) Fz Nz (by omega) (by omega) (by omega) (by omega) ?_); intro h9 t9 k9 F9 N9; (try k_sweep))
  trivial
theorem is_one_of_spec {w : World} {A : Around} {s : Shared} {x dx : Addr} {l : List Nat} {i h1 h2 : Int} {k1 k2 t1 t2 : Tok} {y : Str} {ty : Tok} {g : Heap} {Q E : Value → Shared → Prop}
    (R : Rd (hd.heap_1 w.params) 1 A g s) (hx : g.get? x = some (instObj 161 dx)) (hfoot : ∀ p ∈ [(dx, rdr l i h1 h2 k1 k2 t1 t2)], s.heap.get? p.1 = some p.2 ∧ g.get? p.1 = none) (hi0 : 0 ≤ i) (hi1 : i ≤ l.length) (hlen : l.length ≤ 1000)
    (hret : ∀ h' tk', g.StaysIn h' → h'.get? dx = some (rdr l i h1 h2 k1 k2 t1 t2) → Q (.bool (oneOf l i y)) { s with heap := h', toks := tk' }) :
    wpAny (model PySem.Challenge.rw_pf0197_01.row.prog w) A (call (.ref 144) [.ref x, .str y ty] []) Q E s := by
  revert R; k_fill; intro R
  refine' enter (news := [(dx, rdr l i h1 h2 k1 k2 t1 t2)]) (args := ⟨[.ref x, .str y ty], []⟩) (binds := [(Str.ofString "self", .ref x), (Str.ofString "signs", .str y ty)]) R ?foot ?ho ?hcd ?hbind ?hloc ?h ?hcell ?hco ?hgen ?hk
  case foot => exact hfoot
  case ho => k_is
  case hcd => k_is
  case hbind => exact BindsTo.of_eq rfl
  case hloc => exact locs rfl
  case hcell => decide
  case hco => exact rfl
  case hgen => exact rfl
  case hk => exact rfl
  clear R
  intro base dp un outer p loose mean mg mb L h₁ F' N' B' X' T' hDp hUn hl hs hA
  clear hA
  (try dsimp only); (try k_fold)
  k_steps
  all_goals (with_reducible rename Fr _ _ _ _ => Fz)
  all_goals (with_reducible rename News _ _ _ _ => Nz)
  · rename i < (l.length : Int) => hi
    have e : oneOf l i y = y.cps.contains (l.getD i.toNat 0) := by unfold oneOf; rw [if_pos hi]
    exact (e ▸ hret _ _ Fz.keep (Nz.get (List.mem_cons_self ..)) :)
  · rename ¬ i < (l.length : Int) => hi
    have e : oneOf l i y = false := by unfold oneOf; rw [if_neg hi]
    have e2 : decide (i < (l.length : Int)) = false := decide_eq_false hi
    have e3 : decide (i < (l.length : Int)) = oneOf l i y := by rw [e, e2]
    rw [e3]
    exact hret _ _ Fz.keep (Nz.get (List.mem_cons_self ..))
theorem lnC5b : True := by
  k_with "call ref" => (k_here; (with_reducible show wpAny _ _ (call (Value.ref 144) _ _) _ _ _); (with_reducible rename Fr _ _ _ _ => Fz); (with_reducible rename News _ _ _ _ => Nz); (k_dflt (refine' is_one_of_spec (rd_hide ?B Fz Nz (sub1 ?M) ?X ?T rfl rfl ?d ?u) ?hx (foot1 Nz ?M2) ?p0 ?p1 ?p2 ?_; (case B => assumption); (case X => assumption); (case T => assumption); (case d => (first | ((with_reducible apply dle); (with_reducible assumption); exact rfl) | omega)); (case u => (first | ((with_reducible apply ule); (with_reducible assumption); exact rfl) | omega)); (case hx => first | exact hid1 (Nz.get (by k_mem)) (by first | assumption | k_ne) | exact hid1 (Fz.keep _ _ (by assumption)) (by first | assumption | k_ne)); (case M => k_mem); (case M2 => k_mem); (case p0 => omega); (case p1 => omega); (case p2 => omega); k_whole)); intro h9 tk9 st9 hn9; ((refine backU_k Fz Nz hn9 (by k_upd) st9 ?_; intro F9 N9)); clear Fz Nz st9 hn9; (try dsimp only); (try k_fold))
  trivial
theorem skip_spec {w : World} {A : Around} {s : Shared} {x dx : Addr} {l : List Nat} {i h1 h2 : Int} {k1 k2 t1 t2 : Tok} {y : Str} {ty : Tok} {g : Heap} {Q E : Value → Shared → Prop}
    (R : Rd (hd.heap_1 w.params) 2 A g s) (hx : g.get? x = some (instObj 161 dx)) (hfoot : ∀ p ∈ [(dx, rdr l i h1 h2 k1 k2 t1 t2)], s.heap.get? p.1 = some p.2 ∧ g.get? p.1 = none) (hi0 : 0 ≤ i) (hi1 : i ≤ l.length) (hlen : l.length ≤ 1000)
    (hret : ∀ t2' t h' tk', g.StaysIn h' → h'.get? dx = some (rdr l (skipAt l i y) h1 h2 k1 k2 t1 t2') → Q (.str (S (skipL l i y)) t) { s with heap := h', toks := tk' }) :
    wpAny (model PySem.Challenge.rw_pf0197_01.row.prog w) A (call (.ref 151) [.ref x, .str y ty] []) Q E s := by
  revert R; k_fill; intro R
  refine' enter (news := [(dx, rdr l i h1 h2 k1 k2 t1 t2)]) (args := ⟨[.ref x, .str y ty], []⟩) (binds := [(Str.ofString "self", .ref x), (Str.ofString "signs", .str y ty)]) R ?foot ?ho ?hcd ?hbind ?hloc ?h ?hcell ?hco ?hgen ?hk
  case foot => exact hfoot
  case ho => k_is
  case hcd => k_is
  case hbind => exact BindsTo.of_eq rfl
  case hloc => exact locs rfl
  case hcell => decide
  case hco => exact rfl
  case hgen => exact rfl
  case hk => exact rfl
  clear R
  intro base dp un outer p loose mean mg mb L h₁ F' N' B' X' T' hDp hUn hl hs hA
  clear hA
  (try dsimp only); (try k_fold)
  have hdxx : @Ne Nat x dx := fun e => by
    have := (hfoot _ (List.mem_cons_self ..)).2
    rw [← e, hx] at this; cases this
  clear hfoot
  cases ho : oneOf l i y with
  | true =>
    have hlt := oneOf_lt ho
    k_steps
    all_goals (with_reducible rename Fr _ _ _ _ => Fz)
    all_goals (with_reducible rename News _ _ _ _ => Nz)
    · have e1 : skipL l i y = [l.getD i.toNat 0] := by unfold skipL; rw [if_pos ho]
      have e2 : skipAt l i y = i + 1 := by unfold skipAt; rw [if_pos ho]
      have e3 : (i + 1 - 1).toNat = i.toNat := by omega
      rw [e1, e2, ← e3] at hret
      exact hret _ _ _ _ Fz.keep (Nz.get (List.mem_cons_self ..))
    all_goals (exfalso; simp_all; done)
  | false =>
    k_steps
    all_goals (with_reducible rename Fr _ _ _ _ => Fz)
    all_goals (with_reducible rename News _ _ _ _ => Nz)
    all_goals first | (exfalso; simp_all; done) | skip
    have e1 : skipL l i y = [] := by unfold skipL; rw [if_neg (by rw [ho]; decide)]
    have e2 : skipAt l i y = i := by unfold skipAt; rw [if_neg (by rw [ho]; decide)]
    rw [e1, e2, ← lit_empty] at hret
    exact hret _ _ _ _ Fz.keep (Nz.get (List.mem_cons_self ..))
theorem digits_spec {w : World} {A : Around} {s : Shared} {x dx : Addr} {l : List Nat} {i h1 h2 : Int} {k1 k2 t1 t2 : Tok} {g : Heap} {Q E : Value → Shared → Prop}
    (R : Rd (hd.heap_1 w.params) 2 A g s) (hx : g.get? x = some (instObj 161 dx)) (hfoot : ∀ p ∈ [(dx, rdr l i h1 h2 k1 k2 t1 t2)], s.heap.get? p.1 = some p.2 ∧ g.get? p.1 = none) (hi0 : 0 ≤ i) (hi1 : i ≤ l.length) (hlen : l.length ≤ 1000)
    (hret : ∀ t2' t h' tk', g.StaysIn h' → h'.get? dx = some (rdr l (i + (digL l i).length) h1 h2 k1 k2 t1 t2') → Q (.str (S (digL l i)) t) { s with heap := h', toks := tk' }) :
    wpAny (model PySem.Challenge.rw_pf0197_01.row.prog w) A (call (.ref 158) [.ref x] []) Q E s := by
  revert R; k_fill; intro R
  refine' enter (news := [(dx, rdr l i h1 h2 k1 k2 t1 t2)]) (args := ⟨[.ref x], []⟩) (binds := [(Str.ofString "self", .ref x)]) R ?foot ?ho ?hcd ?hbind ?hloc ?h ?hcell ?hco ?hgen ?hk
  case foot => exact hfoot
  case ho => k_is
  case hcd => k_is
  case hbind => exact BindsTo.of_eq rfl
  case hloc => exact locs rfl
  case hcell => decide
  case hco => exact rfl
  case hgen => exact rfl
  case hk => exact rfl
  clear R
  intro base dp un outer p loose mean mg mb L h₁ F' N' B' X' T' hDp hUn hl hs hA
  clear hA
  (try dsimp only); (try k_fold)
  have hdxx : @Ne Nat x dx := fun e => by
    have := (hfoot _ (List.mem_cons_self ..)).2
    rw [← e, hx] at this; cases this
  clear hfoot
  k_steps
  refine Stop.out ?_
  (with_reducible rename Fr _ _ _ _ => F1)
  (with_reducible rename News _ _ _ _ => N1)
  refine While_inv (fun n' m news => ∃ (j : Nat) (tj tb : Tok), m (Str.ofString "self") = some (.ref x) ∧ m (Str.ofString "begin") = some (.int i tb) ∧ news = [(dx, rdr l j h1 h2 k1 k2 t1 tj)] ∧ i.toNat ≤ j ∧ j ≤ l.length ∧ ((l.drop i.toNat).takeWhile isDig = ((l.drop i.toNat).take (j - i.toNat)) ++ (l.drop j).takeWhile isDig) ∧ n' = l.length - j) F1 N1 ⟨i.toNat, _, _, rfl, rfl, by rw [Int.toNat_of_nonneg hi0], Nat.le_refl _, by omega, by simp, rfl⟩ ?_
  clear F1 N1
  rintro n' m1 news1 h2 tk2 F2 N2 ⟨j, tj, tb, ha, hb, rfl, hj0, hj1, hpre, rfl⟩
  replace F2 := put2F F2 ha hb
  (try dsimp only); (try k_fold)
  have hq0 : (0 : Int) ≤ (j : Int) := by omega
  have hq1 : (j : Int) ≤ (l.length : Int) := by omega
  k_steps
  all_goals (with_reducible rename Fr _ _ _ _ => Fz)
  all_goals (with_reducible rename News _ _ _ _ => Nz)
  · rename oneOf l (j : Int) _ = true => ho
    obtain ⟨hj2, hd⟩ := oneOf_dig_true ho
    refine WhileStep.intro Fz Nz ?_ ⟨j + 1, _, tb, rfl, rfl, by rw [Int.natCast_add]; rfl, by omega, by omega, digL_next hj0 hj2 hpre hd, rfl⟩
    omega
  · rename oneOf l (j : Int) _ = false => ho
    have hst := digL_stop (oneOf_dig_false ho)
    obtain ⟨e1, e2⟩ := digL_at hj0 hpre hst hj1
    have e3 : digL l i = (l.drop i.toNat).take ((j : Int) - i).toNat := by
      unfold digL; rw [e1]; congr 1; omega
    have e4 : i + ((digL l i).length : Int) = (j : Int) := by
      unfold digL; rw [e2]; omega
    rw [e4, e3] at hret
    exact hret _ _ _ _ Fz.keep (Nz.get (List.mem_cons_self ..))
end Mine
end
section --C7
set_option maxHeartbeats 0
namespace Mine
theorem lnC7a : True := by
  k_with_none
  k_with "a1" => (first | with_reducible assumption | ((with_reducible apply Mine.ltm); (with_reducible assumption); k_mem))
  k_with "a2" => (first | with_reducible exact Mine.lss | with_reducible exact Mine.ltp (by assumption) | with_reducible exact Mine.ltp (Mine.ltp (by assumption)) | with_reducible exact Mine.ltp (Mine.ltp (Mine.ltp (by assumption))) | ((with_reducible refine Mine.lts ?_); first | with_reducible exact Mine.lss | k_memK) | ((with_reducible refine Mine.lts (Mine.lts ?_)); first | with_reducible exact Mine.lss | k_memK) | ((with_reducible refine Mine.lts (Mine.lts (Mine.lts ?_))); k_memK))
  k_with "a3" => (first | k_cls | ((with_reducible apply Mine.ltr); (with_reducible assumption); first | k_memK | k_cls) | ((with_reducible apply Mine.ltr); (with_reducible exact Mine.ltp (by assumption)); first | k_memK | k_cls))
  k_with "a4" => (first | with_reducible exact Mine.neAll (by assumption) | with_reducible exact Mine.neNil | ((with_reducible refine Mine.neCons ?_ ?_); k_ne; k_all))
  k_with "a5" => (first | with_reducible exact Mine.subNil | with_reducible exact Mine.subSame | ((with_reducible refine Mine.subCons ?_ ?_); k_mem; k_subL) | ((with_reducible refine Mine.subApp ?_ ?_); k_subL; k_subL) | ((with_reducible refine Mine.subTail ?_); k_subL))
  k_with "a6" => (first | with_reducible assumption | ((with_reducible show @Ne Nat _ _); first | ((with_reducible refine Mine.nlt ?_); k_memK) | ((with_reducible refine Mine.ngt ?_); k_memK) | (with_reducible exact Ne.symm (by assumption)) | ((with_reducible refine Mine.nlt ?_); k_types) | ((with_reducible refine Mine.ngt ?_); k_types)) | ((with_reducible apply Mine.dq0); (with_reducible assumption); decide) | ((with_reducible apply Mine.dq1); (with_reducible assumption); decide) | ((with_reducible apply Mine.dq2); (with_reducible assumption); decide) | ((with_reducible apply Mine.dq3); (with_reducible assumption); decide) | ((with_reducible apply Mine.dq4); (with_reducible assumption); decide) | ((with_reducible first | apply Mine.il1 | apply Mine.il3); (with_reducible assumption); decide) | ((with_reducible first | apply Mine.il2 | apply Mine.il4); (with_reducible assumption); decide) | ((with_reducible first | apply Mine.iu1 | apply Mine.iu3); (with_reducible assumption); decide) | ((with_reducible first | apply Mine.iu2 | apply Mine.iu4); (with_reducible assumption); decide) | ((with_reducible first | apply Mine.nl3 | apply Mine.nl2); (with_reducible assumption); decide) | ((with_reducible first | apply Mine.nu1 | apply Mine.nu3); (with_reducible assumption); decide) | ((with_reducible first | apply Mine.nu2 | apply Mine.nu4); (with_reducible assumption); decide) | ((with_reducible show @LT.lt Nat _ _ _); first | k_memK | k_types) | decide)
  k_with "a7" => (repeat (rename ∀ _ ∈ (_ : List (Addr × Obj)), @LT.lt Nat _ _ _ => hrw; replace hrw := allLt_of hrw; dsimp only [AllLt] at hrw))
  k_with "a8" => (first | (k_whole; kc_bool) | omega +splitDisjunctions | (k_whole; k_units; omega +splitDisjunctions))
  k_with "a9" => (first | (k_whole; kc_bool) | lia | omega +splitDisjunctions)
  k_with "eval Call" => ((fail_if_success (fail_if_success k_fold)); refine foldL ?_; intro qk ek; walk1)
  k_with "eval BinOp" => ((fail_if_success (fail_if_success k_fold)); refine foldL ?_; intro qk ek; walk1)
  k_with "eval Tuple" => ((fail_if_success (fail_if_success k_fold)); refine foldL ?_; intro qk ek; walk1)
  k_with "isTrue Compare" => ((fail_if_success (fail_if_success k_fold)); refine foldL ?_; intro qk ek; walk1)
  k_with "eval Subscript" => ((fail_if_success (fail_if_success k_fold)); refine foldL ?_; intro qk ek; walk1)
  k_with "exec Assign" => ((fail_if_success (fail_if_success k_fold)); refine foldL ?_; intro qk ek; walk1)
  k_with "eval List" => ((fail_if_success (fail_if_success k_fold)); refine foldL ?_; intro qk ek; walk1)
  k_with "eval Attribute" => ((fail_if_success (fail_if_success k_fold)); refine foldL ?_; intro qk ek; walk1)
  k_with "eval UnaryOp" => ((fail_if_success (fail_if_success k_fold)); refine foldL ?_; intro qk ek; walk1)
  k_with "callWith ref" => ((fail_if_success (fail_if_success k_fold)); refine foldL ?_; intro qk ek; walk1)
  k_with "callWith" => ((fail_if_success (fail_if_success k_fold)); refine foldL ?_; intro qk ek; walk1)
  k_with "subscriptTail Name Constant ref int" => (k_here; first | refine tup_item0 (by assumption) (by assumption) ?_ | refine tup_item1 (by assumption) (by assumption) ?_)
  k_with "exec While" => (k_here; refine Stop.go ?_)
  k_with "binaryOp FloorDiv int int" => (k_here; refine floordiv_int (by first | decide | omega) ?_ (Or.inl (noPyl (by first | decide | omega) (by first | decide | omega))))
  k_with "newTuple" => (k_here; k_dflt (refine' newTuple_mine ?k1 ?k2 ?_ ?k3; (case k1 => k_asm); (case k2 => k_asm); (case k3 => first | decide | (exact Nat.le_of_ble_eq_true rfl) | (simp only [sizeLine_eq]; simp))); intro D' h' F' N' l1 l2; (try k_lt l1); (try k_lt2 l2); (try k_sweep))
  k_with "binaryOp Mult int int" => (k_here; refine mul_int ?_ (by first | exact mulOk60 (by omega) (by omega) (by omega) (by omega) | mul_fits))
  k_with "call builtin:len" => (k_here; refine r_len (by first | omega | (simp only [List.length_append, List.length_cons, List.length_nil]; omega)) ?_; intro t9 k9)
  k_with "subscriptTail Attribute Attribute str int" => (k_here; (with_reducible show wpAny _ _ (subscriptTail _ _ (Value.str (S _) _) (Value.int _ _)) _ _ _); k_dflt (refine r_item (by omega) (by omega) (by omega) ?_); intro t9 k9)
  k_with "compareOp In str str" => (k_here; refine r_in ?_)
  k_with "subscriptTail Attribute Slice str ref" => (k_here; (with_reducible show wpAny _ _ (subscriptTail _ (Expr.Slice (some _) (some _) none _) (Value.str (S _) _) (Value.ref _)) _ _ _); (with_reducible rename Fr _ _ _ _ => Fz); (with_reducible rename News _ _ _ _ => Nz); k_dflt (refine r_slice (s := ⟨_, _, _, _, _⟩) Fz Nz (by omega) (by omega) (by omega) (by omega) ?_); intro h9 t9 k9 F9 N9; (try k_sweep))
  k_with "compareOp Eq str str" => (k_here; first | refine r_eq_f (by assumption) ?_ | refine r_eq_t (by assumption) ?_ | refine r_eq ?_)
  k_with "compareOp NotEq str str" => (k_here; first | refine r_ne_t (by assumption) ?_ | refine r_ne_f (by assumption) ?_ | refine r_ne ?_)
  k_with "exec For Name Name cons nil" => (k_here; (rename Fr _ _ _ _ => lF'); (with_unfolding_all refine' For_invVF lF' ?k1 ?k2 ?_; (case k1 => exact rfl); (case k2 => exact rfl); k_whole))
  k_with "pyIter str" => (k_here; refine Stop.go ?_)
  k_with "call builtin:str.index" => (k_here; refine r_index_dig (by assumption) ?_; intro t9 k9)
  trivial
theorem whole_of_spec {w : World} {A : Around} {s : Shared} {l : List Nat} {tl : Tok} {Q E : Value → Shared → Prop}
    (R : Rd (hd.heap_1 w.params) 1 A s.heap s) (hd : ∀ c ∈ l, isDig c = true) (_hlen : l.length ≤ 3000)
    (hret : ∀ t h' tk', s.heap.StaysIn h' → Q (.int (wholeL l) t) { s with heap := h', toks := tk' }) :
    wpAny (model PySem.Challenge.rw_pf0197_01.row.prog w) A (call (.ref 172) [.str (S l) tl] []) Q E s := by
  revert R; k_fill; intro R
  refine' enter (news := []) (args := ⟨[.str (S l) tl], []⟩) (binds := [(Str.ofString "digits", .str (S l) tl)]) R ?foot ?ho ?hcd ?hbind ?hloc ?h ?hcell ?hco ?hgen ?hk
  case foot => intro p hp; cases hp
  case ho => k_is
  case hcd => k_is
  case hbind => exact BindsTo.of_eq rfl
  case hloc => exact locs rfl
  case hcell => decide
  case hco => exact rfl
  case hgen => exact rfl
  case hk => exact rfl
  clear R
  intro base dp un outer p loose mean mg mb L h₁ F' N' B' X' T' hDp hUn hl hs hA
  clear hA
  (try dsimp only); (try k_fold)
  k_steps
  refine Stop.out ?_
  (with_reducible rename Fr _ _ _ _ => F1)
  (with_reducible rename News _ _ _ _ => N1)
  refine str_turns (fun pre m => ∃ t, m (Str.ofString "number") = some (.int (wholeL pre) t)) rfl F1 N1 ⟨_, rfl⟩ ?_ ?_
  · clear F1 N1
    rintro pre c post t m1 h2 tk2 own hl ⟨t2, h1⟩ F2 N2
    replace F2 := putF (x := Str.ofString "number") F2 h1
    have hdc : isDig c = true := hd c (by rw [hl]; simp)
    (try dsimp only); (try k_fold)
    k_steps
    (with_reducible rename Fr _ _ _ _ => Fz)
    (with_reducible rename News _ _ _ _ => Nz)
    exact strEnd Fz Nz (fun _ h => h) ⟨_, by rw [wholeL_snoc]; rfl⟩
  · clear F1 N1
    rintro m1 h2 tk2 ⟨t2, h1⟩ F2 N2
    replace F2 := putF (x := Str.ofString "number") F2 h1
    (try dsimp only); (try k_fold)
    k_steps
    exact hret _ _ _ F2.keep
end Mine
end
section --S4
set_option maxHeartbeats 400000
namespace Mine
theorem enterC {prog : Program} {w : World} {K : Frag} {k : Nat} {A : Around} {g : Heap} {s : Shared} {news : List (Addr × Obj)} {Q E : Value → Shared → Prop}
    {name qual : Str} {params : Arguments} {body : List Stmt} {scope : Scope} {dV kV doc pm cdv ct oc : Value} {an od : Option Addr} {osl : Array (Option Value)} {f : Addr} {args : Args} {binds : List (Str × Value)}
    (R : Rd K k A g s) (foot : ∀ p ∈ news, s.heap.get? p.1 = some p.2 ∧ g.get? p.1 = none)
    (ho : K.lookup f = some ⟨oc, od, .func (fnOf name qual params body scope dV kV doc pm an cdv ct), osl⟩) (hcd : codeIn K cdv qual = true)
    (hbind : BindsTo s (fnOf name qual params body scope dV kV doc pm an cdv ct) args binds) (hkind : (binds.all fun y => scope.names.lookup y.1 == some .local || scope.names.lookup y.1 == some .cell) = true)
    (hnd : ((cellsFrom 0 scope.names []).map (·.1)).Nodup)
    (h : ∀ (base : Heap) (dp un : Nat) (outer : List Env) (p : Program) (loose : List Str) (mean : ExcName → Option Value) (mg mb : Str → Option Value) (L : Addr) (h₁ : Heap) (tk : Nat) (cells : List (Addr × Obj)),
      Fr g L h₁ (bindL (envOfC qual scope L f cdv).kindOf binds fun _ => none) → News g L h₁ (cells ++ news) → CellsAre (bindC (envOfC qual scope L f cdv).kindOf binds fun _ => none) (cellsFrom (L + 1) scope.names []) cells →
      Below (top dp outer un) base outer g → K.In g → Top p loose mean mg mb g → dp + k ≤ 900 → un + 10 * k ≤ 9000 → (∀ p ∈ news, p.1 < L) → g.objs.size = L →
      wpAny (model prog w) ((top dp outer un).deeper (envOfC qual scope L f cdv)) (execs body (envOfC qual scope L f cdv))
        (fun fl s' => Q (match fl with | .ret v => v | _ => .none) s')
        (fun e s' => wpAny (model prog w) ((top dp outer un).deeper (envOfC qual scope L f cdv)) (leaving (envOfC qual scope L f cdv) e) (fun _ s'' => E e s'') (fun e' s'' => E e' s'') s')
        { s with heap := h₁, toks := tk })
    (hco : scope.isCoroutine = false) (hgen : scope.isGenerator = false) (hk : scope.kind = .function) :
    wpAny (model prog w) A (call (.ref f) args.pos args.kw) Q E s := by
  obtain ⟨hh, hg, hd, hu, ⟨base, outer, p, loose, mean, mg, mb, B, T⟩, X, st, sz⟩ := R
  obtain ⟨a1, dp, a2, a3, un⟩ := A
  have hst := B.stack
  dsimp only at hh hg hd hu hst
  subst hh hg hst
  refine wpAny_call ?_
  refine codeAny_call_function (fd := fnOf name qual params body scope dV kV doc pm an cdv ct) (by show dp < 1000; omega) (st _ _ (X _ _ ho)) rfl hco hgen rfl (codeRec_of (X.keeps st) hcd) (hbind _ _ _ _ ?_)
  refine wpAny_newFunctionEnv_cells hk (kindsX hkind _) fun env' he s' x => ?_
  subst he
  refine ⟨(T.nolimit.keeps st).keeps x.toInCall.keep, codeAny_func ?_⟩
  obtain ⟨h₁, tk, rfl, _⟩ := x.done
  have hk₁ := x.toInCall.keep
  obtain ⟨cells, NC, Y⟩ := Cl.news (h₀ := s.heap) (Nat.le_refl _) fun n c hm => ⟨x.cell n c (lookup_of_mem_nodup (cellsFrom_names scope.names 0 (s.heap.objs.size + 1) [] [] rfl ▸ hnd) hm), x.above n c hm⟩
  refine wpAny_mono (h base dp un outer p loose mean mg mb s.heap.objs.size h₁ tk cells ⟨x.toInCall.ns, fun b o e => hk₁ b o (st _ _ e), Nat.le_of_eq sz⟩ (fun q hq => ?_) Y B X T hd hu (fun q hq => Heap.lt_size (foot q hq).1) sz) (fun fl s' hl => ?_) fun _ _ y => y
  · rcases List.mem_append.mp hq with hq | hq
    · refine ⟨(NC q hq).1, (NC q hq).2.1, ?_⟩
      cases e : g.get? q.1 with
      | none => rfl
      | some o => have := st _ _ e; rw [(NC q hq).2.2] at this; cases this
    · exact ⟨hk₁ _ _ (foot q hq).1, Nat.ne_of_lt (Heap.lt_size (foot q hq).1), (foot q hq).2⟩
  · exact hl
end Mine
end
section --S8
namespace Mine
noncomputable def Tr (c : Value) (h base : Heap) (e : Addr) (cls fl : Value) : Prop :=
  ∃ oe vs T oT ts, h.get? e = some oe ∧ oe.cls = cls ∧ oe.data = .fields vs ∧ vs[1]? = some (.ref T) ∧ vs[2]? = some c ∧ base.get? T = none ∧ T ≠ e ∧ h.get? T = some oT ∧ oT.data = .fields ts ∧ ts[3]? = some fl
structure Fly (c : Value) (base : Heap) (l : List Env) (e : Addr) (cls fl : Value) (h : Heap) : Prop where
  st : base.StaysIn h
  new : base.get? e = none
  fs : h.FunFrames base l
  tr : Tr c h base e cls fl
section
variable {M : Model} {A : Around} {E : Value → Shared → Prop} {s : Shared} {base : Heap} {env : Env} {outer l : List Env} {L e : Addr} {cls c fl : Value} {Q : Unit → Shared → Prop}
theorem x_entry {oe : Obj} {vs : Array Value} {head : Value} {more : Bool} (hfr : A.frames = some (env :: outer)) (hl : s.heap.FunFrames base (env :: outer)) (hf : env.frame = some L)
    (he : s.heap.get? e = some oe) (st : base.StaysIn s.heap) (new : base.get? e = none) (hd : oe.data = .fields vs) (h1 : 1 < vs.size) (h2 : vs[2]? = some c)
    (h : ∀ h', Fly c base (env :: outer) e oe.cls (rawInt L) h' → s.heap.UpToSlots h' → Q () { s with heap := h' }) :
    wpAny M A (do let a ← frameOf env; let pl ← entryPlaceOf L more; let b ← EntryCells.newEntry head a .none (rawInt L) .none pl; setField (.ref e) 1 b) Q E s := by
  have ne : ∀ b o, s.heap.get? b = some o → (∀ ws, o.data ≠ .fields ws) → b ≠ e := fun b o hb hn q => by
    rw [q, he] at hb; cases hb; exact hn vs hd
  refine wpAny_bind (wpAny_frameOf_fun hfr hl hf fun g1 so => wpAny_bind (wpAny_entryPlaceOf fun pl hp => ?_))
  unfold EntryCells.newEntry newFields
  refine wpAny_bind (wpAny_newObj_type ?_ (hp.sizeOk5 _ _ _ _ _))
  have e1 : g1.get? e = some oe := (so.2.1 e fun hm => by
    obtain ⟨_, o, ho, hn⟩ := hl.mem hm
    exact ne e o ho hn rfl).trans he
  have s1 : base.StaysIn g1 := fun b o hb => (so.2.1 b fun hm => by rw [(hl.mem hm).1] at hb; cases hb).trans (st b o hb)
  obtain ⟨oT, hoT⟩ : ∃ oT : Obj, oT = { cls := .type "traceback", dict := none, data := .fields ([head, .ref L, .none, rawInt L, .none] ++ (if pl.isEmpty then List.replicate 6 Value.none else pl)).toArray } := ⟨_, rfl⟩
  rw [← hoT]
  have e2 := Heap.get?_push_of_some (h := g1) oT e1
  refine wpAny_setField e2 hd h1 (h _ ?_ ?_)
  · have Te : g1.objs.size ≠ e := Nat.ne_of_gt (Heap.lt_size e1)
    have kp : ∀ b o, b ≠ e → g1.get? b = some o → ((g1.push oT).update e (Obj.mapFields (·.setIfInBounds 1 (Value.ref g1.objs.size)))).get? b = some o := fun b o q hb =>
      (Heap.get?_update_other _ _ (Ne.symm q)).trans (Heap.get?_push_of_some _ hb)
    refine ⟨fun b o hb => kp b o (fun q => by rw [q, new] at hb; cases hb) (s1 b o hb), new, hl.of_keeps fun b o hb hn => ?_, ?_⟩
    · obtain ⟨sl, hs⟩ := so.2.2 b o hb
      exact ⟨_, kp b _ (ne b o hb hn) hs, rfl⟩
    · refine ⟨_, _, g1.objs.size, oT, _, Heap.get?_update_self _ e2 (Obj.isFreed_of_fields (Obj.data_mapFields hd _)), Obj.cls_mapFields _ _, Obj.data_mapFields hd _, by simp [h1], by rw [Array.getElem?_setIfInBounds_ne (by decide)]; exact h2, s1.fresh, Te,
        (Heap.get?_update_other _ _ (Ne.symm Te)).trans (Heap.get?_push_size _ (by rw [hoT]; rfl)), by rw [hoT], ?_⟩
      first | (simp; done) | (rcases hp with rfl | ⟨_, _, _, _, _, _, _, rfl⟩ <;> simp)
  · intro b o hb hn
    obtain ⟨sl, hs⟩ := so.2.2 b o hb
    exact ⟨sl, (Heap.get?_update_other _ _ (Ne.symm (ne b o hb hn))).trans (Heap.get?_push_of_some _ hs)⟩
theorem x_note0 {oe : Obj} {vs : Array Value} (hfr : A.frames = some (env :: outer)) (hl : s.heap.FunFrames base (env :: outer)) (hf : env.frame = some L)
    (he : s.heap.get? e = some oe) (st : base.StaysIn s.heap) (new : base.get? e = none) (hd : oe.data = .fields vs) (h1 : vs[1]? = some .none) (h2 : vs[2]? = some c)
    (h : ∀ h', Fly c base (env :: outer) e oe.cls (rawInt L) h' → s.heap.UpToSlots h' → Q () { s with heap := h' }) : wpAny M A (noteFrame (.ref e) env) Q E s := by
  unfold noteFrame
  simp only [hf]
  refine wpAny_bind (wpAny_field he hd h1 ?_)
  rw [if_neg (by decide)]
  exact x_entry hfr hl hf he st new hd (Array.getElem?_eq_some_iff.mp h1).1 h2 h
theorem x_note (hfr : A.frames = some (env :: outer)) (hf : env.frame = some L) (f : Fly c base (env :: outer) e cls .none s.heap)
    (h : ∀ h', Fly c base (env :: outer) e cls (rawInt L) h' → s.heap.UpToSlots h' → Q () { s with heap := h' }) : wpAny M A (noteFrame (.ref e) env) Q E s := by
  obtain ⟨st, new, hl, oe, vs, T, oT, ts, he, rfl, hd, h1, h2, hT, Te, hTo, hdT, h3⟩ := f
  unfold noteFrame
  simp only [hf]
  refine wpAny_bind (wpAny_field he hd h1 ?_)
  rw [if_pos (show (Value.ref T != Value.none) = true from by simp)]
  refine wpAny_bind (wpAny_field hTo hdT h3 ?_)
  rw [if_neg (show ¬ ((Value.none == rawInt L) = true) from by simp [rawInt])]
  refine wpAny_bind (wpAny_setField hTo hdT (Array.getElem?_eq_some_iff.mp h3).1 ?_)
  have ot : ∀ b, b ≠ T → (s.heap.update T (Obj.mapFields (·.setIfInBounds 3 Value.none))).get? b = s.heap.get? b := fun b q => Heap.get?_update_other _ _ (Ne.symm q)
  have nT : ∀ b o, s.heap.get? b = some o → (∀ ws, o.data ≠ .fields ws) → b ≠ T := fun b o hb hn q => by
    rw [q, hTo] at hb; cases hb; exact hn ts hdT
  exact x_entry hfr (hl.of_keeps fun b o hb hn => ⟨o, (ot b (nT b o hb hn)).trans hb, rfl⟩) hf ((ot e (Ne.symm Te)).trans he) (fun b o hb => (ot b fun q => by rw [q, hT] at hb; cases hb).trans (st b o hb)) new hd (Array.getElem?_eq_some_iff.mp h1).1 h2
    fun h' y1 y2 => h h' y1 fun b o hb hn => y2 b o ((ot b (nT b o hb hn)).trans hb) hn
theorem x_again (hf : env.frame = some L) (f : Fly c base l e cls (rawInt L) s.heap) (h : Q () s) : wpAny M A (noteFrame (.ref e) env) Q E s := by
  obtain ⟨st, new, hl, oe, vs, T, oT, ts, he, rfl, hd, h1, h2, hT, Te, hTo, hdT, h3⟩ := f
  unfold noteFrame
  simp only [hf]
  refine wpAny_bind (wpAny_field he hd h1 ?_)
  rw [if_pos (show (Value.ref T != Value.none) = true from by simp)]
  refine wpAny_bind (wpAny_field hTo hdT h3 ?_)
  rw [if_pos (show (rawInt L == rawInt L) = true from by simp)]
  exact wpAny_pure h
theorem x_mark {a : Option Addr} (f : Fly c base l e cls fl s.heap) (h : ∀ h', Fly c base l e cls (a.elim .none fun k => rawInt k) h' → s.heap.UpToSlots h' → Q () { s with heap := h' }) : wpAny M A (setFlight (.ref e) a) Q E s := by
  obtain ⟨st, new, hl, oe, vs, T, oT, ts, he, rfl, hd, h1, h2, hT, Te, hTo, hdT, h3⟩ := f
  have h3s := (Array.getElem?_eq_some_iff.mp h3).1
  unfold setFlight
  refine wpAny_bind (wpAny_field he hd h1 ?_)
  rw [if_pos (show (Value.ref T != Value.none) = true from by simp)]
  refine wpAny_setField hTo hdT h3s ?_
  have ot : ∀ b, b ≠ T → (s.heap.update T (Obj.mapFields (·.setIfInBounds 3 (a.elim .none fun k => rawInt k)))).get? b = s.heap.get? b := fun b q => Heap.get?_update_other _ _ (Ne.symm q)
  have nT : ∀ b o, s.heap.get? b = some o → (∀ ws, o.data ≠ .fields ws) → b ≠ T := fun b o hb hn q => by
    rw [q, hTo] at hb; cases hb; exact hn ts hdT
  refine h _ ⟨fun b o hb => (ot b fun q => by rw [q, hT] at hb; cases hb).trans (st b o hb), new, hl.of_keeps fun b o hb hn => ⟨o, (ot b (nT b o hb hn)).trans hb, rfl⟩, ?_⟩ fun b o hb hn => ⟨o.slots, (ot b (nT b o hb hn)).trans hb⟩
  exact ⟨oe, vs, T, _, _, (ot e (Ne.symm Te)).trans he, rfl, hd, h1, h2, hT, Te, Heap.get?_update_self _ hTo (Obj.isFreed_of_fields (Obj.data_mapFields hdT _)), Obj.data_mapFields hdT _, by simp [h3s]⟩
theorem x_leave0 {oe : Obj} {vs : Array Value} (hfr : A.frames = some (env :: outer)) (hl : s.heap.FunFrames base (env :: outer)) (hf : env.frame = some L)
    (he : s.heap.get? e = some oe) (st : base.StaysIn s.heap) (new : base.get? e = none) (hd : oe.data = .fields vs) (h1 : vs[1]? = some .none) (h2 : vs[2]? = some c)
    (h : ∀ h', Fly c base outer e oe.cls .none h' → s.heap.UpToSlots h' → Q () { s with heap := h' }) : wpAny M A (leaving env (.ref e)) Q E s := by
  unfold leaving
  refine wpAny_bind (x_note0 hfr hl hf he st new hd h1 h2 fun h' f u => x_mark f fun h'' f' u' => h h'' ?_ (u.trans u'))
  exact ⟨f'.st, f'.new, f'.fs.2.2, f'.tr⟩
theorem x_leave (hfr : A.frames = some (env :: outer)) (hf : env.frame = some L) (f : Fly c base (env :: outer) e cls .none s.heap)
    (h : ∀ h', Fly c base outer e cls .none h' → s.heap.UpToSlots h' → Q () { s with heap := h' }) : wpAny M A (leaving env (.ref e)) Q E s := by
  unfold leaving
  refine wpAny_bind (x_note hfr hf f fun h' f u => x_mark f fun h'' f' u' => h h'' ?_ (u.trans u'))
  exact ⟨f'.st, f'.new, f'.fs.2.2, f'.tr⟩
theorem x_leaveN (hf : env.frame = some L) (f : Fly c base (env :: outer) e cls (rawInt L) s.heap)
    (h : ∀ h', Fly c base outer e cls .none h' → s.heap.UpToSlots h' → Q () { s with heap := h' }) : wpAny M A (leaving env (.ref e)) Q E s := by
  unfold leaving
  refine wpAny_bind (x_again hf f (x_mark f fun h'' f' u' => h h'' ?_ u'))
  exact ⟨f'.st, f'.new, f'.fs.2.2, f'.tr⟩
theorem x_came (hf : env.frame = some L) (f : Fly c base l e cls fl s.heap) (h : ∀ h', Fly c base l e cls (rawInt L) h' → s.heap.UpToSlots h' → E (.ref e) { s with heap := h' }) : cameBackBy M A env E (.ref e) s := by
  unfold cameBackBy
  have f' := f
  obtain ⟨st, new, hl, oe, vs, T, oT, ts, he, rfl, hd, h1, r⟩ := f'
  refine wpAny_bind (wpAny_field he hd h1 ?_)
  rw [if_neg (by simp)]
  rw [hf]
  exact x_mark f h
end
end Mine
end
section --S9
namespace Mine
section
variable {prog : Program} {w : World} {A : Around} {E : Value → Shared → Prop} {s : Shared} {K : Frag} {x C B : Addr} {cd : ClassData} {vs : Array Value} {name : Str} {v : Value}
theorem x_set {Q : Unit → Shared → Prop} (X : K.In s.heap) (hx : s.heap.get? x = some { cls := .ref C, data := .fields vs }) (hs : findIn K (.ref C) "__setattr__" = some (some (.builtin "object.__setattr__")))
    (hc : clsIn K C = some cd) (hm : cd.mro = [.ref C, .ref B, .type "Exception", .type "BaseException", .type "object"]) (hh : cd.hasDict = true) (ha : findIn K (.ref C) name = some none)
    (h : ∀ h' tk, (∀ b o, b ≠ x → s.heap.get? b = some o → h'.get? b = some o) → (∃ o, h'.get? x = some o ∧ o.cls = .ref C ∧ o.data = .fields vs) → Q () { s with heap := h', toks := tk }) :
    wpAny (model prog w) A (setAttr (.ref x) name v) Q E s := by
  have I : InstAt s.heap x { cls := .ref C, data := .fields vs } C none := ⟨hx, rfl, rfl, trivial⟩
  have SF := PySem.F.store_object
  refine set_plain X I hs ?_
  have sub : Looks (model prog w) s.heap (isInstance (.ref x) (.type "object")) true :=
    I.type.andThen (looks_mroIn X (by unfold mroIn; rw [hc, Option.bind_some, if_neg (by rw [hm]; exact Bool.false_ne_true), hm]; simp))
  refine codeAny_call_builtin SF.slot.plain SF.entry (@check_slot (model prog w) _ _ { s with toks := s.toks + 1 } "object.__setattr__" "object" "__setattr__" (.ref x) [.str name s.toks, v] [] _ SF.kind SF.split sub (SF.args (.ref x) (.str name s.toks) v) ?_)
  have lm : Looks (model prog w) s.heap (mroOf (.ref C)) cd.mro := (looks_clsIn X hc).andThen .now
  have la : Looks (model prog w) s.heap (typeLookup (.ref C) name) none := looks_findIn X ha
  have lc : Looks (model prog w) s.heap (classData C) cd := looks_clsIn X hc
  have lt : Looks (model prog w) s.heap (typeOf (.ref x)) (.ref C) := I.type
  clear sub
  rw [osa_eq, refuse_eq]
  obtain ⟨hp, g, d, t, os⟩ := s
  refine wpAny_bind (wpAny_bind (lt.at (wpAny_bind (lm.at ?_))))
  rw [hm, refuseLoop_ref, refuseLoop_ref, PySem.F.store_Exception.passes]
  refine wpAny_pure (wpAny_bind (lt.at (wpAny_bind (la.at (wpAny_bind (wpAny_pure ?_))))))
  show wpAny _ _ (Builtin.ObjectAttr.storeInOwnDict (.ref x) (.ref C) (.str name t) name v false) _ _ _
  unfold Builtin.ObjectAttr.storeInOwnDict
  refine wpAny_bind (wpAny_pure (wpAny_bind ?_))
  show wpAny _ _ (instanceDict x true) _ _ _
  unfold instanceDict
  refine wpAny_bind (wpAny_loadPart hx (wpAny_bind (lc.at ?_)))
  rw [hh, if_neg (by decide)]
  dsimp only
  rw [if_neg (by simp [typeHasDict])]
  have hx1 : (hp.push { cls := .type "dict", data := .dict #[] }).get? x = some { cls := .ref C, data := .fields vs } := Heap.get?_push_of_some _ hx
  have xn : x ≠ hp.objs.size := Nat.ne_of_lt (Heap.lt_size hx)
  refine wpAny_bind (wpAny_alloc' (wpAny_bind (wpAny_update' hx1 (wpAny_bind (wpAny_pure (wpAny_pure ?_))))))
  have gd : ((hp.push { cls := .type "dict", data := .dict #[] }).update x fun o => { o with dict := some hp.objs.size }).get? hp.objs.size = some { cls := .type "dict", data := .dict #[] } :=
    (Heap.get?_update_ne _ _ _ _ xn.symm).trans (Heap.get?_push_at rfl rfl)
  have nd : ((hp.push { cls := .type "dict", data := .dict #[] }).update x fun o => { o with dict := some hp.objs.size }).Ns hp.objs.size (fun _ => none) :=
    ⟨_, #[], _, gd, rfl, fun e he => absurd he (by simp), fun _ => rfl⟩
  show wpAny _ _ (Builtin.ObjectAttr.storeInDict hp.objs.size (.str name t) name v) _ _ _
  unfold Builtin.ObjectAttr.storeInDict Builtin.ObjectAttr.newKeyGuard
  refine wpAny_bind (wpAny_pure (wpAny_bind (wpAny_nsSet1 (Heap.Ns1.of_empty nd) fun h' hn' hs' => ?_)))
  obtain ⟨oD, esD, epD, hoD, hdD, hcD⟩ := hn'.count (Within.cons name v Within.nil)
  refine wpAny_bind (wpAny_lookBehind hoD (by rw [hdD]; exact pastItsLine_dict (Nat.le_trans hcD (by rw [List.length_cons, List.length_nil, sizeLine_eq]; omega))) (wpAny_pure ?_))
  exact h h' _ (fun b o q hb => (hs'.2 b (Nat.ne_of_lt (Heap.lt_size hb))).trans ((Heap.get?_update_ne _ _ _ _ q).trans (Heap.get?_push_of_some _ hb)))
    ⟨_, (hs'.2 x xn).trans (Heap.get?_update_self _ hx1 rfl), rfl, rfl⟩
end
end Mine
end
section --S10
namespace Mine
section
variable {prog : Program} {w : World} {A : Around} {E : Value → Shared → Prop} {h : Heap} {g : Array GenState} {d : Drawn} {t : Nat} {os : OsState} {K : Frag}
variable {nm q : Str} {C N : Addr} {bs bm : List Value} {hdct : Bool} {sn : List Str} {sub : List Value} {ab : Bool} {col : Option Bool} {dd : Option Addr} {k0 k1 k2 k3 k5 : Option Value}
structure Bms (bm : List Value) : Prop where
  ex : bm.contains (.type "Exception") = true
  ba : bm.contains (.type "BaseException") = true
  na : bm.contains (.type "AttributeError") = false
  nn : bm.contains (.type "NameError") = false
theorem x_check_new {M : Model} {rest : List Value} {Q : Unit → Shared → Prop} (b : Bms bm) (hC : h.get? C = some (excClassObj nm q C N bs bm hdct sn sub ab col dd k0 k1 k2 k3 k5 "Exception.__new__"))
    (hq : Q () ⟨h, g, d, t, os⟩) : wpAny M A (checkBuiltinCall "Exception.__new__" ⟨.ref C :: rest, []⟩) Q E ⟨h, g, d, t, os⟩ := by
  have F := PySem.F.excBase_Exception
  have hc : (Value.ref C :: bm).contains (.type "Exception") = true := by rw [List.contains_cons, b.ex, Bool.or_true]
  have hstar := F.noStar
  simp only [checkBuiltinCall, F.newKind, F.newSplit, F.newRow]
  repeat (first | refine wpAny_loadPart_at hC ?_ | (refine wpAny_isSubtype_exc hC ?_; rw [hc]) | refine wpAny_staticBase_exc hC ?_ | refine wpAny_madeBy_exc hC ?_ | simp only [bne_self_eq_false, Bool.false_eq_true, if_false] | wp_step)
  exact hq
theorem x_new_code {R : Result → Shared → Prop} {rest : List Value} (b : Bms bm) (hC : h.get? C = some (excClassObj nm q C N bs bm hdct sn sub ab col dd k0 k1 k2 k3 k5 "Exception.__new__"))
    (hq : R (.ok (.ret (.ref (h.objs.size + 1)))) ⟨(h.push { cls := .type "tuple", data := .seq rest.toArray }).push
      { cls := .ref C, data := .fields #[.ref h.objs.size, .none, .none, .none, .bool false, .none] }, g, d, t, os⟩) (hrest : rest.length ≤ sizeLine) :
    codeAny (model prog w) A (.builtin "Exception.__new__" ⟨.ref C :: rest, []⟩) R ⟨h, g, d, t, os⟩ := by
  have F := PySem.F.excBase_Exception
  have hends := F.ends
  have hcB : (Value.ref C :: bm).contains (.type "Exception") = true := by rw [List.contains_cons, b.ex, Bool.or_true]
  have hcA : (Value.ref C :: bm).contains (.type "AttributeError") = false := by rw [List.contains_cons, b.na]; rfl
  have hcN : (Value.ref C :: bm).contains (.type "NameError") = false := by rw [List.contains_cons, b.nn]; rfl
  refine codeAny_builtinAt F.entry ?_
  unfold Builtin.«BaseException.__new__»
  refine PySem.wpAt_bind ?_
  show PySem.wpAt _ _ _ (stack >>= _) _ _ _
  refine PySem.wpAt_bind (PySem.wpAt_stack fun p below => PySem.wpAt_of_wpAny ?_)
  wp_walk
  refine PySem.wpAt_of_wpAny ?_
  rw [F.owner]
  repeat (first | with_reducible refine wpAny_madeHere_exc F.canon hC ?_ | with_reducible refine wpAny_loadPart_at hC ?_ | (with_reducible refine wpAny_isSubtype_exc hC ?_; first | rw [hcB] | rw [hcA] | rw [hcN]) | wp_step)
  show R _ _
  rw [Heap.size_push]
  exact hq
theorem x_type_call {rest : List Value} {fI : Addr} {oI : Obj} {Q : Fin → Shared → Prop} (b : Bms bm) (X : K.In h)
    (hC : h.get? C = some (excClassObj nm q C N bs bm hdct sn sub ab col dd k0 k1 k2 k3 k5 "Exception.__new__")) (hi : findIn K (.ref C) "__init__" = some (some (.ref fI)))
    (hfI : h.get? fI = some oI) (hfc : oI.cls = .type "function")
    (hq : ∀ h' e, Heap.MadeExcOf h h' e (.ref C) rest →
      wpAny (model prog w) A (call (.ref fI) (.ref e :: rest)) (fun r s' => r = .none ∧ Q (.done (.ret (.ref e))) s') E ⟨h', g, d, t, os⟩) (hrest : rest.length ≤ sizeLine) :
    wpAny (model prog w) A (Builtin.«type.__call__» ⟨.ref C :: rest, []⟩) Q E ⟨h, g, d, t, os⟩ := by
  have F := PySem.F.excBase_Exception
  repeat (first | with_reducible refine wpAny_loadPart_at hC ?_ | with_reducible refine wpAny_madeBy_exc hC ?_ | wp_step)
  refine codeAny_call_builtin_code (Code.quiet_builtin _ F.quiet) (x_check_new b hC ?_)
  refine x_new_code b hC ?_ hrest
  show wpAny _ _ _ _ _ _
  have kk : ∀ b o, h.get? b = some o → ((h.push { cls := .type "tuple", data := .seq rest.toArray }).push { cls := .ref C, data := .fields #[.ref h.objs.size, .none, .none, .none, .bool false, .none] }).get? b = some o :=
    fun b o e => Heap.get?_push_of_some _ (Heap.get?_push_of_some _ e)
  have hC1 := kk _ _ hC
  have hf1 := kk _ _ hfI
  have hget : ((h.push { cls := .type "tuple", data := .seq rest.toArray }).push
      { cls := .ref C, data := .fields #[.ref h.objs.size, .none, .none, .none, .bool false, .none] }).get? (h.objs.size + 1) = some
      { cls := .ref C, data := .fields #[.ref h.objs.size, .none, .none, .none, .bool false, .none] } := by heap_get
  have hcC : (Value.ref C :: bm).contains (.ref C) = true := by simp
  unfold isInstance
  repeat (first | with_reducible refine wpAny_loadPart_at hget ?_ | (with_reducible refine wpAny_isSubtype_exc hC1 ?_; rw [hcC]) | wp_step)
  show wpAny _ _ (typeLookup (.ref C) _) _ _ _
  refine (looks_findIn (X.keeps kk) hi).at ?_
  refine wpAny_holding (wpAny_bind ?_)
  unfold bindSpecial
  refine wpAny_bind (wpAny_typeOf (T := "function") ⟨_, hf1, hfc⟩ ?_)
  rw [if_pos (by decide)]
  refine wpAny_pure (wpAny_bind (wpAny_mono (hq _ (h.objs.size + 1) ⟨kk, Heap.get?_none_of_le (Nat.le_succ _), h.objs.size, hget, Heap.get?_none_of_le (Nat.le_refl _), ?_⟩) (fun r s' hr => ?_) fun _ _ x => x))
  · exact Heap.get?_push_of_some _ (Heap.get?_push_at rfl rfl)
  · obtain ⟨rfl, hQ⟩ := hr
    wp_walk
    exact hQ
theorem x_call {rest : List Value} {fI : Addr} {oI : Obj} {Q : Value → Shared → Prop} (b : Bms bm) (X : K.In h)
    (hC : h.get? C = some (excClassObj nm q C N bs bm hdct sn sub ab col dd k0 k1 k2 k3 k5 "Exception.__new__")) (hi : findIn K (.ref C) "__init__" = some (some (.ref fI)))
    (hfI : h.get? fI = some oI) (hfc : oI.cls = .type "function")
    (hq : ∀ h' e, Heap.MadeExcOf h h' e (.ref C) rest →
      wpAny (model prog w) (A.under (.builtin "type.__call__" ⟨.ref C :: rest, []⟩)) (call (.ref fI) (.ref e :: rest)) (fun r s' => r = .none ∧ Q (.ref e) s') E ⟨h', g, d, t, os⟩) (hrest : rest.length ≤ sizeLine) :
    wpAny (model prog w) A (call (.ref C) rest) Q E ⟨h, g, d, t, os⟩ := by
  have f1 := tc_lookup
  have f2 := tc_bind (.ref C)
  have hT : (⟨h, g, d, t, os⟩ : Shared).TypeIs (.ref C) "type" := ⟨_, hC, rfl⟩
  refine wpAny_call (codeAny_of_tree ?_)
  show wpAny _ _ (callAny (.ref C) _) _ _ _
  repeat (any_goals (first | assumption | with_reducible refine wpAny_loadPart_at hC ?_ | wp_step))
  refine ⟨rfl, ?_⟩
  exact codeAny_call_builtin_at (Code.quiet_builtin _ (by decide +kernel)) entry_typeCall (wpAny_check_type_call_sub hC (x_type_call b X hC hi hfI hfc (fun h' e hm => hq h' e hm) hrest))
end
theorem entry_unchain : entryFor table "proto.unchain" = some Builtin.«proto.unchain» := entryFor_of_fast (by kernel_rfl)
theorem x_new_in {prog : Program} {w : World} {A : Around} {E : Value → Shared → Prop} {α : Type} {Q : α → Shared → Prop} {s : Shared} {e e1 : Addr} {oe o1 : Obj} {vs v1 : Array Value} (hh : A.handled = some (.ref e1)) (ne : e1 ≠ e)
    (he1 : s.heap.get? e1 = some o1) (hd1 : o1.data = .fields v1) (h2 : v1[2]? = some .none) (he : s.heap.get? e = some oe) (hd : oe.data = .fields vs) (hz : 2 < vs.size)
    (hE : E (.ref e) { s with heap := s.heap.update e (Obj.mapFields (·.setIfInBounds 2 (.ref e1))) }) : wpAny (model prog w) A (raiseNew (.ref e) : Sem α) Q E s := by
  unfold raiseNew
  refine wpAny_bind (wpAny_handled ?_)
  rw [hh]
  dsimp only
  rw [if_pos (by simpa using ne)]
  refine wpAny_bind (wpAny_holding (wpAny_runValue (codeAny_builtin entry_unchain ?_)))
  unfold Builtin.«proto.unchain»
  refine wpAny_bind (wpAny_field he1 hd1 h2 ?_)
  rw [if_pos (by decide)]
  refine wpAny_bind (wpAny_pure ?_)
  refine wpAny_pure ?_
  dsimp only
  refine wpAny_bind ?_
  show wpAny _ _ (setField (.ref e) 2 (.ref e1)) _ _ _
  exact wpAny_setField he hd hz (wpAny_throw hE)
end Mine
end
section --S11
set_option maxHeartbeats 1600000
namespace Mine
theorem enterA {prog : Program} {w : World} {K : Frag} {A : Around} {s : Shared} {Q E : Value → Shared → Prop}
    {name qual : Str} {params : Arguments} {body : List Stmt} {scope : Scope} {dV kV doc pm cdv ct oc : Value} {an od : Option Addr} {osl : Array (Option Value)} {f : Addr} {args : Args} {binds : List (Str × Value)}
    (X : K.In s.heap) (nl : s.heap.NoLimit) (hA : A.depth < 1000)
    (ho : K.lookup f = some ⟨oc, od, .func (fnOf name qual params body scope dV kV doc pm an cdv ct), osl⟩) (hcd : codeIn K cdv qual = true)
    (hbind : BindsTo s (fnOf name qual params body scope dV kV doc pm an cdv ct) args binds) (hloc : ∀ y ∈ binds, scope.names.lookup y.1 = some .local)
    (h : ∀ (L : Addr) (h₁ : Heap), Fr s.heap L h₁ (fun y => binds.reverse.lookup y) → News s.heap L h₁ [] →
      wpAny (model prog w) (A.deeper (envOf qual scope L f cdv)) (execs body (envOf qual scope L f cdv))
        (fun fl s' => Q (match fl with | .ret v => v | _ => .none) s')
        (fun e s' => wpAny (model prog w) (A.deeper (envOf qual scope L f cdv)) (leaving (envOf qual scope L f cdv) e) (fun _ s'' => E e s'') (fun e' s'' => E e' s'') s')
        { s with heap := h₁, toks := s.toks + binds.length })
    (hcell : ∀ x ∈ scope.names, x.2 ≠ .cell) (hco : scope.isCoroutine = false) (hgen : scope.isGenerator = false) (hk : scope.kind = .function) :
    wpAny (model prog w) A (call (.ref f) args.pos args.kw) Q E s := by
  refine wpAny_call ?_
  refine codeAny_call_def (fd := fnOf name qual params body scope dV kV doc pm an cdv ct) (body := body) (binds := binds) hA (X _ _ ho) rfl nl (codeRec_of X hcd) rfl hbind hcell hloc (fun h₁ hns hk₁ => ?_) hco hgen hk
  exact wpAny_mono (h s.heap.objs.size h₁ ⟨hns, fun b o e => hk₁ b o e, Nat.le_refl _⟩ (fun q hq => nomatch hq)) (fun fl s' hl => hl) fun _ _ y => y
local macro_rules | `(tactic| walk_at "setAttr ref") => `(tactic| (refine Stop.go ?_))
theorem init_spec {w : World} {A : Around} {s : Shared} {e C : Addr} {cd : ClassData} {vs : Array Value} {v : Value} {Q E : Value → Shared → Prop} (X : (hd.heap_1 w.params).In s.heap) (nl : s.heap.NoLimit) (hA : A.depth < 990)
    (hx : s.heap.get? e = some { cls := .ref C, data := .fields vs }) (hs : findIn (hd.heap_1 w.params) (.ref C) "__setattr__" = some (some (.builtin "object.__setattr__")))
    (hc : clsIn (hd.heap_1 w.params) C = some cd) (hm : cd.mro = [.ref C, .ref 38, .type "Exception", .type "BaseException", .type "object"]) (hh : cd.hasDict = true) (ha : findIn (hd.heap_1 w.params) (.ref C) "message" = some none)
    (h : ∀ h' tk, (∀ b o, b ≠ e → s.heap.get? b = some o → h'.get? b = some o) → (∃ o, h'.get? e = some o ∧ o.cls = .ref C ∧ o.data = .fields vs) → Q .none { s with heap := h', toks := tk }) :
    wpAny (model PySem.Challenge.rw_pf0197_01.row.prog w) A (call (.ref 35) [.ref e, v]) Q E s := by
  have XX := X
  revert X; k_fill; intro X
  refine' enterA (args := ⟨[.ref e, v], []⟩) (binds := [(Str.ofString "self", .ref e), (Str.ofString "message", v)]) X nl ?hA ?ho ?hcd ?hb ?hloc ?h ?hcell ?hco ?hgen ?hk
  case hA => omega
  case ho => k_is
  case hcd => k_is
  case hb => exact BindsTo.of_eq rfl
  case hcell => decide
  case hloc => exact locs rfl
  case hco => exact rfl
  case hgen => exact rfl
  case hk => exact rfl
  intro L h₁ F' N'
  have hx1 := F'.keep _ _ hx
  have X1 : (hd.heap_1 w.params).In h₁ := XX.keeps F'.keep
  have kp := F'.keep
  have hne : e ≠ L := Nat.ne_of_lt (Nat.lt_of_lt_of_le (Heap.lt_size hx) F'.above)
  (try dsimp only); (try k_fold)
  k_steps
  refine Stop.out ?_
  refine x_set X1 hx1 hs hc hm hh ha ?_
  intro h' tk k1 k2
  dsimp only
  refine wpAny_execs_nil ?_
  exact h h' tk (fun b o q e => k1 b o q (kp b o e)) k2
theorem made_spec {w : World} {A : Around} {s : Shared} {C N : Addr} {nm q : Str} {bs : List Value} {hdct : Bool} {sn : List Str} {sub : List Value} {ab : Bool} {col : Option Bool} {dd : Option Addr} {k0 k1 k2 k3 k5 : Option Value} {m : Value} {Q E : Value → Shared → Prop}
    (X : (hd.heap_1 w.params).In s.heap) (nl : s.heap.NoLimit) (hA : A.depth < 980)
    (hC : (hd.heap_1 w.params).lookup C = some (excClassObj nm q C N bs [.ref 38, .type "Exception", .type "BaseException", .type "object"] hdct sn sub ab col dd k0 k1 k2 k3 k5 "Exception.__new__"))
    (hi : findIn (hd.heap_1 w.params) (.ref C) "__init__" = some (some (.ref 35))) (hs : findIn (hd.heap_1 w.params) (.ref C) "__setattr__" = some (some (.builtin "object.__setattr__")))
    (hh : hdct = true) (ha : findIn (hd.heap_1 w.params) (.ref C) "message" = some none)
    (h : ∀ h' e tk oe t, (∀ b o, s.heap.get? b = some o → h'.get? b = some o) → s.heap.get? e = none → h'.get? e = some oe → oe.cls = .ref C → oe.data = .fields #[.ref t, .none, .none, .none, .bool false, .none] → Q (.ref e) { s with heap := h', toks := tk }) :
    wpAny (model PySem.Challenge.rw_pf0197_01.row.prog w) A (call (.ref C) [m]) Q E s := by
  have hf : ∃ oI, List.lookup 35 (hd.heap_1 w.params) = some oI ∧ oI.cls = .type "function" := by
    clear hC hi hs ha X h
    k_fill
    exact ⟨_, by k_is, rfl⟩
  obtain ⟨oI, hf, hfc⟩ := hf
  obtain ⟨hp, g, d, tk, os⟩ := s
  refine x_call (b := ⟨by decide, by decide, by decide, by decide⟩) X (X _ _ hC) hi (X _ _ hf) hfc ?_ (by rw [sizeLine_eq]; show 1 ≤ 16777216; decide)
  intro h' e hm
  obtain ⟨t, he, htn, ht⟩ := hm.there
  refine init_spec (C := C) (X.keeps hm.keeps) (nl.keeps hm.keeps) (by rw [depth_under_make]; omega) he hs (by unfold clsIn; rw [hC]) rfl hh ha ?_
  intro h2 tk2 kk ⟨oe, g1, g2, g3⟩
  exact ⟨rfl, h h2 e tk2 oe t (fun b o hb => kk b o (fun q => by rw [q, hm.new] at hb; cases hb) (hm.keeps b o hb)) hm.new g1 g2 g3⟩
section
variable {M : Model} {A : Around} {E : Value → Shared → Prop} {s : Shared} {env : Env} {nm q : Str} {C N : Addr} {bs bm : List Value} {hdct : Bool} {sn : List Str} {sub : List Value} {ab : Bool} {col : Option Bool} {dd : Option Addr} {k0 k1 k2 k3 k5 : Option Value}
end
end Mine
end
section --S12
namespace Mine
structure RdX (K : Frag) (k : Nat) (A : Around) (g : Heap) (s : Shared) : Prop where
  hh : A.handled = none
  hg : A.guards = some []
  hd : A.depth + k ≤ 900
  hu : A.units + 10 * k ≤ 9000
  ex : ∃ (base : Heap) (outer : List Env) (p : Program) (loose : List Str) (mean : ExcName → Option Value) (mg mb : Str → Option Value), Below A base outer g ∧ K.In base ∧ Top p loose mean mg mb base
  st : g.StaysIn s.heap
  sz : g.objs.size = s.heap.objs.size
theorem RdX.rd {K : Frag} {k : Nat} {A : Around} {g : Heap} {s : Shared} (R : RdX K k A g s) : Rd K k A g s := by
  obtain ⟨hh, hg, hd, hu, ⟨base, outer, p, loose, mean, mg, mb, B, X, T⟩, st, sz⟩ := R
  exact ⟨hh, hg, hd, hu, ⟨base, outer, p, loose, mean, mg, mb, B, T.keeps B.stays⟩, X.keeps B.stays, st, sz⟩
structure Flown (c : Value) (outer : List Env) (g : Heap) (own : List (Addr × Obj)) (h' : Heap) (e C : Addr) : Prop where
  ex : ∃ B, (hideAll g (outer.filterMap (·.frame))).StaysIn B ∧ (∀ q ∈ own, B.get? q.1 = some q.2 ∧ g.get? q.1 = none) ∧ Fly c B outer e (.ref C) .none h'
  up : g.UpToSlots h'
section
variable {M : Model} {E : Value → Shared → Prop} {s' : Shared} {base g h G : Heap} {outer : List Env} {L a e C : Addr} {m : Str → Option Value} {name : Str} {scope : Scope} {cd c : Value} {Q : Unit → Shared → Prop} {dp un : Nat} {own news : List (Addr × Obj)}
theorem hid_frames (F : Fr g L h m) (gG : g.StaysIn G) : (hideAll g (outer.filterMap (·.frame))).StaysIn (hideAll G ((envOf name scope L a cd :: outer).filterMap (·.frame))) := fun b o q => by
  have q' := of_hideAll _ q
  refine hideAll_get _ (gG b o q') fun hm => ?_
  rcases kts_mem hm with z | z
  · rw [z, kts_self F] at q'; cases q'
  · rw [hideAll_none _ z] at q; cases q
theorem leave_new {oe : Obj} {vs : Array Value} (B : Below (top dp outer un) base outer g) (F : Fr g L h m) (N : News g L h own) (kp : ∀ b o, h.get? b = some o → s'.heap.get? b = some o) (ne : h.get? e = none) (he : s'.heap.get? e = some oe) (hc : oe.cls = .ref C) (hd : oe.data = .fields vs)
    (h1 : vs[1]? = some .none) (h2 : vs[2]? = some c) (hQ : ∀ h', Flown c outer g own h' e C → Q () { s' with heap := h' }) (hk : scope.kind = .function := by rfl) :
    wpAny M ((top dp outer un).deeper (envOf name scope L a cd)) (leaving (envOf name scope L a cd) (.ref e)) Q E s' := by
  have B' := B.push (name := name) (a := a) (cd := cd) F hk
  have hin : ∀ env ∈ (envOf name scope L a cd :: outer), ∀ b, env.frame = some b → b ∈ (envOf name scope L a cd :: outer).filterMap (·.frame) := fun env he b hb => List.mem_filterMap.mpr ⟨env, he, hb⟩
  have en : (hideAll h ((envOf name scope L a cd :: outer).filterMap (·.frame))).get? e = none := by
    cases q : (hideAll h ((envOf name scope L a cd :: outer).filterMap (·.frame))).get? e with
    | none => rfl
    | some o => have := of_hideAll _ q; rw [ne] at this; cases this
  refine x_leave0 (base := hideAll h ((envOf name scope L a cd :: outer).filterMap (·.frame))) (outer := outer) (Around.frames_deeper B.stack) ((funFrames_hide B'.frames hin).of_keeps fun b o hb _ => ⟨o, kp b o hb, rfl⟩) rfl he (fun b o q => kp b o (of_hideAll _ q)) en hd h1 h2 fun h' f u => hQ h' ⟨⟨_, hid_frames (name := name) (scope := scope) (a := a) (cd := cd) F F.keep, fun q hq => ⟨?_, (N q hq).2.2⟩, ?_⟩, ?_⟩
  · refine hideAll_get _ (N q hq).1 fun hm => ?_
    rcases kts_mem hm with z | z
    · exact (N q hq).2.1 z
    · obtain ⟨o, ho, _⟩ := (B.frames.mem z).2
      rw [(N q hq).2.2] at ho; cases ho
  · rw [← hc]; exact f
  · exact ((Heap.UpToSlots.of_keeps F.keep).trans (Heap.UpToSlots.of_keeps kp)).trans u
theorem leave_on {own' : List (Addr × Obj)} (B : Below (top dp outer un) base outer g) (F : Fr g L h m) (gG : g.StaysIn G) (f : Flown c (envOf name scope L a cd :: outer) G own s'.heap e C) (hown : ∀ q ∈ own', (G.get? q.1 = some q.2 ∧ q.1 ≠ L ∨ q ∈ own) ∧ g.get? q.1 = none)
    (hQ : ∀ h', Flown c outer g own' h' e C → Q () { s' with heap := h' }) :
    wpAny M ((top dp outer un).deeper (envOf name scope L a cd)) (leaving (envOf name scope L a cd) (.ref e)) Q E s' := by
  obtain ⟨⟨D, hB, hl, fl⟩, up⟩ := f
  refine x_leave (Around.frames_deeper B.stack) rfl fl fun h' f' u => hQ h' ⟨⟨D, fun b o q => hB b o (hid_frames (name := name) (scope := scope) (a := a) (cd := cd) F gG b o q), fun q hq => ?_, f'⟩, ((Heap.UpToSlots.of_keeps gG).trans up).trans u⟩
  obtain ⟨y, z⟩ := hown q hq
  refine ⟨?_, z⟩
  rcases y with ⟨y1, y2⟩ | y
  · refine hB _ _ (hideAll_get _ y1 fun hm => ?_)
    rcases kts_mem hm with z' | z'
    · exact y2 z'
    · obtain ⟨o, ho, _⟩ := (B.frames.mem z').2
      rw [z] at ho; cases ho
  · exact (hl q y).1
end
section
variable {prog : Program} {w : World} {E : Value → Shared → Prop} {s' : Shared} {base g G : Heap} {outer : List Env} {L a e C N : Addr} {m : Str → Option Value} {name : Str} {scope : Scope} {cd c : Value}
  {b₀ : Stmt} {suite : List Stmt} {pos np : Pos} {rest : List ExceptHandler} {Q : Flow → Shared → Prop} {own : List (Addr × Obj)} {K : Frag} {dp un : Nat}
  {p : Program} {loose : List Str} {mean : ExcName → Option Value} {mg mb : Str → Option Value} {x : Str}
  {nm q : Str} {bs bm : List Value} {hdct : Bool} {sn : List Str} {sub : List Value} {ab : Bool} {col : Option Bool} {dd : Option Addr} {k0 k1 k2 k3 k5 : Option Value} {nid : String}
theorem caught (f : Flown c (envOf name scope L a cd :: outer) G own s'.heap e C) (F : Fr g L G m) (B : Below (top dp outer un) base outer g) (XB : K.In base) (TB : Top p loose mean mg mb base)
    (ex : nsIn K mainGlobals x = some (some (.ref C))) (hC : K.lookup C = some (excClassObj nm q C N bs bm hdct sn sub ab col dd k0 k1 k2 k3 k5 nid)) (hb : bm.contains (.type "BaseException") = true)
    (k : ∀ h' g' D, KtsTurn (outer.filterMap (·.frame)) g g' → Fr g' L h' m → Below (top dp outer un) base outer g' → (∀ q ∈ own, h'.get? q.1 = some q.2) → Fly c D (envOf name scope L a cd :: outer) e (.ref C) .none h' → (hideAll G ((envOf name scope L a cd :: outer).filterMap (·.frame))).StaysIn D →
      wpAny (model prog w) (((top dp outer un).deeper (envOf name scope L a cd)).mark (some (.ref e))) (execs (b₀ :: suite) (envOf name scope L a cd)) Q
        (notedBy (model prog w) (((top dp outer un).deeper (envOf name scope L a cd)).mark (some (.ref e))) (envOf name scope L a cd) (cameBackBy (model prog w) ((top dp outer un).deeper (envOf name scope L a cd)) (envOf name scope L a cd) E)) { s' with heap := h' })
    (hk : scope.kind = .function := by rfl) (hx : (envOf name scope L a cd).kindOf x = some .globalImplicit := by rfl) (hd : (x == ("__debug__" : Str)) = false := by decide) :
    wpAny (model prog w) ((top dp outer un).deeper (envOf name scope L a cd)) (noteFrame (.ref e) (envOf name scope L a cd))
      (fun _ s₂ => wpAny (model prog w) ((top dp outer un).deeper (envOf name scope L a cd)) (setFlight (.ref e) none) (fun _ s₃ =>
        wpAny (model prog w) ((top dp outer un).deeper (envOf name scope L a cd)) (handleBy (.ref e) (envOf name scope L a cd) (.ExceptHandler (some (.Name x np)) none (b₀ :: suite) pos :: rest)) Q E s₃) E s₂) E s' := by
  obtain ⟨⟨D, hD, hl, fl⟩, up⟩ := f
  have hBG : ∀ b o, G.get? b = some o → b ∉ (envOf name scope L a cd :: outer).filterMap (·.frame) → D.get? b = some o := fun b o q n => hD b o (hideAll_get _ q n)
  refine x_note (Around.frames_deeper B.stack) rfl fl fun h1 f1 u1 => x_mark f1 fun h2 f2 u2 => ?_
  have up2 := (up.trans u1).trans u2
  obtain ⟨g5, T5, F5, B5⟩ := kts_ground B F hBG f2.st up2
  have X5 : K.In g5 := XB.keeps B5.stays
  have P5 : TopRead p loose mg mb g5 := topRead_of (TB.keeps B5.stays)
  have tr := f2.tr
  obtain ⟨oe, vs, T, oT, ts, he, hcl, hdt, r⟩ := tr
  refine wpAny_handleBy_cons (codeAny_handlers_test (name_K F5 X5 P5 ex ?_ hk hx hd)) (by intro q; cases q)
  refine wpAny_excMatches_sub_self (F5.keep _ _ (X5 _ _ hC)) he hcl hb (codeAny_handlers_suite ?_)
  refine x_mark (Fly.mk f2.st f2.new f2.fs f2.tr) fun h3 f3 u3 => ?_
  obtain ⟨g6, T6, F6, B6⟩ := kts_ground B F hBG f3.st (up2.trans u3)
  exact k h3 g6 D T6 F6 B6 (fun q hq => f3.st _ _ (hl q hq).1) f3 hD
end
end Mine
end
section --S13
namespace Mine
theorem enterX {prog : Program} {w : World} {K : Frag} {k : Nat} {A : Around} {g : Heap} {s : Shared} {news : List (Addr × Obj)} {Q E : Value → Shared → Prop}
    {name qual : Str} {params : Arguments} {body : List Stmt} {scope : Scope} {dV kV doc pm cdv ct oc : Value} {an od : Option Addr} {osl : Array (Option Value)} {f : Addr} {args : Args} {binds : List (Str × Value)}
    (R : RdX K k A g s) (foot : ∀ p ∈ news, s.heap.get? p.1 = some p.2 ∧ g.get? p.1 = none)
    (ho : K.lookup f = some ⟨oc, od, .func (fnOf name qual params body scope dV kV doc pm an cdv ct), osl⟩) (hcd : codeIn K cdv qual = true)
    (hbind : BindsTo s (fnOf name qual params body scope dV kV doc pm an cdv ct) args binds) (hloc : ∀ y ∈ binds, scope.names.lookup y.1 = some .local)
    (h : ∀ (base : Heap) (dp un : Nat) (outer : List Env) (p : Program) (loose : List Str) (mean : ExcName → Option Value) (mg mb : Str → Option Value) (L : Addr) (h₁ : Heap),
      Fr g L h₁ (fun y => binds.reverse.lookup y) → News g L h₁ news → Below (top dp outer un) base outer g → K.In base → Top p loose mean mg mb base → K.In g → Top p loose mean mg mb g → dp + k ≤ 900 → un + 10 * k ≤ 9000 → (∀ p ∈ news, p.1 < L) → g.objs.size = L →
      A = top dp outer un →
      wpAny (model prog w) ((top dp outer un).deeper (envOf qual scope L f cdv)) (execs body (envOf qual scope L f cdv))
        (fun fl s' => Q (match fl with | .ret v => v | _ => .none) s')
        (fun e s' => wpAny (model prog w) ((top dp outer un).deeper (envOf qual scope L f cdv)) (leaving (envOf qual scope L f cdv) e) (fun _ s'' => E e s'') (fun e' s'' => E e' s'') s')
        { s with heap := h₁, toks := s.toks + binds.length })
    (hcell : ∀ x ∈ scope.names, x.2 ≠ .cell) (hco : scope.isCoroutine = false) (hgen : scope.isGenerator = false) (hk : scope.kind = .function) :
    wpAny (model prog w) A (call (.ref f) args.pos args.kw) Q E s := by
  obtain ⟨hh, hg, hd, hu, ⟨base, outer, p, loose, mean, mg, mb, B, XB, TB⟩, st, sz⟩ := R
  obtain ⟨a1, dp, a2, a3, un⟩ := A
  have hst := B.stack
  dsimp only at hh hg hd hu hst
  subst hh hg hst
  have X := XB.keeps B.stays
  have T := TB.keeps B.stays
  refine wpAny_call ?_
  refine codeAny_call_def (fd := fnOf name qual params body scope dV kV doc pm an cdv ct) (body := body) (binds := binds) (by show dp < 1000; omega) (st _ _ (X _ _ ho)) rfl (T.nolimit.keeps st) (codeRec_of (X.keeps st) hcd) rfl hbind hcell hloc (fun h₁ hns hk₁ => ?_) hco hgen hk
  refine wpAny_mono (h base dp un outer p loose mean mg mb s.heap.objs.size h₁ ⟨hns, fun b o e => hk₁ b o (st _ _ e), Nat.le_of_eq sz⟩ (fun q hq => ⟨hk₁ _ _ (foot q hq).1, Nat.ne_of_lt (Heap.lt_size (foot q hq).1), (foot q hq).2⟩) B XB TB X T hd hu (fun q hq => Heap.lt_size (foot q hq).1) sz rfl) (fun fl s' hl => ?_) fun _ _ y => y
  exact hl
section
variable {K : Frag} {base h₀ h h' G : Heap} {outer : List Env} {L : Addr} {m : Str → Option Value} {s : Shared} {p : Program} {loose : List Str} {mean : ExcName → Option Value} {mg mb : Str → Option Value} {env : Env} {k dp un : Nat} {news : List (Addr × Obj)}
theorem rdx_of (B : Below (top dp outer un) base outer h₀) (F : Fr h₀ L s.heap m) (X : K.In base) (T : Top p loose mean mg mb base) (hf : env.frame = some L) (hk : env.scope.kind = .function)
    (hd : dp + (k + 1) ≤ 900) (hu : un + 10 * (k + 1) ≤ 9000) : RdX K k ((top dp outer un).deeper env) s.heap s :=
  ⟨rfl, rfl, by show dp + 1 + k ≤ 900; omega, by show un + 3 + 10 * k ≤ 9000; omega, ⟨base, _, p, loose, mean, mg, mb, pushX B F hf hk, X, T⟩, fun _ _ e => e, rfl⟩
theorem rdx_hide {foot : List (Addr × Obj)} (B : Below (top dp outer un) base outer h₀) (F : Fr h₀ L s.heap m) (N : News h₀ L s.heap news) (hsub : ∀ p ∈ foot, p ∈ news) (X : K.In base) (T : Top p loose mean mg mb base) (hf : env.frame = some L) (hk : env.scope.kind = .function)
    (hd : dp + (k + 1) ≤ 900) (hu : un + 10 * (k + 1) ≤ 9000) : RdX K k ((top dp outer un).deeper env) (hideAll s.heap (foot.map (·.1))) s := by
  have N' : News h₀ L s.heap foot := fun p hp => N p (hsub p hp)
  obtain ⟨FG, BG, st, _⟩ := groundX (R := fun _ _ => True) (A := (top dp outer un).deeper env) B F N' rfl hf hk
  exact ⟨rfl, rfl, by show dp + 1 + k ≤ 900; omega, by show un + 3 + 10 * k ≤ 9000; omega, ⟨base, _, p, loose, mean, mg, mb, BG, X, T⟩, fun _ _ e => of_hideAll _ e, hideAll_size _ _⟩
theorem fr_hide (F : Fr h₀ L h m) (N : News h₀ L h news) : Fr h₀ L (hideAll h (news.map (·.1))) m := by
  obtain ⟨⟨oL, es, ep, hL, r⟩, keep, above⟩ := F
  have nm : ∀ b, (∀ q ∈ news, q.1 ≠ b) → b ∉ news.map (·.1) := fun b hb hm => by
    obtain ⟨q, hq, e⟩ := List.mem_map.mp hm
    exact hb q hq e
  refine ⟨⟨oL, es, ep, hideAll_get _ hL (nm _ fun q hq => (N q hq).2.1), r⟩, fun b o e => hideAll_get _ (keep b o e) (nm _ fun q hq z => ?_), above⟩
  have := (N q hq).2.2
  rw [z, e] at this; cases this
end
noncomputable def Turned (outer : List Env) (g h' : Heap) : Prop := ∃ g', KtsTurn (outer.filterMap (·.frame)) g g' ∧ g'.StaysIn h'
theorem Turned.of {outer : List Env} {g h' : Heap} (h : g.StaysIn h') : Turned outer g h' := ⟨g, KtsTurn.refl, h⟩
section
variable {base g G h' : Heap} {outer : List Env} {L a : Addr} {m : Str → Option Value} {name : Str} {scope : Scope} {cd : Value} {news : List (Addr × Obj)} {dp un : Nat} {cl : List (Str × Addr)}
theorem backT {env : Env} (B : Below (top dp outer un) base outer g) (F : Fr g L G m) (T : Turned (env :: outer) G h') (hf : env.frame = some L) (hn : ∀ q ∈ news, (G.get? q.1 = some q.2 ∨ h'.get? q.1 = some q.2) ∧ q.1 ≠ L ∧ g.get? q.1 = none) :
    ∃ g', KtsTurn (outer.filterMap (·.frame)) g g' ∧ Fr g' L h' m ∧ Below (top dp outer un) base outer g' ∧ News g' L h' news ∧ g'.objs.size = g.objs.size := by
  obtain ⟨G', T, st⟩ := T
  rw [List.filterMap_cons, hf] at T
  have keepO : ∀ b o, G.get? b = some o → b ≠ L → b ∉ outer.filterMap (·.frame) → h'.get? b = some o := fun b o e n1 n2 => st _ _ (T.other b o e fun hm => by
    rcases List.mem_cons.mp hm with z | z
    · exact n1 z
    · exact n2 z)
  obtain ⟨T2, S2⟩ := kts_turn_at (h := h') (fs := outer.filterMap (·.frame)) (g := g)
    (fun b hb => by obtain ⟨_, o, ho, _⟩ := B.frames.mem hb; exact ⟨o, ho⟩)
    (fun b o e nm => keepO b o (F.keep b o e) (fun q => by rw [q, kts_self F] at e; cases e) nm)
    (fun b o e hm => by
      obtain ⟨sl, hs⟩ := T.up (F.keep b o e)
      exact ⟨sl, st _ _ hs⟩)
  have ns : h'.Ns L m := by
    obtain ⟨oL, es, ep, hL, hLd, r⟩ := F.ns
    obtain ⟨sl, hs⟩ := T.up hL
    exact ⟨_, es, ep, st _ _ hs, hLd, r⟩
  refine ⟨_, T2, ⟨ns, S2, by rw [T2.size]; exact F.above⟩, ⟨B.stack, fun b o e => T2.other b o (B.stays b o e) (fun hm => by rw [(B.frames.mem hm).1] at e; cases e), B.frames.of_keeps fun b o e _ => ?_⟩, fun q hq => ?_, T2.size⟩
  · obtain ⟨sl, hs⟩ := T2.up e
    exact ⟨_, hs, rfl⟩
  · obtain ⟨y, n1, n2⟩ := hn q hq
    refine ⟨?_, n1, T2.none_ _ n2⟩
    rcases y with y | y
    · exact keepO _ _ y n1 fun hm => by
        obtain ⟨_, o, ho, _⟩ := B.frames.mem hm
        rw [n2] at ho; cases ho
    · exact y
end
end Mine
end
section --S14
namespace Mine
noncomputable def ClsAt (h : Heap) (C : Addr) : Prop := ∃ nm q N bs bm hdct sn sub ab col dd k0 k1 k2 k3 k5, h.get? C = some (excClassObj nm q C N bs bm hdct sn sub ab col dd k0 k1 k2 k3 k5 "Exception.__new__") ∧ Bms bm
noncomputable def Raised (M : Model) (A : Around) (Q : Flow → Shared → Prop) (E : Value → Shared → Prop) (C : Addr) (v : Value) (s : Shared) : Prop :=
  ∃ e oe vs, v = .ref e ∧ ClsAt s.heap C ∧ s.heap.get? e = some oe ∧ oe.cls = .ref C ∧ oe.data = .fields vs ∧ vs[1]? = some .none ∧ wpAny M A (raiseNew (.ref e)) Q E s
theorem raise_cls {M : Model} {A : Around} {E : Value → Shared → Prop} {s : Shared} {env : Env} {x : PySem.Expr} {pos : Pos} {Q : Flow → Shared → Prop} (C : Addr)
    (h : wpAny M A (eval x env) (fun v s₁ => Raised M A Q E C v s₁) E s) : wpAny M A (exec (.Raise (some x) none pos) env) Q E s := by
  rw [arm_exec_Raise]
  refine wpAny_bind (wpAny_standAt ?_)
  unfold raiseStmt
  refine wpAny_bind (wpAny_bind (wpAny_mono h (fun v s₁ h₁ => wpAny_bind (wpAny_standAt (wpAny_pure ?_))) fun _ _ y => y))
  obtain ⟨e, oe, vs, rfl, ⟨nm, q, N, bs, bm, hdct, sn, sub, ab, col, dd, k0, k1, k2, k3, k5, hC, b⟩, he, hcl, hd, h1, hE⟩ := h₁
  have hcB : (Value.ref C :: bm).contains (.type "BaseException") = true := by rw [List.contains_cons, b.ba, Bool.or_true]
  obtain ⟨oc, odi, odt, osl⟩ := oe
  dsimp only at hcl hd
  subst hcl hd
  obtain ⟨hp, g, d, tk, os⟩ := s₁
  repeat (first | with_reducible refine wpAny_loadPart_at he ?_ | with_reducible refine wpAny_loadPart_at hC ?_ | (with_reducible refine wpAny_isSubtype_exc hC ?_; rw [hcB]) | wp_step)
  rw [h1]
  refine wpAny_pure ?_
  rw [if_neg (by decide)]
  exact wpAny_pure hE
section
variable {w : World} {A : Around} {s : Shared} {C N : Addr} {nm q : Str} {bs : List Value} {hdct : Bool} {sn : List Str} {sub : List Value} {ab : Bool} {col : Option Bool} {dd : Option Addr} {k0 k1 k2 k3 k5 : Option Value} {m : Value} {Q : Flow → Shared → Prop} {E E' : Value → Shared → Prop}
theorem made_raise (X : (hd.heap_1 w.params).In s.heap) (nl : s.heap.NoLimit) (hA : A.depth < 980) (hh : A.handled = none)
    (hC : (hd.heap_1 w.params).lookup C = some (excClassObj nm q C N bs [.ref 38, .type "Exception", .type "BaseException", .type "object"] hdct sn sub ab col dd k0 k1 k2 k3 k5 "Exception.__new__"))
    (hi : findIn (hd.heap_1 w.params) (.ref C) "__init__" = some (some (.ref 35))) (hs : findIn (hd.heap_1 w.params) (.ref C) "__setattr__" = some (some (.builtin "object.__setattr__")))
    (hd' : hdct = true) (ha : findIn (hd.heap_1 w.params) (.ref C) "message" = some none)
    (h : ∀ h' e tk oe t, (∀ b o, s.heap.get? b = some o → h'.get? b = some o) → s.heap.get? e = none → h'.get? e = some oe → oe.cls = .ref C → oe.data = .fields #[.ref t, .none, .none, .none, .bool false, .none] → E (.ref e) { s with heap := h', toks := tk }) :
    wpAny (model PySem.Challenge.rw_pf0197_01.row.prog w) A (call (.ref C) [m]) (fun v s₁ => Raised (model PySem.Challenge.rw_pf0197_01.row.prog w) A Q E C v s₁) E' s :=
  made_spec X nl hA hC hi hs hd' ha fun h' e tk oe t k1 k2 k3 k4 k5 =>
    ⟨e, oe, _, rfl, ⟨_, _, _, _, _, _, _, _, _, _, _, _, _, _, _, _, k1 _ _ (X _ _ hC), ⟨by decide, by decide, by decide, by decide⟩⟩, k3, k4, k5, rfl, wpAny_raiseNew_none hh (h h' e tk oe t k1 k2 k3 k4 k5)⟩
theorem made_raise_in {e1 : Addr} {o1 : Obj} {v1 : Array Value} (X : (hd.heap_1 w.params).In s.heap) (nl : s.heap.NoLimit) (hA : A.depth < 980) (hh : A.handled = some (.ref e1)) (he1 : s.heap.get? e1 = some o1) (hd1 : o1.data = .fields v1) (h2 : v1[2]? = some .none)
    (hC : (hd.heap_1 w.params).lookup C = some (excClassObj nm q C N bs [.ref 38, .type "Exception", .type "BaseException", .type "object"] hdct sn sub ab col dd k0 k1 k2 k3 k5 "Exception.__new__"))
    (hi : findIn (hd.heap_1 w.params) (.ref C) "__init__" = some (some (.ref 35))) (hs : findIn (hd.heap_1 w.params) (.ref C) "__setattr__" = some (some (.builtin "object.__setattr__")))
    (hd' : hdct = true) (ha : findIn (hd.heap_1 w.params) (.ref C) "message" = some none)
    (h : ∀ h' e tk oe t, (∀ b o, s.heap.get? b = some o → h'.get? b = some o) → s.heap.get? e = none → h'.get? e = some oe → oe.cls = .ref C → oe.data = .fields #[.ref t, .none, .ref e1, .none, .bool false, .none] → E (.ref e) { s with heap := h', toks := tk }) :
    wpAny (model PySem.Challenge.rw_pf0197_01.row.prog w) A (call (.ref C) [m]) (fun v s₁ => Raised (model PySem.Challenge.rw_pf0197_01.row.prog w) A Q E C v s₁) E' s :=
  made_spec X nl hA hC hi hs hd' ha fun h' e tk oe t k1 k2 k3 k4 k5 => by
    have ne : e1 ≠ e := fun z => by rw [← z, he1] at k2; cases k2
    have hf := Obj.data_mapFields k5 (·.setIfInBounds 2 (Value.ref e1))
    refine ⟨e, oe, _, rfl, ⟨_, _, _, _, _, _, _, _, _, _, _, _, _, _, _, _, k1 _ _ (X _ _ hC), ⟨by decide, by decide, by decide, by decide⟩⟩, k3, k4, k5, rfl, x_new_in hh ne (k1 _ _ he1) hd1 h2 k3 k5 (show 2 < 6 by decide) ?_⟩
    refine h _ e tk (oe.mapFields (·.setIfInBounds 2 (Value.ref e1))) t (fun b o hb => ?_) k2 (Heap.get?_update_self _ k3 (Obj.isFreed_of_fields hf)) ((Obj.cls_mapFields _ _).trans k4) hf
    exact (Heap.get?_update_other _ _ (fun z : e = b => by rw [z, hb] at k2; cases k2)).trans (k1 b o hb)
theorem r_add_any {prog : Program} {x y : Str} {t u : Tok} {Q : Value → Shared → Prop} (hx : x.length ≤ 2000) (hy : y.length ≤ 2000) (h : ∀ z t k, Q (.str z t) { s with toks := k }) : wpAny (model prog w) A (binaryOp .Add (.str x t) (.str y u)) Q E s :=
  SB.add (fun t' k => h _ _ _) (by rw [sizeLine_eq]; omega)
end
end Mine
end
section --C8
set_option maxHeartbeats 1600000
namespace Mine
theorem lnC8a : True := by
  k_with_none
  k_with "a1" => (first | with_reducible assumption | ((with_reducible apply Mine.ltm); (with_reducible assumption); k_mem))
  k_with "a2" => (first | with_reducible exact Mine.lss | with_reducible exact Mine.ltp (by assumption) | with_reducible exact Mine.ltp (Mine.ltp (by assumption)) | with_reducible exact Mine.ltp (Mine.ltp (Mine.ltp (by assumption))) | ((with_reducible refine Mine.lts ?_); first | with_reducible exact Mine.lss | k_memK) | ((with_reducible refine Mine.lts (Mine.lts ?_)); first | with_reducible exact Mine.lss | k_memK) | ((with_reducible refine Mine.lts (Mine.lts (Mine.lts ?_))); k_memK))
  k_with "a3" => (first | k_cls | ((with_reducible apply Mine.ltr); (with_reducible assumption); first | k_memK | k_cls) | ((with_reducible apply Mine.ltr); (with_reducible exact Mine.ltp (by assumption)); first | k_memK | k_cls))
  k_with "a4" => (first | with_reducible exact Mine.neAll (by assumption) | with_reducible exact Mine.neNil | ((with_reducible refine Mine.neCons ?_ ?_); k_ne; k_all))
  k_with "a5" => (first | with_reducible exact Mine.subNil | with_reducible exact Mine.subSame | ((with_reducible refine Mine.subCons ?_ ?_); k_mem; k_subL) | ((with_reducible refine Mine.subApp ?_ ?_); k_subL; k_subL) | ((with_reducible refine Mine.subTail ?_); k_subL))
  k_with "a6" => (first | with_reducible assumption | ((with_reducible show @Ne Nat _ _); first | ((with_reducible refine Mine.nlt ?_); k_memK) | ((with_reducible refine Mine.ngt ?_); k_memK) | (with_reducible exact Ne.symm (by assumption)) | ((with_reducible refine Mine.nlt ?_); k_types) | ((with_reducible refine Mine.ngt ?_); k_types)) | ((with_reducible apply Mine.dq0); (with_reducible assumption); decide) | ((with_reducible apply Mine.dq1); (with_reducible assumption); decide) | ((with_reducible apply Mine.dq2); (with_reducible assumption); decide) | ((with_reducible apply Mine.dq3); (with_reducible assumption); decide) | ((with_reducible apply Mine.dq4); (with_reducible assumption); decide) | ((with_reducible first | apply Mine.il1 | apply Mine.il3); (with_reducible assumption); decide) | ((with_reducible first | apply Mine.il2 | apply Mine.il4); (with_reducible assumption); decide) | ((with_reducible first | apply Mine.iu1 | apply Mine.iu3); (with_reducible assumption); decide) | ((with_reducible first | apply Mine.iu2 | apply Mine.iu4); (with_reducible assumption); decide) | ((with_reducible first | apply Mine.nl3 | apply Mine.nl2); (with_reducible assumption); decide) | ((with_reducible first | apply Mine.nu1 | apply Mine.nu3); (with_reducible assumption); decide) | ((with_reducible first | apply Mine.nu2 | apply Mine.nu4); (with_reducible assumption); decide) | ((with_reducible show @LT.lt Nat _ _ _); first | k_memK | k_types) | decide)
  k_with "a7" => (repeat (rename ∀ _ ∈ (_ : List (Addr × Obj)), @LT.lt Nat _ _ _ => hrw; replace hrw := allLt_of hrw; dsimp only [AllLt] at hrw))
  k_with "a8" => (first | (k_whole; kc_bool) | omega +splitDisjunctions | (k_whole; k_units; omega +splitDisjunctions))
  k_with "a9" => (first | (k_whole; kc_bool) | lia | omega +splitDisjunctions)
  k_with "eval Call" => ((fail_if_success (fail_if_success k_fold)); refine foldL ?_; intro qk ek; walk1)
  k_with "eval BinOp" => ((fail_if_success (fail_if_success k_fold)); refine foldL ?_; intro qk ek; walk1)
  k_with "eval Tuple" => ((fail_if_success (fail_if_success k_fold)); refine foldL ?_; intro qk ek; walk1)
  k_with "isTrue Compare" => ((fail_if_success (fail_if_success k_fold)); refine foldL ?_; intro qk ek; walk1)
  k_with "eval Subscript" => ((fail_if_success (fail_if_success k_fold)); refine foldL ?_; intro qk ek; walk1)
  k_with "exec Assign" => ((fail_if_success (fail_if_success k_fold)); refine foldL ?_; intro qk ek; walk1)
  k_with "eval List" => ((fail_if_success (fail_if_success k_fold)); refine foldL ?_; intro qk ek; walk1)
  k_with "eval Attribute" => ((fail_if_success (fail_if_success k_fold)); refine foldL ?_; intro qk ek; walk1)
  k_with "eval UnaryOp" => ((fail_if_success (fail_if_success k_fold)); refine foldL ?_; intro qk ek; walk1)
  k_with "callWith ref" => ((fail_if_success (fail_if_success k_fold)); refine foldL ?_; intro qk ek; walk1)
  k_with "callWith" => ((fail_if_success (fail_if_success k_fold)); refine foldL ?_; intro qk ek; walk1)
  k_with "subscriptTail Name Constant ref int" => (k_here; first | refine tup_item0 (by assumption) (by assumption) ?_ | refine tup_item1 (by assumption) (by assumption) ?_)
  k_with "exec While" => (k_here; refine Stop.go ?_)
  k_with "binaryOp FloorDiv int int" => (k_here; refine floordiv_int (by first | decide | omega) ?_ (Or.inl (noPyl (by first | decide | omega) (by first | decide | omega))))
  k_with "newTuple" => (k_here; k_dflt (refine' newTuple_mine ?k1 ?k2 ?_ ?k3; (case k1 => k_asm); (case k2 => k_asm); (case k3 => first | decide | (exact Nat.le_of_ble_eq_true rfl) | (simp only [sizeLine_eq]; simp))); intro D' h' F' N' l1 l2; (try k_lt l1); (try k_lt2 l2); (try k_sweep))
  k_with "binaryOp Mult int int" => (k_here; refine mul_int ?_ (by first | exact mulOk60 (by omega) (by omega) (by omega) (by omega) | mul_fits))
  k_with "call builtin:len" => (k_here; refine r_len (by first | omega | (simp only [List.length_append, List.length_cons, List.length_nil]; omega)) ?_; intro t9 k9)
  k_with "subscriptTail Attribute Attribute str int" => (k_here; (with_reducible show wpAny _ _ (subscriptTail _ _ (Value.str (S _) _) (Value.int _ _)) _ _ _); k_dflt (refine r_item (by omega) (by omega) (by omega) ?_); intro t9 k9)
  k_with "compareOp In str str" => (k_here; refine r_in ?_)
  k_with "subscriptTail Attribute Slice str ref" => (k_here; (with_reducible show wpAny _ _ (subscriptTail _ (Expr.Slice (some _) (some _) none _) (Value.str (S _) _) (Value.ref _)) _ _ _); (with_reducible rename Fr _ _ _ _ => Fz); (with_reducible rename News _ _ _ _ => Nz); k_dflt (refine r_slice (s := ⟨_, _, _, _, _⟩) Fz Nz (by omega) (by omega) (by omega) (by omega) ?_); intro h9 t9 k9 F9 N9; (try k_sweep))
  k_with "compareOp Eq str str" => (k_here; first | refine r_eq_f (by assumption) ?_ | refine r_eq_t (by assumption) ?_ | refine r_eq ?_)
  k_with "compareOp NotEq str str" => (k_here; first | refine r_ne_t (by assumption) ?_ | refine r_ne_f (by assumption) ?_ | refine r_ne ?_)
  k_with "call ref" => (k_here; (with_reducible show wpAny _ _ (call (Value.ref 144) _ _) _ _ _); first | ((with_reducible rename Fr _ _ _ _ => Fz); (with_reducible rename News _ _ _ _ => Nz); (k_dflt (refine' is_one_of_spec (rd_hide ?B Fz Nz (sub1 ?M) ?X ?T rfl rfl ?d ?u) ?hx (foot1 Nz ?M2) ?p0 ?p1 ?p2 ?_; (case B => assumption); (case X => assumption); (case T => assumption); (case d => (first | ((with_reducible apply dle); (with_reducible assumption); exact rfl) | omega)); (case u => (first | ((with_reducible apply ule); (with_reducible assumption); exact rfl) | omega)); (case hx => first | exact hid1 (Nz.get (by k_mem)) (by first | assumption | k_ne) | exact hid1 (Fz.keep _ _ (by assumption)) (by first | assumption | k_ne)); (case M => k_mem); (case M2 => k_mem); (case p0 => omega); (case p1 => omega); (case p2 => omega); k_whole)); intro h9 tk9 st9 hn9; k_dflt ((refine backU_k Fz Nz hn9 (by k_upd) st9 ?_; intro F9 N9)); clear Fz Nz st9 hn9; (try dsimp only); (try k_fold)) | refine Stop.go ?_)
  k_with "call ref" => (k_here; (with_reducible show wpAny _ _ (call (Value.ref 151) _ _) _ _ _); first | ((with_reducible rename Fr _ _ _ _ => Fz); (with_reducible rename News _ _ _ _ => Nz); (k_dflt (refine' skip_spec (rd_hide ?B Fz Nz (sub1 ?M) ?X ?T rfl rfl ?d ?u) ?hx (foot1 Nz ?M2) ?p0 ?p1 ?p2 ?_; (case B => assumption); (case X => assumption); (case T => assumption); (case d => (first | ((with_reducible apply dle); (with_reducible assumption); exact rfl) | omega)); (case u => (first | ((with_reducible apply ule); (with_reducible assumption); exact rfl) | omega)); (case hx => first | exact hid1 (Nz.get (by k_mem)) (by first | assumption | k_ne) | exact hid1 (Fz.keep _ _ (by assumption)) (by first | assumption | k_ne)); (case M => k_mem); (case M2 => k_mem); (case p0 => omega); (case p1 => omega); (case p2 => omega); k_whole)); intro u9 t9 h9 tk9 st9 hn9; k_dflt ((refine backU_k Fz Nz hn9 (by k_upd) st9 ?_; intro F9 N9)); clear Fz Nz st9 hn9; (try dsimp only); (try k_fold)) | refine Stop.go ?_)
  k_with "call ref" => (k_here; (with_reducible show wpAny _ _ (call (Value.ref 158) _ _) _ _ _); first | ((with_reducible rename Fr _ _ _ _ => Fz); (with_reducible rename News _ _ _ _ => Nz); (k_dflt (refine' digits_spec (rd_hide ?B Fz Nz (sub1 ?M) ?X ?T rfl rfl ?d ?u) ?hx (foot1 Nz ?M2) ?p0 ?p1 ?p2 ?_; (case B => assumption); (case X => assumption); (case T => assumption); (case d => (first | ((with_reducible apply dle); (with_reducible assumption); exact rfl) | omega)); (case u => (first | ((with_reducible apply ule); (with_reducible assumption); exact rfl) | omega)); (case hx => first | exact hid1 (Nz.get (by k_mem)) (by first | assumption | k_ne) | exact hid1 (Fz.keep _ _ (by assumption)) (by first | assumption | k_ne)); (case M => k_mem); (case M2 => k_mem); (case p0 => omega); (case p1 => omega); (case p2 => omega); k_whole)); intro u9 t9 h9 tk9 st9 hn9; k_dflt ((refine backU_k Fz Nz hn9 (by k_upd) st9 ?_; intro F9 N9)); clear Fz Nz st9 hn9; (try dsimp only); (try k_fold)) | refine Stop.go ?_)
  k_with "call ref" => (k_here; (with_reducible show wpAny _ _ (call (Value.ref 172) _ _) _ _ _); first | ((with_reducible rename Fr _ _ _ _ => Fz); (with_reducible rename News _ _ _ _ => Nz); (k_dflt (refine' whole_of_spec (rd_of ?B Fz ?X ?T rfl rfl ?d ?u) ?p0 ?p1 ?_; (case B => assumption); (case X => assumption); (case T => assumption); (case d => (first | ((with_reducible apply dle); (with_reducible assumption); exact rfl) | omega)); (case u => (first | ((with_reducible apply ule); (with_reducible assumption); exact rfl) | omega)); (case p0 => (first | assumption | exact digL_all | omega)); (case p1 => (first | assumption | exact digL_all | omega)); k_whole)); intro t9 h9 tk9 st9; k_dflt ((refine back_k Fz Nz st9 ?_; intro F9 N9)); clear Fz Nz st9; (try dsimp only); (try k_fold)) | refine Stop.go ?_)
  k_with "exec Raise some none" => (k_here; refine raise_cls 51 ?_)
  k_with "call ref" => ((with_reducible show wpAny _ _ (call (Value.ref 51) _ _) _ _ _); refine Stop.go ?_)
  k_with "binaryOp Add str str" => (k_here; (refine r_add_any (by first | omega | decide +kernel) (by first | omega | decide +kernel) ?_); intro z9 t9 k9)
  trivial
theorem expL_zero {l : List Nat} {i : Int} (h : S (skipL l i (Str.ofString "eE")) = Str.ofString "") : expL l i = some (0, skipAt l i (Str.ofString "eE")) := if_pos (S_inj (h.trans lit_empty))
theorem expL_bad {l : List Nat} {i : Int} (h : ¬S (skipL l i (Str.ofString "eE")) = Str.ofString "")
    (hb : (digL l (skipAt l (skipAt l i (Str.ofString "eE")) (Str.ofString "+-"))) = [] ∨ 9 < (digL l (skipAt l (skipAt l i (Str.ofString "eE")) (Str.ofString "+-"))).length ∨ 300 < wholeL (digL l (skipAt l (skipAt l i (Str.ofString "eE")) (Str.ofString "+-")))) : expL l i = none :=
  (if_neg fun q => h ((congrArg S q).trans lit_empty.symm)).trans (if_pos hb)
theorem expL_good {l : List Nat} {i : Int} (h : ¬S (skipL l i (Str.ofString "eE")) = Str.ofString "")
    (hb : ¬((digL l (skipAt l (skipAt l i (Str.ofString "eE")) (Str.ofString "+-"))) = [] ∨ 9 < (digL l (skipAt l (skipAt l i (Str.ofString "eE")) (Str.ofString "+-"))).length ∨ 300 < wholeL (digL l (skipAt l (skipAt l i (Str.ofString "eE")) (Str.ofString "+-"))))) :
    expL l i = some (if S (skipL l (skipAt l i (Str.ofString "eE")) (Str.ofString "+-")) = Str.ofString "-" then -wholeL (digL l (skipAt l (skipAt l i (Str.ofString "eE")) (Str.ofString "+-"))) else wholeL (digL l (skipAt l (skipAt l i (Str.ofString "eE")) (Str.ofString "+-"))),
      skipAt l (skipAt l i (Str.ofString "eE")) (Str.ofString "+-") + (digL l (skipAt l (skipAt l i (Str.ofString "eE")) (Str.ofString "+-"))).length) :=
  (if_neg fun q => h ((congrArg S q).trans lit_empty.symm)).trans (if_neg hb)
theorem read_exponent_any {w : World} {A : Around} {s : Shared} {x dx : Addr} {l : List Nat} {i h1 h2 : Int} {k1 k2 t1 t2 : Tok} {g : Heap} {Q E : Value → Shared → Prop}
    (R : Rd (hd.heap_1 w.params) 4 A g s) (hx : g.get? x = some (instObj 161 dx)) (hfoot : ∀ p ∈ [(dx, rdr l i h1 h2 k1 k2 t1 t2)], s.heap.get? p.1 = some p.2 ∧ g.get? p.1 = none) (hi0 : 0 ≤ i) (hi1 : i ≤ l.length) (hlen : l.length ≤ 1000)
    (hret : ∀ e j, expL l i = some (e, j) → ∀ t2' t h' tk', g.StaysIn h' → h'.get? dx = some (rdr l j h1 h2 k1 k2 t1 t2') → Q (.int e t) { s with heap := h', toks := tk' })
    (hraise : expL l i = none → ∀ outer e h' tk', A.frames = some outer → Flown .none outer g [] h' e 51 → E (.ref e) { s with heap := h', toks := tk' }) :
    wpAny (model PySem.Challenge.rw_pf0197_01.row.prog w) A (call (.ref 179) [.ref x] []) Q E s := by
  revert R; k_fill; intro R
  refine' enter (news := [(dx, rdr l i h1 h2 k1 k2 t1 t2)]) (args := ⟨[.ref x], []⟩) (binds := [(Str.ofString "reader", .ref x)]) R ?foot ?ho ?hcd ?hbind ?hloc ?h ?hcell ?hco ?hgen ?hk
  case foot => exact hfoot
  case ho => k_is
  case hcd => k_is
  case hbind => exact BindsTo.of_eq rfl
  case hloc => exact locs rfl
  case hcell => decide
  case hco => exact rfl
  case hgen => exact rfl
  case hk => exact rfl
  clear R
  intro base dp un outer p loose mean mg mb L h₁ F' N' B' X' T' hDp hUn hl hs hA
  (try dsimp only); (try k_fold)
  have hdxx : @Ne Nat x dx := fun e => by
    have := (hfoot _ (List.mem_cons_self ..)).2
    rw [← e, hx] at this; cases this
  clear hfoot
  have hb1 := skipAt_bd (y := Str.ofString "eE") hi0 hi1
  have hb2 := skipAt_bd (y := Str.ofString "+-") hb1.1 hb1.2
  have hb3 := digL_bd hb2.1 hb2.2
  k_steps
  · (with_reducible rename Fr _ _ _ _ => Fz)
    (with_reducible rename News _ _ _ _ => Nz)
    exact hret _ _ (expL_zero (by with_reducible assumption)) _ _ _ _ Fz.keep (Nz.get (List.mem_cons_self ..))
  · (with_reducible rename S (digL _ _) = _ => hd1)
    have hn := expL_bad (by with_reducible assumption) (.inl (S_inj (hd1.trans lit_empty)))
    (with_reducible rename Fr _ _ _ _ => Fz)
    refine Stop.out (made_raise (X'.keeps Fz.keep) (T'.nolimit.keeps Fz.keep) (by show dp + 1 < 980; omega) rfl (by k_is) (by k_is) (by k_is) rfl (by k_is) ?_)
    intro h8 e8 tk8 oe8 t8 y1 y2 y3 y4 y5
    exact leave_new (own := []) B' Fz (fun q hq => nomatch hq) y1 y2 y3 y4 y5 rfl rfl fun h9 f9 => hraise hn outer e8 h9 tk8 (by rw [hA]) f9
  · have hn := expL_bad (l := l) (i := i) (by with_reducible assumption) (.inr (.inl (by omega)))
    (with_reducible rename Fr _ _ _ _ => Fz)
    refine Stop.out (made_raise (X'.keeps Fz.keep) (T'.nolimit.keeps Fz.keep) (by show dp + 1 < 980; omega) rfl (by k_is) (by k_is) (by k_is) rfl (by k_is) ?_)
    intro h8 e8 tk8 oe8 t8 y1 y2 y3 y4 y5
    exact leave_new (own := []) B' Fz (fun q hq => nomatch hq) y1 y2 y3 y4 y5 rfl rfl fun h9 f9 => hraise hn outer e8 h9 tk8 (by rw [hA]) f9
  · have hn := expL_bad (l := l) (i := i) (by with_reducible assumption) (.inr (.inr (by with_reducible assumption)))
    (with_reducible rename Fr _ _ _ _ => Fz)
    refine Stop.out (made_raise (X'.keeps Fz.keep) (T'.nolimit.keeps Fz.keep) (by show dp + 1 < 980; omega) rfl (by k_is) (by k_is) (by k_is) rfl (by k_is) ?_)
    intro h8 e8 tk8 oe8 t8 y1 y2 y3 y4 y5
    exact leave_new (own := []) B' Fz (fun q hq => nomatch hq) y1 y2 y3 y4 y5 rfl rfl fun h9 f9 => hraise hn outer e8 h9 tk8 (by rw [hA]) f9
  · (with_reducible rename ¬S (digL _ _) = _ => hd1)
    (with_reducible rename S (skipL _ _ _) = _ => hd2)
    have hn := expL_good (l := l) (i := i) (by with_reducible assumption) (fun q => q.elim (fun q => hd1 ((congrArg S q).trans lit_empty.symm)) fun q => q.elim (by omega) (by with_reducible assumption))
    rw [if_pos hd2] at hn
    (with_reducible rename Fr _ _ _ _ => Fz)
    (with_reducible rename News _ _ _ _ => Nz)
    exact hret _ _ hn _ _ _ _ Fz.keep (Nz.get (by k_mem))
  · (with_reducible rename ¬S (digL _ _) = _ => hd1)
    (with_reducible rename ¬S (skipL _ (skipAt _ _ _) _) = _ => hd2)
    have hn := expL_good (l := l) (i := i) (by with_reducible assumption) (fun q => q.elim (fun q => hd1 ((congrArg S q).trans lit_empty.symm)) fun q => q.elim (by omega) (by with_reducible assumption))
    rw [if_neg hd2] at hn
    (with_reducible rename Fr _ _ _ _ => Fz)
    (with_reducible rename News _ _ _ _ => Nz)
    exact hret _ _ hn _ _ _ _ Fz.keep (Nz.get (by k_mem))
end Mine
end
section --C29
end
section --S2
namespace Mine
section
variable {M : Model} {A : Around} {env : Env} {E : Value → Shared → Prop} {I : Shared → Prop}
theorem cutW {Γ : Ctx} {Q : Flow → Shared → Prop} (hΓ : Γ.In A) (n : Nat) (l : List Stmt) (p : Pos) (s : Shared) (h2 : ∀ s', I s' → wpAny M A (execs (l.drop n) env) Q E s')
    (h : Sem.wp M Γ (execs (l.take n) env) (fun f _ s' => f = .next ∧ I s') (fun e _ s => E e s) p s) : Sem.wp M Γ (execs l env) (fun f _ s' => Q f s') (fun e _ s => E e s) p s := by
  induction n generalizing l p s with
  | zero => exact h2 s (show Flow.next = Flow.next ∧ I s from h).2 Γ p hΓ
  | succ n ih =>
    cases l with
    | nil => exact h2 s (show Flow.next = Flow.next ∧ I s from h).2 Γ p hΓ
    | cons st l =>
      rw [List.take_succ_cons, execs_cons, Sem.wp_bind'] at h
      rw [execs_cons, Sem.wp_bind']
      refine Sem.wp_mono M Γ _ (fun f p' s' h' => ?_) (fun _ _ _ h' => h') _ _ h
      cases f with
      | next => exact ih l p' s' h2 h'
      | _ => exact absurd (show _ = Flow.next ∧ I s' from h').1 (fun e => by cases e)
theorem cutN (n : Nat) (I : Shared → Prop) {l : List Stmt} {s : Shared} {Q : Flow → Shared → Prop}
    (h1 : wpAny M A (execs (l.take n) env) (fun f s' => Stop (f = .next ∧ I s')) E s) (h2 : ∀ s', I s' → wpAny M A (execs (l.drop n) env) Q E s') : wpAny M A (execs l env) Q E s :=
  fun Γ p hΓ => cutW hΓ n l p s h2 (h1 Γ p hΓ)
end
noncomputable def Same (s s' : Shared) : Prop := s'.gens = s.gens ∧ s'.drawn = s.drawn ∧ s'.os = s.os
theorem Same.mk {s : Shared} {h : Heap} {t : Nat} : Same s { s with heap := h, toks := t } := ⟨rfl, rfl, rfl⟩
theorem Same.on {s s₁ : Shared} (x : Same s s₁) {h : Heap} {t : Nat} : Same s { s₁ with heap := h, toks := t } := x
theorem Same.eq {s s₁ : Shared} (x : Same s s₁) {h : Heap} {t : Nat} : ({ s₁ with heap := h, toks := t } : Shared) = { s with heap := h, toks := t } := by
  obtain ⟨a, b, c⟩ := x
  cases s; cases s₁; simp only at a b c; subst a b c; rfl
theorem Same.q {α : Type} {s s₁ : Shared} {h' : Heap} {t : Nat} {v : α} {Q : α → Shared → Prop} (x : Same s s₁) (h : Q v { s with heap := h', toks := t }) : Q v { s₁ with heap := h', toks := t } := by rw [x.eq]; exact h
section
variable {g h : Heap} {L : Addr} {a b c d : Addr × Obj} {l : List (Addr × Obj)}
theorem pick1 (N : News g L h l) (ha : a ∈ l) : News g L h [a] := fun q hq => N q (by
  simp only [List.mem_cons, List.not_mem_nil, or_false] at hq; subst hq; assumption)
theorem pick2 (N : News g L h l) (ha : a ∈ l) (hb : b ∈ l) : News g L h [a, b] := fun q hq => N q (by
  simp only [List.mem_cons, List.not_mem_nil, or_false] at hq; rcases hq with rfl | rfl <;> assumption)
theorem pick3 (N : News g L h l) (ha : a ∈ l) (hb : b ∈ l) (hc : c ∈ l) : News g L h [a, b, c] := fun q hq => N q (by
  simp only [List.mem_cons, List.not_mem_nil, or_false] at hq; rcases hq with rfl | rfl | rfl <;> assumption)
end
theorem ntail {g h : Heap} {L : Addr} {p : Addr × Obj} {l : List (Addr × Obj)} (N : News g L h (p :: l)) : News g L h l := fun q hq => N q (List.mem_cons_of_mem _ hq)
section
variable {M : Model} {A : Around} {E : Value → Shared → Prop} {env : Env}
theorem cutK (n : Nat) (C : (Shared → Prop) → Prop) {l : List Stmt} {s : Shared} {Q : Flow → Shared → Prop}
    (h1 : ∀ I : Shared → Prop, C I → wpAny M A (execs (l.take n) env) (fun f s' => Stop (f = .next ∧ I s')) E s) (h2 : C fun s' => wpAny M A (execs (l.drop n) env) Q E s') : wpAny M A (execs l env) Q E s :=
  cutN n _ (h1 _ h2) fun _ h => h
end
end Mine
end
section --C9
set_option maxHeartbeats 1600000
namespace Mine
theorem lnC9a : True := by
  k_with_none
  k_with "a1" => (first | with_reducible assumption | ((with_reducible apply Mine.ltm); (with_reducible assumption); k_mem))
  k_with "a2" => (first | with_reducible exact Mine.lss | with_reducible exact Mine.ltp (by assumption) | with_reducible exact Mine.ltp (Mine.ltp (by assumption)) | with_reducible exact Mine.ltp (Mine.ltp (Mine.ltp (by assumption))) | ((with_reducible refine Mine.lts ?_); first | with_reducible exact Mine.lss | k_memK) | ((with_reducible refine Mine.lts (Mine.lts ?_)); first | with_reducible exact Mine.lss | k_memK) | ((with_reducible refine Mine.lts (Mine.lts (Mine.lts ?_))); k_memK))
  k_with "a3" => (first | k_cls | ((with_reducible apply Mine.ltr); (with_reducible assumption); first | k_memK | k_cls) | ((with_reducible apply Mine.ltr); (with_reducible exact Mine.ltp (by assumption)); first | k_memK | k_cls))
  k_with "a4" => (first | with_reducible exact Mine.neAll (by assumption) | with_reducible exact Mine.neNil | ((with_reducible refine Mine.neCons ?_ ?_); k_ne; k_all))
  k_with "a5" => (first | with_reducible exact Mine.subNil | with_reducible exact Mine.subSame | ((with_reducible refine Mine.subCons ?_ ?_); k_mem; k_subL) | ((with_reducible refine Mine.subApp ?_ ?_); k_subL; k_subL) | ((with_reducible refine Mine.subTail ?_); k_subL))
  k_with "a6" => (first | with_reducible assumption | ((with_reducible show @Ne Nat _ _); first | ((with_reducible refine Mine.nlt ?_); k_memK) | ((with_reducible refine Mine.ngt ?_); k_memK) | (with_reducible exact Ne.symm (by assumption)) | ((with_reducible refine Mine.nlt ?_); k_types) | ((with_reducible refine Mine.ngt ?_); k_types)) | ((with_reducible apply Mine.dq0); (with_reducible assumption); decide) | ((with_reducible apply Mine.dq1); (with_reducible assumption); decide) | ((with_reducible apply Mine.dq2); (with_reducible assumption); decide) | ((with_reducible apply Mine.dq3); (with_reducible assumption); decide) | ((with_reducible apply Mine.dq4); (with_reducible assumption); decide) | ((with_reducible first | apply Mine.il1 | apply Mine.il3); (with_reducible assumption); decide) | ((with_reducible first | apply Mine.il2 | apply Mine.il4); (with_reducible assumption); decide) | ((with_reducible first | apply Mine.iu1 | apply Mine.iu3); (with_reducible assumption); decide) | ((with_reducible first | apply Mine.iu2 | apply Mine.iu4); (with_reducible assumption); decide) | ((with_reducible first | apply Mine.nl3 | apply Mine.nl2); (with_reducible assumption); decide) | ((with_reducible first | apply Mine.nu1 | apply Mine.nu3); (with_reducible assumption); decide) | ((with_reducible first | apply Mine.nu2 | apply Mine.nu4); (with_reducible assumption); decide) | ((with_reducible show @LT.lt Nat _ _ _); first | k_memK | k_types) | decide)
  k_with "a7" => (repeat (rename ∀ _ ∈ (_ : List (Addr × Obj)), @LT.lt Nat _ _ _ => hrw; replace hrw := allLt_of hrw; dsimp only [AllLt] at hrw))
  k_with "a8" => (first | (k_whole; kc_bool) | omega +splitDisjunctions | (k_whole; k_units; omega +splitDisjunctions))
  k_with "a9" => (first | (k_whole; kc_bool) | lia | omega +splitDisjunctions)
  k_with "b1" => ((show _ < 1000); (try simp only [depth_under_make, depth_under_kw, depth_in1, depth_deeper]); (try dsimp only); omega)
  k_with "eval Call" => ((fail_if_success (fail_if_success k_fold)); refine foldL ?_; intro qk ek; walk1)
  k_with "eval BinOp" => ((fail_if_success (fail_if_success k_fold)); refine foldL ?_; intro qk ek; walk1)
  k_with "eval Tuple" => ((fail_if_success (fail_if_success k_fold)); refine foldL ?_; intro qk ek; walk1)
  k_with "isTrue Compare" => ((fail_if_success (fail_if_success k_fold)); refine foldL ?_; intro qk ek; walk1)
  k_with "eval Subscript" => ((fail_if_success (fail_if_success k_fold)); refine foldL ?_; intro qk ek; walk1)
  k_with "exec Assign" => ((fail_if_success (fail_if_success k_fold)); refine foldL ?_; intro qk ek; walk1)
  k_with "eval List" => ((fail_if_success (fail_if_success k_fold)); refine foldL ?_; intro qk ek; walk1)
  k_with "eval Attribute" => ((fail_if_success (fail_if_success k_fold)); refine foldL ?_; intro qk ek; walk1)
  k_with "eval UnaryOp" => ((fail_if_success (fail_if_success k_fold)); refine foldL ?_; intro qk ek; walk1)
  k_with "callWith ref" => ((fail_if_success (fail_if_success k_fold)); refine foldL ?_; intro qk ek; walk1)
  k_with "callWith" => ((fail_if_success (fail_if_success k_fold)); refine foldL ?_; intro qk ek; walk1)
  k_with "subscriptTail Name Constant ref int" => (k_here; first | refine tup_item0 (by assumption) (by assumption) ?_ | refine tup_item1 (by assumption) (by assumption) ?_)
  k_with "exec While" => (k_here; refine Stop.go ?_)
  k_with "binaryOp FloorDiv int int" => (k_here; refine floordiv_int (by first | decide | omega) ?_ (Or.inl (noPyl (by first | decide | omega) (by first | decide | omega))))
  k_with "newTuple" => (k_here; k_dflt (refine' newTuple_mine ?k1 ?k2 ?_ ?k3; (case k1 => k_asm); (case k2 => k_asm); (case k3 => first | decide | (exact Nat.le_of_ble_eq_true rfl) | (simp only [sizeLine_eq]; simp))); intro D' h' F' N' l1 l2; (try k_lt l1); (try k_lt2 l2); (try k_sweep))
  k_with "binaryOp Mult int int" => (k_here; refine mul_int ?_ (by first | exact mulOk60 (by omega) (by omega) (by omega) (by omega) | mul_fits))
  k_with "call builtin:len" => (k_here; refine r_len (by first | omega | (simp only [List.length_append, List.length_cons, List.length_nil]; omega)) ?_; intro t9 k9)
  k_with "subscriptTail" => (k_here; (with_reducible show wpAny _ _ (subscriptTail _ _ (Value.str (S _) _) (Value.int _ _)) _ _ _); k_dflt (refine r_item (by omega) (by omega) (by omega) ?_); intro t9 k9)
  k_with "compareOp In str str" => (k_here; refine r_in ?_)
  k_with "subscriptTail" => (k_here; (with_reducible show wpAny _ _ (subscriptTail _ (Expr.Slice (some _) (some _) none _) (Value.str (S _) _) (Value.ref _)) _ _ _); (with_reducible rename Fr _ _ _ _ => Fz); (with_reducible rename News _ _ _ _ => Nz); k_dflt (refine r_slice (s := ⟨_, _, _, _, _⟩) Fz Nz (by omega) (by omega) (by omega) (by omega) ?_); intro h9 t9 k9 F9 N9; (try k_sweep))
  k_with "compareOp Eq str str" => (k_here; first | refine r_eq_f (by assumption) ?_ | refine r_eq_t (by assumption) ?_ | refine r_eq ?_)
  k_with "compareOp NotEq str str" => (k_here; first | refine r_ne_t (by assumption) ?_ | refine r_ne_f (by assumption) ?_ | refine r_ne ?_)
  k_with "eval Constant str" => (k_here; (with_reducible show wpAny _ _ (eval (PySem.Expr.Constant (PySem.Const.str (Str.ofString "")) _ _) _) _ _ _); refine const_empty ?_; intro t9 k9)
  k_with "binaryOp Add str str" => (k_here; (with_reducible show wpAny _ _ (binaryOp _ (Value.str (S _) _) (Value.str (S _) _)) _ _ _); refine r_add (by first | omega | (simp only [List.length_append, List.length_cons, List.length_nil]; omega)) ?_; intro t9 k9)
  k_with "call ref" => (k_here; (with_reducible show wpAny _ _ (call (Value.ref 144) _ _) _ _ _); first | ((with_reducible rename Fr _ _ _ _ => Fz); (with_reducible rename News _ _ _ _ => Nz); (k_dflt (refine' is_one_of_spec (rd_hide ?B Fz Nz (sub1 ?M) ?X ?T rfl rfl ?d ?u) ?hx (foot1 Nz ?M2) ?p0 ?p1 ?p2 ?_; (case B => assumption); (case X => assumption); (case T => assumption); (case d => (first | ((with_reducible apply dle); (with_reducible assumption); exact rfl) | omega)); (case u => (first | ((with_reducible apply ule); (with_reducible assumption); exact rfl) | omega)); (case hx => first | exact hid1 (Nz.get (by k_mem)) (by first | assumption | k_ne) | exact hid1 (Fz.keep _ _ (by assumption)) (by first | assumption | k_ne)); (case M => k_mem); (case M2 => k_mem); (case p0 => omega); (case p1 => omega); (case p2 => omega); k_whole)); intro h9 tk9 st9 hn9; k_dflt ((refine backU_k Fz Nz hn9 (by k_upd) st9 ?_; intro F9 N9)); clear Fz Nz st9 hn9; (try dsimp only); (try k_fold)) | refine Stop.go ?_)
  k_with "call ref" => (k_here; (with_reducible show wpAny _ _ (call (Value.ref 151) _ _) _ _ _); first | ((with_reducible rename Fr _ _ _ _ => Fz); (with_reducible rename News _ _ _ _ => Nz); (k_dflt (refine' skip_spec (rd_hide ?B Fz Nz (sub1 ?M) ?X ?T rfl rfl ?d ?u) ?hx (foot1 Nz ?M2) ?p0 ?p1 ?p2 ?_; (case B => assumption); (case X => assumption); (case T => assumption); (case d => (first | ((with_reducible apply dle); (with_reducible assumption); exact rfl) | omega)); (case u => (first | ((with_reducible apply ule); (with_reducible assumption); exact rfl) | omega)); (case hx => first | exact hid1 (Nz.get (by k_mem)) (by first | assumption | k_ne) | exact hid1 (Fz.keep _ _ (by assumption)) (by first | assumption | k_ne)); (case M => k_mem); (case M2 => k_mem); (case p0 => omega); (case p1 => omega); (case p2 => omega); k_whole)); intro u9 t9 h9 tk9 st9 hn9; k_dflt ((refine backU_k Fz Nz hn9 (by k_upd) st9 ?_; intro F9 N9)); clear Fz Nz st9 hn9; (try dsimp only); (try k_fold)) | refine Stop.go ?_)
  k_with "call ref" => (k_here; (with_reducible show wpAny _ _ (call (Value.ref 158) _ _) _ _ _); first | ((with_reducible rename Fr _ _ _ _ => Fz); (with_reducible rename News _ _ _ _ => Nz); (k_dflt (refine' digits_spec (rd_hide ?B Fz Nz (sub1 ?M) ?X ?T rfl rfl ?d ?u) ?hx (foot1 Nz ?M2) ?p0 ?p1 ?p2 ?_; (case B => assumption); (case X => assumption); (case T => assumption); (case d => (first | ((with_reducible apply dle); (with_reducible assumption); exact rfl) | omega)); (case u => (first | ((with_reducible apply ule); (with_reducible assumption); exact rfl) | omega)); (case hx => first | exact hid1 (Nz.get (by k_mem)) (by first | assumption | k_ne) | exact hid1 (Fz.keep _ _ (by assumption)) (by first | assumption | k_ne)); (case M => k_mem); (case M2 => k_mem); (case p0 => omega); (case p1 => omega); (case p2 => omega); k_whole)); intro u9 t9 h9 tk9 st9 hn9; k_dflt ((refine backU_k Fz Nz hn9 (by k_upd) st9 ?_; intro F9 N9)); clear Fz Nz st9 hn9; (try dsimp only); (try k_fold)) | refine Stop.go ?_)
  k_with "call ref" => (k_here; (with_reducible show wpAny _ _ (call (Value.ref 172) _ _) _ _ _); first | ((with_reducible rename Fr _ _ _ _ => Fz); (with_reducible rename News _ _ _ _ => Nz); (k_dflt (refine' whole_of_spec (rd_of ?B Fz ?X ?T rfl rfl ?d ?u) ?p0 ?p1 ?_; (case B => assumption); (case X => assumption); (case T => assumption); (case d => (first | ((with_reducible apply dle); (with_reducible assumption); exact rfl) | omega)); (case u => (first | ((with_reducible apply ule); (with_reducible assumption); exact rfl) | omega)); (case p0 => (first | assumption | omega)); (case p1 => (first | assumption | omega)); k_whole)); intro t9 h9 tk9 st9; k_dflt ((refine back_k Fz Nz st9 ?_; intro F9 N9)); clear Fz Nz st9; (try dsimp only); (try k_fold)) | refine Stop.go ?_)
  k_with "call ref" => (k_here; (with_reducible show wpAny _ _ (call (Value.ref 81) _ _) _ _ _); first | ((with_reducible rename Fr _ _ _ _ => Fz); (with_reducible rename News _ _ _ _ => Nz); (k_dflt (refine' fraction_spec (rd_of ?B Fz ?X ?T rfl rfl ?d ?u) ?p0 ?p1 ?_; (case B => assumption); (case X => assumption); (case T => assumption); (case d => (first | ((with_reducible apply dle); (with_reducible assumption); exact rfl) | omega)); (case u => (first | ((with_reducible apply ule); (with_reducible assumption); exact rfl) | omega)); (case p0 => (exact pow10_pos)); (case p1 => (exact pow10_hi (by omega))); k_whole)); intro r9 t9 u9 h9 tk9 st9 hl9 hr9; k_dflt ((refine back1_k Fz Nz st9 hl9 hr9 ?_; intro F9 N9 l9 m9)); clear Fz Nz st9 hl9 hr9; (try k_lt l9); (try k_lt2 m9); (try dsimp only); (try k_fold)) | refine Stop.go ?_)
  k_with "binaryOp Mult int int" => (k_here; refine mul_int ?_ (by exact mulOk60 (by omega) (by omega) pow10_lo (pow10_hi (by omega))))
  k_with "binaryOp Pow int int" => (k_here; refine pow_int_small (by omega) (by omega) (by decide) ?_)
  k_with "exec Raise some none" => (k_here; refine raise_cls 51 ?_)
  k_with "call ref" => ((with_reducible show wpAny _ _ (call (Value.ref 51) _ _) _ _ _); refine Stop.go ?_)
  k_with "binaryOp Add str str" => (k_here; first | (refine r_add (by first | omega | (simp only [List.length_append, List.length_cons, List.length_nil]; omega)) ?_; intro t9 k9) | ((refine r_add_any (by first | omega | decide +kernel | (rw [S_len]; omega)) (by first | omega | decide +kernel | (rw [S_len]; omega)) ?_); intro z9 t9 k9))
  k_with "call ref" => ((with_reducible show wpAny _ _ (call (Value.ref 179) _ _) _ _ _); refine Stop.go ?_)
  trivial
noncomputable def badDec (l : List Nat) : Prop :=
  (skipL l ((skipAt l 0 (Str.ofString "+-")) + ((digL l (skipAt l 0 (Str.ofString "+-"))).length : Int)) (Str.ofString ".") = [] ∧ ((digL l (skipAt l 0 (Str.ofString "+-"))) ++ [] = [] ∨ ((digL l (skipAt l 0 (Str.ofString "+-"))) ++ [] ≠ [] ∧ (expL l (skipAt l ((skipAt l 0 (Str.ofString "+-")) + ((digL l (skipAt l 0 (Str.ofString "+-"))).length : Int)) (Str.ofString ".")) = none ∨ ∃ e j, expL l (skipAt l ((skipAt l 0 (Str.ofString "+-")) + ((digL l (skipAt l 0 (Str.ofString "+-"))).length : Int)) (Str.ofString ".")) = some (e, j) ∧ j < l.length)))) ∨
  (skipL l ((skipAt l 0 (Str.ofString "+-")) + ((digL l (skipAt l 0 (Str.ofString "+-"))).length : Int)) (Str.ofString ".") ≠ [] ∧ ((digL l (skipAt l 0 (Str.ofString "+-"))) ++ (digL l (skipAt l ((skipAt l 0 (Str.ofString "+-")) + ((digL l (skipAt l 0 (Str.ofString "+-"))).length : Int)) (Str.ofString "."))) = [] ∨ ((digL l (skipAt l 0 (Str.ofString "+-"))) ++ (digL l (skipAt l ((skipAt l 0 (Str.ofString "+-")) + ((digL l (skipAt l 0 (Str.ofString "+-"))).length : Int)) (Str.ofString "."))) ≠ [] ∧ (expL l ((skipAt l ((skipAt l 0 (Str.ofString "+-")) + ((digL l (skipAt l 0 (Str.ofString "+-"))).length : Int)) (Str.ofString ".")) + ((digL l (skipAt l ((skipAt l 0 (Str.ofString "+-")) + ((digL l (skipAt l 0 (Str.ofString "+-"))).length : Int)) (Str.ofString "."))).length : Int)) = none ∨ ∃ e j, expL l ((skipAt l ((skipAt l 0 (Str.ofString "+-")) + ((digL l (skipAt l 0 (Str.ofString "+-"))).length : Int)) (Str.ofString ".")) + ((digL l (skipAt l ((skipAt l 0 (Str.ofString "+-")) + ((digL l (skipAt l 0 (Str.ofString "+-"))).length : Int)) (Str.ofString "."))).length : Int)) = some (e, j) ∧ j < l.length))))
noncomputable def wL (l : List Nat) : List Nat := digL l (skipAt l 0 (Str.ofString "+-"))
noncomputable def jL (l : List Nat) : Int := (skipAt l 0 (Str.ofString "+-")) + ((digL l (skipAt l 0 (Str.ofString "+-"))).length : Int)
noncomputable def pL (l : List Nat) : List Nat := if skipL l (jL l) (Str.ofString ".") = [] then [] else digL l (skipAt l (jL l) (Str.ofString "."))
noncomputable def iL (l : List Nat) : Int := skipAt l (jL l) (Str.ofString ".") + ((pL l).length : Int)
noncomputable def sgL (l : List Nat) (n : Int) : Int := if S (skipL l 0 (Str.ofString "+-")) = Str.ofString "-" then -n else n
noncomputable def tenL (e n : Int) : Int × Int := if e < 0 then fr n (10 ^ (-e).toNat) else (n * 10 ^ e.toNat, 1)
theorem dec_cases {l : List Nat} {a b : Int} {P1 P2 : Prop} (he : (readDec l = some (a, b) ∧ P1) ∨ (badDec l ∧ P2)) : (wL l ++ pL l = [] ∧ P2) ∨ (wL l ++ pL l ≠ [] ∧ ((expL l (iL l) = none ∧ P2) ∨ ∃ e j, expL l (iL l) = some (e, j) ∧ ((j < l.length ∧ P2) ∨
    (¬ j < l.length ∧ P1 ∧ -50 ≤ e - ((pL l).length : Int) ∧ e - ((pL l).length : Int) ≤ 50 ∧ -B50 < wholeL (wL l ++ pL l) ∧ wholeL (wL l ++ pL l) < B50 ∧ tenL (e - ((pL l).length : Int)) (sgL l (wholeL (wL l ++ pL l))) = (a, b))))) := by
  rcases he with ⟨he, p1⟩ | ⟨he, p2⟩
  · have h2 := he
    unfold readDec at h2
    dsimp only at h2
    rw [show (if skipL l ((skipAt l 0 (Str.ofString "+-")) + ((digL l (skipAt l 0 (Str.ofString "+-"))).length : Int)) (Str.ofString ".") = [] then [] else digL l (skipAt l ((skipAt l 0 (Str.ofString "+-")) + ((digL l (skipAt l 0 (Str.ofString "+-"))).length : Int)) (Str.ofString "."))) = pL l from rfl] at h2
    rw [show digL l (skipAt l 0 (Str.ofString "+-")) = wL l from rfl] at h2
    rw [show skipAt l (skipAt l 0 (Str.ofString "+-") + ((wL l).length : Int)) (Str.ofString ".") + ((pL l).length : Int) = iL l from rfl] at h2
    split at h2
    · cases h2
    · rename_i hw
      refine Or.inr ⟨hw, ?_⟩
      split at h2
      · cases h2
      · rename_i e j hex
        refine Or.inr ⟨e, j, hex, ?_⟩
        split at h2
        · cases h2
        · rename_i hc
          have hc1 : ¬ j < l.length := fun q => hc (Or.inl q)
          have hc2 : ¬ e - ((pL l).length : Int) < -50 := fun q => hc (Or.inr (Or.inl q))
          have hc3 : ¬ 50 < e - ((pL l).length : Int) := fun q => hc (Or.inr (Or.inr (Or.inl q)))
          have hc4 : ¬ B50 ≤ wholeL (wL l ++ pL l) := fun q => hc (Or.inr (Or.inr (Or.inr (Or.inl q))))
          have hc5 : ¬ wholeL (wL l ++ pL l) ≤ -B50 := fun q => hc (Or.inr (Or.inr (Or.inr (Or.inr q))))
          refine Or.inr ⟨hc1, p1, Int.not_lt.mp hc2, Int.not_lt.mp hc3, Int.not_le.mp hc5, Int.not_le.mp hc4, ?_⟩
          unfold tenL sgL
          split at h2
          · rename_i hlt; rw [if_pos hlt]; exact Option.some.inj h2
          · rename_i hlt; rw [if_neg hlt]; exact Option.some.inj h2
  · rcases he with ⟨hd, h⟩ | ⟨hd, h⟩
    · have hp : pL l = [] := if_pos hd
      have hi : iL l = skipAt l ((skipAt l 0 (Str.ofString "+-")) + ((digL l (skipAt l 0 (Str.ofString "+-"))).length : Int)) (Str.ofString ".") := by unfold iL; rw [hp]; exact Int.add_zero _
      rw [hp, hi]
      rcases h with h | ⟨h, h1 | ⟨e, j, h1, h2⟩⟩
      · exact Or.inl ⟨h, p2⟩
      · exact Or.inr ⟨h, Or.inl ⟨h1, p2⟩⟩
      · exact Or.inr ⟨h, Or.inr ⟨e, j, h1, Or.inl ⟨h2, p2⟩⟩⟩
    · have hp : pL l = digL l (skipAt l ((skipAt l 0 (Str.ofString "+-")) + ((digL l (skipAt l 0 (Str.ofString "+-"))).length : Int)) (Str.ofString ".")) := if_neg hd
      have hi : iL l = skipAt l ((skipAt l 0 (Str.ofString "+-")) + ((digL l (skipAt l 0 (Str.ofString "+-"))).length : Int)) (Str.ofString ".") + ((pL l).length : Int) := rfl
      rw [hi, hp]
      rcases h with h | ⟨h, h1 | ⟨e, j, h1, h2⟩⟩
      · exact Or.inl ⟨h, p2⟩
      · exact Or.inr ⟨h, Or.inl ⟨h1, p2⟩⟩
      · exact Or.inr ⟨h, Or.inr ⟨e, j, h1, Or.inl ⟨h2, p2⟩⟩⟩
noncomputable def Good9 (l : List Nat) (P1 : Prop) (a b e : Int) : Prop := P1 ∧ -50 ≤ e - ((pL l).length : Int) ∧ e - ((pL l).length : Int) ≤ 50 ∧ -B50 < wholeL (wL l ++ pL l) ∧ wholeL (wL l ++ pL l) < B50 ∧ tenL (e - ((pL l).length : Int)) (sgL l (wholeL (wL l ++ pL l))) = (a, b)
section
variable {l : List Nat} {a b e j : Int} {P1 P2 : Prop} (he : (readDec l = some (a, b) ∧ P1) ∨ (badDec l ∧ P2))
include he
theorem dec_nil (hw : S (wL l ++ pL l) = Str.ofString "") : P2 := (dec_cases he).elim (fun q => q.2) fun q => absurd (S_inj (hw.trans lit_empty)) q.1
variable (hw : ¬S (wL l ++ pL l) = Str.ofString "")
include hw
theorem dec_rest : (expL l (iL l) = none ∧ P2) ∨ ∃ e j, expL l (iL l) = some (e, j) ∧ ((j < l.length ∧ P2) ∨ (¬ j < l.length ∧ Good9 l P1 a b e)) := (dec_cases he).elim (fun q => absurd ((congrArg S q.1).trans lit_empty.symm) hw) fun q => q.2
theorem dec_none (hx : expL l (iL l) = none) : P2 := (dec_rest he hw).elim (fun q => q.2) fun ⟨_, _, q, _⟩ => nomatch q.symm.trans hx
theorem dec_some (hx : expL l (iL l) = some (e, j)) : (j < l.length ∧ P2) ∨ (¬ j < l.length ∧ Good9 l P1 a b e) := (dec_rest he hw).elim (fun q => nomatch q.1.symm.trans hx) fun ⟨e', j', q, r⟩ => by
  cases q.symm.trans hx
  exact r
theorem dec_lt (hx : expL l (iL l) = some (e, j)) (h : j < l.length) : P2 := (dec_some he hw hx).elim (fun q => q.2) fun q => absurd h q.1
theorem dec_ge (hx : expL l (iL l) = some (e, j)) (h : ¬ j < l.length) : Good9 l P1 a b e := (dec_some he hw hx).elim (fun q => absurd q.1 h) fun q => q.2
end
theorem read_decimal_any {w : World} {A : Around} {s : Shared} {l : List Nat} {tl : Tok} {a b : Int} {P1 P2 : Prop} {Q E : Value → Shared → Prop}
    (R : Rd (hd.heap_1 w.params) 6 A s.heap s) (hlen : l.length ≤ 1000) (he : (readDec l = some (a, b) ∧ P1) ∨ (badDec l ∧ P2))
    (hret : P1 → ∀ r t t' h' tk', s.heap.StaysIn h' → s.heap.objs.size ≤ r → h'.get? r = some (tup2 a b t t') → Q (.ref r) { s with heap := h', toks := tk' })
    (hraise : P2 → ∀ outer e h' tk', A.frames = some outer → Flown .none outer s.heap [] h' e 51 → E (.ref e) { s with heap := h', toks := tk' }) :
    wpAny (model PySem.Challenge.rw_pf0197_01.row.prog w) A (call (.ref 186) [.str (S l) tl] []) Q E s := by
  revert R; k_fill; intro R
  refine' enter (news := []) (args := ⟨[.str (S l) tl], []⟩) (binds := [(Str.ofString "text", .str (S l) tl)]) R ?foot ?ho ?hcd ?hbind ?hloc ?h ?hcell ?hco ?hgen ?hk
  case foot => intro p hp; cases hp
  case ho => k_is
  case hcd => k_is
  case hbind => exact BindsTo.of_eq rfl
  case hloc => exact locs rfl
  case hcell => decide
  case hco => exact rfl
  case hgen => exact rfl
  case hk => exact rfl
  clear R
  intro base dp un outer p loose mean mg mb L h₁ F' N' B' X' T' hDp hUn hl hs hA
  (try dsimp only); (try k_fold)
  have hb1 := skipAt_bd (l := l) (i := 0) (y := Str.ofString "+-") (by omega) (by omega)
  have hb2 := digL_bd hb1.1 hb1.2
  have hb3 := skipAt_bd (y := Str.ofString ".") hb2.1 hb2.2.1
  have hb4 := digL_bd hb3.1 hb3.2
  refine cutK 3 (fun Ki => ∀ s' m x dx h1 h2 k1 k2 t1 t2 ts tw tp, Same s s' → Fr s.heap L s'.heap m → News s.heap L s'.heap [(x, instObj 161 dx), (dx, rdr l (iL l) h1 h2 k1 k2 t1 t2)] → m (Str.ofString "reader") = some (.ref x) → m (Str.ofString "sign") = some (.str (S (skipL l 0 (Str.ofString "+-"))) ts) → m (Str.ofString "whole") = some (.str (S (wL l)) tw) → m (Str.ofString "parts") = some (.str (S (pL l)) tp) → m (Str.ofString "text") = some (.str (S l) tl) → @LT.lt Nat _ dx x → Ki s') ?_ ?_
  · intro Ic1 hIc1
    dsimp only [List.take]
    k_steps
    all_goals (with_reducible rename Fr _ _ _ _ => Fz)
    all_goals (with_reducible rename News _ _ _ _ => Nz)
    · (with_reducible rename S _ = S [] => hSe)
      have hp : pL l = [] := if_pos (S_inj hSe)
      have hi : iL l = skipAt l (jL l) (Str.ofString ".") := by unfold iL; rw [hp]; exact Int.add_zero _
      exact Stop.out ⟨rfl, hIc1 _ _ _ _ _ _ _ _ _ _ _ _ _ Same.mk Fz (by rw [hi]; exact ntail Nz) rfl rfl rfl (by rw [hp]; rfl) rfl (by with_reducible assumption)⟩
    · (with_reducible rename ¬ (S _ = S []) => hSe)
      have hp : pL l = digL l (skipAt l (jL l) (Str.ofString ".")) := if_neg fun e => hSe (congrArg S e)
      have hi : iL l = skipAt l (jL l) (Str.ofString ".") + ((digL l (skipAt l (jL l) (Str.ofString "."))).length : Int) := by unfold iL; rw [hp]
      exact Stop.out ⟨rfl, hIc1 _ _ _ _ _ _ _ _ _ _ _ _ _ Same.mk Fz (by rw [hi]; exact ntail Nz) rfl rfl rfl (by rw [hp]; rfl) rfl (by with_reducible assumption)⟩
  · clear F' N'
    intro s1 m x dx h1 h2 k1 k2 t1 t2 ts tw tp hS F1 N1 e1 e2 e3 e4 e5 hlt
    dsimp only [List.drop]
    replace F1 := put5F F1 e1 e2 e3 e4 e5
    clear e1 e2 e3 e4 e5
    have hib : 0 ≤ iL l ∧ iL l ≤ l.length ∧ (wL l).length ≤ l.length ∧ (pL l).length ≤ l.length := by
      refine ⟨?_, ?_, hb2.2.2, ?_⟩ <;> (by_cases hd : skipL l (jL l) (Str.ofString ".") = [])
      · have hp : pL l = [] := if_pos hd
        unfold iL; rw [hp]; have := hb3.1; exact Int.add_nonneg this (Int.natCast_nonneg _)
      · have hp : pL l = digL l (skipAt l (jL l) (Str.ofString ".")) := if_neg hd
        unfold iL; rw [hp]; exact hb4.1
      · have hp : pL l = [] := if_pos hd
        unfold iL; rw [hp]; exact (Int.add_zero _).symm ▸ hb3.2
      · have hp : pL l = digL l (skipAt l (jL l) (Str.ofString ".")) := if_neg hd
        unfold iL; rw [hp]; exact hb4.2.1
      · have hp : pL l = [] := if_pos hd
        rw [hp]; exact Nat.zero_le _
      · have hp : pL l = digL l (skipAt l (jL l) (Str.ofString ".")) := if_neg hd
        rw [hp]; exact hb4.2.2
    obtain ⟨hi0, hi1, hwl, hpl⟩ := hib
    clear hb1 hb2 hb3 hb4
    have hWPd : ∀ c ∈ wL l ++ pL l, isDig c = true := fun c hc => (List.mem_append.mp hc).elim (digL_all c) fun q => by
      by_cases hd : skipL l (jL l) (Str.ofString ".") = []
      · rw [show pL l = [] from if_pos hd] at q; exact nomatch q
      · rw [show pL l = _ from if_neg hd] at q; exact digL_all c q
    have hWPl : (wL l ++ pL l).length ≤ 3000 := by rw [List.length_append]; omega
    refine cutK 5 (fun Ki => ∀ s' m e t1 t2, Good9 l P1 a b e → Same s1 s' → Fr s.heap L s'.heap m → News s.heap L s'.heap [] → m (Str.ofString "exponent") = some (.int (e - ((pL l).length : Int)) t1) → m (Str.ofString "number") = some (.int (sgL l (wholeL (wL l ++ pL l))) t2) → Ki s') ?_ ?_
    · intro Ic2 hIc2
      clear hret
      dsimp only [List.take]
      k_steps
      · refine Stop.out ?_
        (with_reducible rename S (_ ++ _) = _ => hw)
        (with_reducible rename Fr _ _ _ _ => Fz)
        refine made_raise (X'.keeps Fz.keep) (T'.nolimit.keeps Fz.keep) (by show dp + 1 < 980; omega) rfl (by k_is) (by k_is) (by k_is) rfl (by k_is) ?_
        intro h8 e8 tk8 oe8 t8 y1 y2 y3 y4 y5
        refine leave_new (own := []) B' Fz (fun q hq => nomatch hq) y1 y2 y3 y4 y5 rfl rfl fun h9 f9 => ?_
        exact hS.q (hraise (dec_nil he hw) outer e8 h9 tk8 (by rw [hA]) f9)
      refine Stop.out ?_
      (with_reducible rename ¬S (_ ++ _) = _ => hw)
      (with_reducible rename Fr _ _ _ _ => Fz)
      (with_reducible rename News _ _ _ _ => Nz)
      refine read_exponent_any (rd_hide B' Fz Nz (sub1 (by k_mem)) X' T' rfl rfl (by (first | ((with_reducible apply dle); (with_reducible assumption); exact rfl) | omega)) (by (first | ((with_reducible apply ule); (with_reducible assumption); exact rfl) | omega))) (hid1 (Nz.get (by k_mem)) (by k_ne)) (foot1 Nz (by k_mem)) hi0 hi1 hlen ?_ ?_
      · intro e j hx t9 u9 h9 tk9 st9 hn9
        (refine backU_k Fz Nz hn9 (by k_upd) st9 ?_; intro F9 N9)
        clear Fz Nz st9 hn9
        (try dsimp only); (try k_fold)
        k_steps
        · refine Stop.out ?_
          (with_reducible rename _ < (List.length _ : Int) => hjl)
          (with_reducible rename Fr _ _ _ _ => Fz)
          refine made_raise (X'.keeps Fz.keep) (T'.nolimit.keeps Fz.keep) (by show dp + 1 < 980; omega) rfl (by k_is) (by k_is) (by k_is) rfl (by k_is) ?_
          intro h8 e8 tk8 oe8 t8 y1 y2 y3 y4 y5
          refine leave_new (own := []) B' Fz (fun q hq => nomatch hq) y1 y2 y3 y4 y5 rfl rfl fun h9 f9 => ?_
          exact hS.q (hraise (dec_lt he hw hx hjl) outer e8 h9 tk8 (by rw [hA]) f9)
        all_goals (with_reducible rename ¬_ < (List.length _ : Int) => hjl)
        all_goals (with_reducible rename Fr _ _ _ _ => Fz)
        · (with_reducible rename S _ = Str.ofString "-" => hsg)
          have hv : sgL l (wholeL (wL l ++ pL l)) = -(wholeL (wL l ++ pL l)) := if_pos hsg
          exact Stop.out ⟨rfl, hIc2 _ _ _ _ _ (dec_ge he hw hx hjl) ⟨rfl, rfl, rfl⟩ Fz (fun _ hq => nomatch hq) rfl (by first | (rw [hv]; done) | (rw [hv]; rfl))⟩
        · (with_reducible rename ¬ (S _ = Str.ofString "-") => hsg)
          have hv : sgL l (wholeL (wL l ++ pL l)) = wholeL (wL l ++ pL l) := if_neg hsg
          exact Stop.out ⟨rfl, hIc2 _ _ _ _ _ (dec_ge he hw hx hjl) ⟨rfl, rfl, rfl⟩ Fz (fun _ hq => nomatch hq) rfl (by first | (rw [hv]; done) | (rw [hv]; rfl))⟩
      · intro hx o7 e7 h7 tk7 hf7 f7
        obtain rfl := Option.some.inj hf7
        refine leave_on (own' := []) B' Fz (fr_hide Fz (fun p hp => Nz p (sub1 (by k_mem) p hp))).keep f7 (fun q hq => nomatch hq) fun h9 f9 => ?_
        exact hS.q (hraise (dec_none he hw hx) outer e7 h9 tk7 (by rw [hA]) f9)
    · clear F1 hraise
      intro s2 m2 e t3 t4 hG hS2 F2 N2 e1 e2
      have he' := hG.1
      have hx0 := hG.2.1
      have hx1 := hG.2.2.1
      have hn0 := hG.2.2.2.1
      have hn1 := hG.2.2.2.2.1
      have hab := hG.2.2.2.2.2
      clear hG he
      dsimp only [List.drop]
      replace F2 := put2F F2 e1 e2
      clear e1 e2
      have hb := B50_eq
      rw [hb] at hn0 hn1
      generalize hnn : sgL l (wholeL (wL l ++ pL l)) = n at F2 hab
      have hm : -100000000000000000000000000000000000000000000000000 < n ∧ n < 100000000000000000000000000000000000000000000000000 := by
        rw [← hnn]; unfold sgL; split <;> (constructor <;> omega)
      obtain ⟨hm0, hm1⟩ := hm
      clear hnn hn0 hn1
      generalize e - ((pL l).length : Int) = ex at F2 hab hx0 hx1
      k_steps
      all_goals (with_reducible rename Fr _ _ _ _ => Fz)
      all_goals (with_reducible rename News _ _ _ _ => Nz)
      all_goals have hSS : Same s s2 := ⟨hS2.1.trans hS.1, hS2.2.1.trans hS.2.1, hS2.2.2.trans hS.2.2⟩
      · (with_reducible rename _ < (0 : Int) => hlt)
        rw [show tenL ex n = _ from if_pos hlt] at hab
        have h1 := congrArg Prod.fst hab
        have h2 := congrArg Prod.snd hab
        dsimp only at h1 h2
        subst h1; subst h2
        show Q (.ref _) _
        exact hSS.q (hret he' _ _ _ _ _ Fz.keep (under hs (by assumption)) (Nz.get (List.mem_cons_self ..)))
      · (with_reducible rename ¬ _ < (0 : Int) => hlt)
        rw [show tenL ex n = _ from if_neg hlt] at hab
        have h1 := congrArg Prod.fst hab
        have h2 := congrArg Prod.snd hab
        dsimp only at h1 h2
        subst h1; subst h2
        show Q (.ref _) _
        exact hSS.q (hret he' _ _ _ _ _ Fz.keep (under hs (by assumption)) (Nz.get (List.mem_cons_self ..)))
theorem read_decimal_spec {w : World} {A : Around} {s : Shared} {l : List Nat} {tl : Tok} {a b : Int} {Q E : Value → Shared → Prop}
    (R : Rd (hd.heap_1 w.params) 6 A s.heap s) (hlen : l.length ≤ 1000) (he : readDec l = some (a, b))
    (hret : ∀ r t t' h' tk', s.heap.StaysIn h' → s.heap.objs.size ≤ r → h'.get? r = some (tup2 a b t t') → Q (.ref r) { s with heap := h', toks := tk' }) :
    wpAny (model PySem.Challenge.rw_pf0197_01.row.prog w) A (call (.ref 186) [.str (S l) tl] []) Q E s :=
  read_decimal_any R hlen (Or.inl ⟨he, True.intro⟩) (fun _ => hret) False.elim
theorem read_decimal_raise {w : World} {A : Around} {s : Shared} {l : List Nat} {tl : Tok} {Q E : Value → Shared → Prop}
    (R : Rd (hd.heap_1 w.params) 6 A s.heap s) (hlen : l.length ≤ 1000) (he : badDec l)
    (hraise : ∀ outer e h' tk', A.frames = some outer → Flown .none outer s.heap [] h' e 51 → E (.ref e) { s with heap := h', toks := tk' }) :
    wpAny (model PySem.Challenge.rw_pf0197_01.row.prog w) A (call (.ref 186) [.str (S l) tl] []) Q E s :=
  read_decimal_any (a := 0) (b := 0) R hlen (Or.inr ⟨he, True.intro⟩) False.elim (fun _ => hraise)
end Mine
end
section --C10
set_option maxHeartbeats 1600000
namespace Mine
theorem lnC10a : True := by
  k_with_none
  k_with "a1" => (first | with_reducible assumption | ((with_reducible apply Mine.ltm); (with_reducible assumption); k_mem))
  k_with "a2" => (first | with_reducible exact Mine.lss | with_reducible exact Mine.ltp (by assumption) | with_reducible exact Mine.ltp (Mine.ltp (by assumption)) | with_reducible exact Mine.ltp (Mine.ltp (Mine.ltp (by assumption))) | ((with_reducible refine Mine.lts ?_); first | with_reducible exact Mine.lss | k_memK) | ((with_reducible refine Mine.lts (Mine.lts ?_)); first | with_reducible exact Mine.lss | k_memK) | ((with_reducible refine Mine.lts (Mine.lts (Mine.lts ?_))); k_memK))
  k_with "a3" => (first | k_cls | ((with_reducible apply Mine.ltr); (with_reducible assumption); first | k_memK | k_cls) | ((with_reducible apply Mine.ltr); (with_reducible exact Mine.ltp (by assumption)); first | k_memK | k_cls))
  k_with "a4" => (first | with_reducible exact Mine.neAll (by assumption) | with_reducible exact Mine.neNil | ((with_reducible refine Mine.neCons ?_ ?_); k_ne; k_all))
  k_with "a5" => (first | with_reducible exact Mine.subNil | with_reducible exact Mine.subSame | ((with_reducible refine Mine.subCons ?_ ?_); k_mem; k_subL) | ((with_reducible refine Mine.subApp ?_ ?_); k_subL; k_subL) | ((with_reducible refine Mine.subTail ?_); k_subL))
  k_with "a6" => (first | with_reducible assumption | ((with_reducible show @Ne Nat _ _); first | ((with_reducible refine Mine.nlt ?_); k_memK) | ((with_reducible refine Mine.ngt ?_); k_memK) | (with_reducible exact Ne.symm (by assumption)) | ((with_reducible refine Mine.nlt ?_); k_types) | ((with_reducible refine Mine.ngt ?_); k_types)) | ((with_reducible apply Mine.dq0); (with_reducible assumption); decide) | ((with_reducible apply Mine.dq1); (with_reducible assumption); decide) | ((with_reducible apply Mine.dq2); (with_reducible assumption); decide) | ((with_reducible apply Mine.dq3); (with_reducible assumption); decide) | ((with_reducible apply Mine.dq4); (with_reducible assumption); decide) | ((with_reducible first | apply Mine.il1 | apply Mine.il3); (with_reducible assumption); decide) | ((with_reducible first | apply Mine.il2 | apply Mine.il4); (with_reducible assumption); decide) | ((with_reducible first | apply Mine.iu1 | apply Mine.iu3); (with_reducible assumption); decide) | ((with_reducible first | apply Mine.iu2 | apply Mine.iu4); (with_reducible assumption); decide) | ((with_reducible first | apply Mine.nl3 | apply Mine.nl2); (with_reducible assumption); decide) | ((with_reducible first | apply Mine.nu1 | apply Mine.nu3); (with_reducible assumption); decide) | ((with_reducible first | apply Mine.nu2 | apply Mine.nu4); (with_reducible assumption); decide) | ((with_reducible show @LT.lt Nat _ _ _); first | k_memK | k_types) | decide)
  k_with "a7" => (repeat (rename ∀ _ ∈ (_ : List (Addr × Obj)), @LT.lt Nat _ _ _ => hrw; replace hrw := allLt_of hrw; dsimp only [AllLt] at hrw))
  k_with "a8" => (first | (k_whole; kc_bool) | omega +splitDisjunctions | (k_whole; k_units; omega +splitDisjunctions))
  k_with "a9" => (first | (k_whole; kc_bool) | lia | omega +splitDisjunctions)
  k_with "eval Call" => ((fail_if_success (fail_if_success k_fold)); refine foldL ?_; intro qk ek; walk1)
  k_with "eval BinOp" => ((fail_if_success (fail_if_success k_fold)); refine foldL ?_; intro qk ek; walk1)
  k_with "eval Tuple" => ((fail_if_success (fail_if_success k_fold)); refine foldL ?_; intro qk ek; walk1)
  k_with "isTrue Compare" => ((fail_if_success (fail_if_success k_fold)); refine foldL ?_; intro qk ek; walk1)
  k_with "eval Subscript" => ((fail_if_success (fail_if_success k_fold)); refine foldL ?_; intro qk ek; walk1)
  k_with "exec Assign" => ((fail_if_success (fail_if_success k_fold)); refine foldL ?_; intro qk ek; walk1)
  k_with "eval List" => ((fail_if_success (fail_if_success k_fold)); refine foldL ?_; intro qk ek; walk1)
  k_with "eval Attribute" => ((fail_if_success (fail_if_success k_fold)); refine foldL ?_; intro qk ek; walk1)
  k_with "eval UnaryOp" => ((fail_if_success (fail_if_success k_fold)); refine foldL ?_; intro qk ek; walk1)
  k_with "callWith ref" => ((fail_if_success (fail_if_success k_fold)); refine foldL ?_; intro qk ek; walk1)
  k_with "callWith" => ((fail_if_success (fail_if_success k_fold)); refine foldL ?_; intro qk ek; walk1)
  k_with "subscriptTail Name Constant ref int" => (k_here; first | refine tup_item0 (by assumption) (by assumption) ?_ | refine tup_item1 (by assumption) (by assumption) ?_)
  k_with "exec While" => (k_here; refine Stop.go ?_)
  k_with "binaryOp FloorDiv int int" => (k_here; refine floordiv_int (by first | decide | omega) ?_ (Or.inl (noPyl (by first | decide | omega) (by first | decide | omega))))
  k_with "newTuple" => (k_here; k_dflt (refine' newTuple_mine ?k1 ?k2 ?_ ?k3; (case k1 => k_asm); (case k2 => k_asm); (case k3 => first | decide | (exact Nat.le_of_ble_eq_true rfl) | (simp only [sizeLine_eq]; simp))); intro D' h' F' N' l1 l2; (try k_lt l1); (try k_lt2 l2); (try k_sweep))
  k_with "binaryOp Mult int int" => (k_here; refine mul_int ?_ (by first | exact mulOk60 (by omega) (by omega) (by omega) (by omega) | mul_fits))
  k_with "call builtin:len" => (k_here; refine r_len (by first | omega | (simp only [List.length_append, List.length_cons, List.length_nil]; omega)) ?_; intro t9 k9)
  k_with "subscriptTail Attribute Attribute str int" => (k_here; (with_reducible show wpAny _ _ (subscriptTail _ _ (Value.str (S _) _) (Value.int _ _)) _ _ _); k_dflt (refine r_item (by omega) (by omega) (by omega) ?_); intro t9 k9)
  k_with "compareOp In str str" => (k_here; refine r_in ?_)
  k_with "subscriptTail Attribute Slice str ref" => (k_here; (with_reducible show wpAny _ _ (subscriptTail _ (Expr.Slice (some _) (some _) none _) (Value.str (S _) _) (Value.ref _)) _ _ _); (with_reducible rename Fr _ _ _ _ => Fz); (with_reducible rename News _ _ _ _ => Nz); k_dflt (refine r_slice (s := ⟨_, _, _, _, _⟩) Fz Nz (by omega) (by omega) (by omega) (by omega) ?_); intro h9 t9 k9 F9 N9; (try k_sweep))
  k_with "compareOp Eq str str" => (k_here; first | refine r_eq_f (by assumption) ?_ | refine r_eq_t (by assumption) ?_ | refine r_eq ?_)
  k_with "compareOp NotEq str str" => (k_here; first | refine r_ne_t (by assumption) ?_ | refine r_ne_f (by assumption) ?_ | refine r_ne ?_)
  k_with "pyIter ref" => (refine Stop.go ?_)
  k_with "exec For Name Tuple cons nil" => (k_here; (rename Fr _ _ _ _ => lF'); (with_unfolding_all refine' For_invVF lF' ?k1 ?k2 ?_; (case k1 => exact rfl); (case k2 => exact rfl); k_whole))
  k_with "call builtin:str.strip" => (k_here; (with_reducible show wpAny _ _ (call (Value.builtin "str.strip") [Value.str (S _) _]) _ _ _); refine r_strip (by first | omega | (simp only [List.length_append, List.length_cons, List.length_nil, List.length_take]; omega)) ?_; intro t9 k9)
  k_with "subscriptTail Name Slice str ref" => (k_here; (with_reducible show wpAny _ _ (subscriptTail _ (Expr.Slice none (some _) none _) (Value.str (S _) _) (Value.ref _)) _ _ _); (with_reducible rename Fr _ _ _ _ => Fz); (with_reducible rename News _ _ _ _ => Nz); k_dflt (refine r_slice_neg (s := ⟨_, _, _, _, _⟩) Fz Nz (by first | decide | omega) (by omega) ?_); intro h9 t9 k9 F9 N9; (try k_sweep))
  k_with "call builtin:str.endswith" => (k_here; (with_reducible show wpAny _ _ (call (Value.builtin "str.endswith") [Value.str (S _) _, Value.str _ _]) _ _ _); refine r_ends ?_)
  trivial
noncomputable def unitsL : List (List Nat) := [[112, 120], [112, 116], [112, 99], [109, 109], [99, 109], [105, 110], [101, 109], [37]]
noncomputable def goU (t : List Nat) : List (List Nat) → List Nat × Str
  | [] => (t, Str.ofString "")
  | u :: r => if Txt.endswith (S t) (S u) = true then (stripL (t.take (t.length - u.length)), S u) else goU t r
theorem unitOf_go (l : List Nat) : unitOf l = goU (stripL l) unitsL := by
  have e1 : Str.ofString "px" = S [112, 120] := by decide +kernel
  have e2 : Str.ofString "pt" = S [112, 116] := by decide +kernel
  have e3 : Str.ofString "pc" = S [112, 99] := by decide +kernel
  have e4 : Str.ofString "mm" = S [109, 109] := by decide +kernel
  have e5 : Str.ofString "cm" = S [99, 109] := by decide +kernel
  have e6 : Str.ofString "in" = S [105, 110] := by decide +kernel
  have e7 : Str.ofString "em" = S [101, 109] := by decide +kernel
  have e8 : Str.ofString "%" = S [37] := by decide +kernel
  unfold unitOf
  rw [e1, e2, e3, e4, e5, e6, e7, e8]
  rfl
theorem goU_t {t u : List Nat} {r : List (List Nat)} (h : Txt.endswith (S t) (S u) = true) : goU t (u :: r) = (stripL (t.take (t.length - u.length)), S u) := if_pos h
theorem goU_f {t u : List Nat} {r : List (List Nat)} (h : Txt.endswith (S t) (S u) = false) : goU t (u :: r) = goU t r := if_neg (by rw [h]; exact Bool.false_ne_true)
theorem unit_item {i : Nat} {v : Value} {t0 t1 t2 t3 t4 t5 t6 t7 : Tok} (hv : #[Value.str (Str.ofString "px") t0, .str (Str.ofString "pt") t1, .str (Str.ofString "pc") t2, .str (Str.ofString "mm") t3, .str (Str.ofString "cm") t4, .str (Str.ofString "in") t5, .str (Str.ofString "em") t6, .str (Str.ofString "%") t7][i]? = some v) :
    ∃ u t, v = .str (S u) t ∧ unitsL.drop i = u :: unitsL.drop (i + 1) ∧ 0 < u.length ∧ u.length ≤ 2 := by
  have go : ∀ {x : Str} {t : Tok} (u : List Nat), some (Value.str x t) = some v → x = S u → unitsL.drop i = u :: unitsL.drop (i + 1) → 0 < u.length → u.length ≤ 2 → ∃ u t, v = .str (S u) t ∧ unitsL.drop i = u :: unitsL.drop (i + 1) ∧ 0 < u.length ∧ u.length ≤ 2 :=
    fun {x t} u e ex h1 h2 h3 => ⟨u, t, by subst ex; exact (Option.some.inj e).symm, h1, h2, h3⟩
  cases i with
  | zero => exact go [112, 120] hv (by decide +kernel) rfl (by decide) (by decide)
  | succ i =>
    cases i with
    | zero => exact go [112, 116] hv (by decide +kernel) rfl (by decide) (by decide)
    | succ i =>
      cases i with
      | zero => exact go [112, 99] hv (by decide +kernel) rfl (by decide) (by decide)
      | succ i =>
        cases i with
        | zero => exact go [109, 109] hv (by decide +kernel) rfl (by decide) (by decide)
        | succ i =>
          cases i with
          | zero => exact go [99, 109] hv (by decide +kernel) rfl (by decide) (by decide)
          | succ i =>
            cases i with
            | zero => exact go [105, 110] hv (by decide +kernel) rfl (by decide) (by decide)
            | succ i =>
              cases i with
              | zero => exact go [101, 109] hv (by decide +kernel) rfl (by decide) (by decide)
              | succ i =>
                cases i with
                | zero => exact go [37] hv (by decide +kernel) rfl (by decide) (by decide)
                | succ i =>
                  exact nomatch (show none = some v from hv)
theorem unit_of_spec {w : World} {A : Around} {s : Shared} {l : List Nat} {tl : Tok} {Q E : Value → Shared → Prop}
    (R : Rd (hd.heap_1 w.params) 1 A s.heap s) (hlen : l.length ≤ 1000)
    (hret : ∀ r t t' h' tk', s.heap.StaysIn h' → s.heap.objs.size ≤ r → h'.get? r = some (tupS (S (unitOf l).1) (unitOf l).2 t t') → Q (.ref r) { s with heap := h', toks := tk' }) :
    wpAny (model PySem.Challenge.rw_pf0197_01.row.prog w) A (call (.ref 222) [.str (S l) tl] []) Q E s := by
  revert R; k_fill; intro R
  refine' enter (news := []) (args := ⟨[.str (S l) tl], []⟩) (binds := [(Str.ofString "text", .str (S l) tl)]) R ?foot ?ho ?hcd ?hbind ?hloc ?h ?hcell ?hco ?hgen ?hk
  case foot => intro p hp; cases hp
  case ho => k_is
  case hcd => k_is
  case hbind => exact BindsTo.of_eq rfl
  case hloc => exact locs rfl
  case hcell => decide
  case hco => exact rfl
  case hgen => exact rfl
  case hk => exact rfl
  clear R
  intro base dp un outer p loose mean mg mb L h₁ F' N' B' X' T' hDp hUn hl hs hA
  clear hA
  (try dsimp only); (try k_fold)
  have hsl := stripL_len l
  rw [unitOf_go] at hret
  k_steps
  refine Stop.out ?_
  (with_reducible rename Fr _ _ _ _ => Fz)
  (with_reducible rename News _ _ _ _ => Nz)
  (with_reducible rename L < _ => hLD)
  generalize stripL l = tx at hsl hret Fz
  try dsimp only at Nz
  refine tuple_turns (x := Str.ofString "unit") (news := []) (fun i m nx => ∀ Gj : Prop, (∀ tt, nx = [] → m (Str.ofString "text") = some (.str (S tx) tt) → goU tx unitsL = goU tx (unitsL.drop i) → Gj) → Gj) rfl Fz (fun _ hp => nomatch hp) ⟨_, (Nz _ (List.mem_cons_self ..)).1, rfl, _, rfl⟩ (Nat.ne_of_gt hLD) (fun _ hp => nomatch hp) (fun _ kJ => kJ _ rfl rfl rfl) ?_ ?_
  · intro i v m₁ nx h tk own hv hmap hoff hJq F N
    refine hJq _ ?_
    clear hJq Fz Nz hLD
    intro tt hnx e1 hg
    subst hnx
    have hhv := unit_item hv
    obtain ⟨u, tu, rfl, hdr, hu0, hu2⟩ := hhv
    rw [hdr] at hg
    replace F := putF F (thru (by decide +kernel) e1)
    clear hv hmap e1
    simp only [List.nil_append] at N
    k_steps
    · (with_reducible rename Fr _ _ _ _ => Fz)
      (with_reducible rename News _ _ _ _ => Nz)
      rw [hg, goU_t (by with_reducible assumption)] at hret
      have e3 : (- -((u.length : Nat) : Int)).toNat = u.length := by omega
      have hN := (Nz _ (List.mem_cons_self ..)).1
      dsimp only at hN
      rw [e3] at hN
      exact hret _ _ _ _ _ Fz.keep (under hs (by assumption)) hN
    · (with_reducible rename Fr _ _ _ _ => Fz)
      (with_reducible rename News _ _ _ _ => Nz)
      exact ⟨_, _, _, _, [], rfl, Fz, Nz, (fun _ hp => nomatch hp), (fun _ hp => hp), rfl, fun _ kJ => kJ _ rfl rfl (hg.trans (goU_f (by with_reducible assumption)))⟩
  · intro m₁ nx h tk hJq F N
    refine hJq _ ?_
    clear hJq Fz Nz hLD
    intro tt hnx e1 hg
    subst hnx
    replace F := putF F e1
    have hg2 : goU tx unitsL = (tx, Str.ofString "") := hg
    rw [hg2] at hret
    k_steps
    (with_reducible rename Fr _ _ _ _ => Fz)
    (with_reducible rename News _ _ _ _ => Nz)
    exact hret _ _ _ _ _ Fz.keep (under hs (by assumption)) (Nz.get (List.mem_cons_self ..))
theorem unit_of_spec' {w : World} {A : Around} {s : Shared} {l nl : List Nat} {u : Str} {tl : Tok} {Q E : Value → Shared → Prop}
    (R : Rd (hd.heap_1 w.params) 1 A s.heap s) (hlen : l.length ≤ 1000) (hU : unitOf l = (nl, u))
    (hret : ∀ r t t' h' tk', s.heap.StaysIn h' → s.heap.objs.size ≤ r → h'.get? r = some (tupS (S nl) u t t') → Q (.ref r) { s with heap := h', toks := tk' }) :
    wpAny (model PySem.Challenge.rw_pf0197_01.row.prog w) A (call (.ref 222) [.str (S l) tl] []) Q E s :=
  unit_of_spec R hlen (by rw [hU]; exact hret)
end Mine
end
section --C11
set_option maxHeartbeats 1600000
namespace Mine
theorem lnC11a : True := by
  k_with_none
  k_with "a1" => (first | with_reducible assumption | ((with_reducible apply Mine.ltm); (with_reducible assumption); k_mem))
  k_with "a2" => (first | with_reducible exact Mine.lss | with_reducible exact Mine.ltp (by assumption) | with_reducible exact Mine.ltp (Mine.ltp (by assumption)) | with_reducible exact Mine.ltp (Mine.ltp (Mine.ltp (by assumption))) | ((with_reducible refine Mine.lts ?_); first | with_reducible exact Mine.lss | k_memK) | ((with_reducible refine Mine.lts (Mine.lts ?_)); first | with_reducible exact Mine.lss | k_memK) | ((with_reducible refine Mine.lts (Mine.lts (Mine.lts ?_))); k_memK))
  k_with "a3" => (first | k_cls | ((with_reducible apply Mine.ltr); (with_reducible assumption); first | k_memK | k_cls) | ((with_reducible apply Mine.ltr); (with_reducible exact Mine.ltp (by assumption)); first | k_memK | k_cls))
  k_with "a4" => (first | with_reducible exact Mine.neAll (by assumption) | with_reducible exact Mine.neNil | ((with_reducible refine Mine.neCons ?_ ?_); k_ne; k_all))
  k_with "a5" => (first | with_reducible exact Mine.subNil | with_reducible exact Mine.subSame | ((with_reducible refine Mine.subCons ?_ ?_); k_mem; k_subL) | ((with_reducible refine Mine.subApp ?_ ?_); k_subL; k_subL) | ((with_reducible refine Mine.subTail ?_); k_subL))
  k_with "a6" => (first | with_reducible assumption | ((with_reducible show @Ne Nat _ _); first | ((with_reducible refine Mine.nlt ?_); k_memK) | ((with_reducible refine Mine.ngt ?_); k_memK) | (with_reducible exact Ne.symm (by assumption)) | ((with_reducible refine Mine.nlt ?_); k_types) | ((with_reducible refine Mine.ngt ?_); k_types)) | ((with_reducible apply Mine.dq0); (with_reducible assumption); decide) | ((with_reducible apply Mine.dq1); (with_reducible assumption); decide) | ((with_reducible apply Mine.dq2); (with_reducible assumption); decide) | ((with_reducible apply Mine.dq3); (with_reducible assumption); decide) | ((with_reducible apply Mine.dq4); (with_reducible assumption); decide) | ((with_reducible first | apply Mine.il1 | apply Mine.il3); (with_reducible assumption); decide) | ((with_reducible first | apply Mine.il2 | apply Mine.il4); (with_reducible assumption); decide) | ((with_reducible first | apply Mine.iu1 | apply Mine.iu3); (with_reducible assumption); decide) | ((with_reducible first | apply Mine.iu2 | apply Mine.iu4); (with_reducible assumption); decide) | ((with_reducible first | apply Mine.nl3 | apply Mine.nl2); (with_reducible assumption); decide) | ((with_reducible first | apply Mine.nu1 | apply Mine.nu3); (with_reducible assumption); decide) | ((with_reducible first | apply Mine.nu2 | apply Mine.nu4); (with_reducible assumption); decide) | ((with_reducible show @LT.lt Nat _ _ _); first | k_memK | k_types) | decide)
  k_with "a7" => (repeat (rename ∀ _ ∈ (_ : List (Addr × Obj)), @LT.lt Nat _ _ _ => hrw; replace hrw := allLt_of hrw; dsimp only [AllLt] at hrw))
  k_with "a8" => (first | (k_whole; kc_bool) | omega +splitDisjunctions | (k_whole; k_units; omega +splitDisjunctions))
  k_with "a9" => (first | (k_whole; kc_bool) | lia | omega +splitDisjunctions)
  k_with "eval Call" => ((fail_if_success (fail_if_success k_fold)); refine foldL ?_; intro qk ek; walk1)
  k_with "eval BinOp" => ((fail_if_success (fail_if_success k_fold)); refine foldL ?_; intro qk ek; walk1)
  k_with "eval Tuple" => ((fail_if_success (fail_if_success k_fold)); refine foldL ?_; intro qk ek; walk1)
  k_with "isTrue Compare" => ((fail_if_success (fail_if_success k_fold)); refine foldL ?_; intro qk ek; walk1)
  k_with "eval Subscript" => ((fail_if_success (fail_if_success k_fold)); refine foldL ?_; intro qk ek; walk1)
  k_with "exec Assign" => ((fail_if_success (fail_if_success k_fold)); refine foldL ?_; intro qk ek; walk1)
  k_with "eval List" => ((fail_if_success (fail_if_success k_fold)); refine foldL ?_; intro qk ek; walk1)
  k_with "eval Attribute" => ((fail_if_success (fail_if_success k_fold)); refine foldL ?_; intro qk ek; walk1)
  k_with "eval UnaryOp" => ((fail_if_success (fail_if_success k_fold)); refine foldL ?_; intro qk ek; walk1)
  k_with "callWith ref" => ((fail_if_success (fail_if_success k_fold)); refine foldL ?_; intro qk ek; walk1)
  k_with "callWith" => ((fail_if_success (fail_if_success k_fold)); refine foldL ?_; intro qk ek; walk1)
  k_with "subscriptTail Name Constant ref int" => (k_here; first | refine tup_item0 (by assumption) (by assumption) ?_ | refine tup_item1 (by assumption) (by assumption) ?_)
  k_with "exec While" => (k_here; refine Stop.go ?_)
  k_with "binaryOp FloorDiv int int" => (k_here; refine floordiv_int (by first | decide | omega) ?_ (Or.inl (noPyl (by first | decide | omega) (by first | decide | omega))))
  k_with "newTuple" => (k_here; k_dflt (refine' newTuple_mine ?k1 ?k2 ?_ ?k3; (case k1 => k_asm); (case k2 => k_asm); (case k3 => first | decide | (exact Nat.le_of_ble_eq_true rfl) | (simp only [sizeLine_eq]; simp))); intro D' h' F' N' l1 l2; (try k_lt l1); (try k_lt2 l2); (try k_sweep))
  k_with "binaryOp Mult int int" => (k_here; refine mul_int ?_ (by first | exact mulOk60 (by omega) (by omega) (by omega) (by omega) | mul_fits))
  k_with "call builtin:len" => (k_here; refine r_len (by first | omega | (simp only [List.length_append, List.length_cons, List.length_nil]; omega)) ?_; intro t9 k9)
  k_with "subscriptTail Attribute Attribute str int" => (k_here; (with_reducible show wpAny _ _ (subscriptTail _ _ (Value.str (S _) _) (Value.int _ _)) _ _ _); k_dflt (refine r_item (by omega) (by omega) (by omega) ?_); intro t9 k9)
  k_with "compareOp In str str" => (k_here; refine r_in ?_)
  k_with "subscriptTail Attribute Slice str ref" => (k_here; (with_reducible show wpAny _ _ (subscriptTail _ (Expr.Slice (some _) (some _) none _) (Value.str (S _) _) (Value.ref _)) _ _ _); (with_reducible rename Fr _ _ _ _ => Fz); (with_reducible rename News _ _ _ _ => Nz); k_dflt (refine r_slice (s := ⟨_, _, _, _, _⟩) Fz Nz (by omega) (by omega) (by omega) (by omega) ?_); intro h9 t9 k9 F9 N9; (try k_sweep))
  k_with "compareOp Eq str str" => (k_here; first | refine r_eq_f (by assumption) ?_ | refine r_eq_t (by assumption) ?_ | refine r_eq ?_)
  k_with "compareOp NotEq str str" => (k_here; first | refine r_ne_t (by assumption) ?_ | refine r_ne_f (by assumption) ?_ | refine r_ne ?_)
  k_with "compareOp Eq str str" => (k_here; first | refine r_eqx_f (by with_reducible assumption) ?_ | refine r_eqx_t (by with_reducible assumption) ?_)
  k_with "ite" => (first | refine if_f ?_ | refine if_t ?_)
  k_with "eval Dict" => (k_here; k_dflt (refine' kdn_str ?q ?F ?N ?b ?a ?l ?e ?n ?_; (case q => rfl); (case F => k_asm); (case N => k_asm); (case b => exact Top.nolimit (by k_asm)); (case a => rfl); (case l => rfl); (case e => exact List.cons_ne_nil _ _); (case n => exact Nat.le_of_ble_eq_true rfl)); intro d' h' o' F' N' l1 lo' hd'; (try k_lt l1); (try k_sweep))
  k_with "call ref" => (k_here; (with_reducible show wpAny _ _ (call (Value.ref 95) _ _) _ _ _); first | ((with_reducible rename Fr _ _ _ _ => Fz); (with_reducible rename News _ _ _ _ => Nz); (k_dflt (refine' times_spec (rd_of ?B Fz ?X ?T rfl rfl ?d ?u) ?p0 ?p1 ?p2 ?p3 ?p4 ?p5 ?p6 ?p7 ?p8 ?p9 ?_; (case B => assumption); (case X => assumption); (case T => assumption); (case d => (first | ((with_reducible apply dle); (with_reducible assumption); exact rfl) | omega)); (case u => (first | ((with_reducible apply ule); (with_reducible assumption); exact rfl) | omega)); (case p0 => (first | exact Nz.get (by k_mem) | exact Fz.keep _ _ (by with_reducible assumption) | exact Fz.keep _ _ (by assumption) | exact Fz.keep _ _ ((by assumption : Frag.In _ _) _ _ (by k_is)))); (case p1 => (first | exact Nz.get (by with_reducible assumption) | exact Nz.get (by k_mem) | exact Fz.keep _ _ (by with_reducible assumption) | exact Fz.keep _ _ (by assumption) | exact Fz.keep _ _ ((by assumption : Frag.In _ _) _ _ (by k_is)))); (case p2 => (first | with_reducible assumption | omega)); (case p3 => (first | with_reducible assumption | omega)); (case p4 => (first | with_reducible assumption | omega)); (case p5 => (first | with_reducible assumption | omega)); (case p6 => (first | with_reducible assumption | omega)); (case p7 => (first | with_reducible assumption | omega)); (case p8 => (first | with_reducible assumption | omega)); (case p9 => (first | with_reducible assumption | omega)); k_whole)); intro r9 t9 u9 h9 tk9 st9 hl9 hr9; k_dflt ((refine back1_k Fz Nz st9 hl9 hr9 ?_; intro F9 N9 l9 m9)); clear Fz Nz st9 hl9 hr9; (try k_lt l9); (try k_lt2 m9); (try dsimp only); (try k_fold)) | refine Stop.go ?_)
  k_with "call ref" => (k_here; (with_reducible show wpAny _ _ (call (Value.ref 102) _ _) _ _ _); first | ((with_reducible rename Fr _ _ _ _ => Fz); (with_reducible rename News _ _ _ _ => Nz); (k_dflt (refine' divided_spec (rd_of ?B Fz ?X ?T rfl rfl ?d ?u) ?p0 ?p1 ?p2 ?p3 ?p4 ?p5 ?p6 ?p7 ?p8 ?p9 ?_; (case B => assumption); (case X => assumption); (case T => assumption); (case d => (first | ((with_reducible apply dle); (with_reducible assumption); exact rfl) | omega)); (case u => (first | ((with_reducible apply ule); (with_reducible assumption); exact rfl) | omega)); (case p0 => (first | exact Nz.get (by k_mem) | exact Fz.keep _ _ (by with_reducible assumption) | exact Fz.keep _ _ (by assumption) | exact Fz.keep _ _ ((by assumption : Frag.In _ _) _ _ (by k_is)))); (case p1 => (first | exact Nz.get (by k_mem) | exact Fz.keep _ _ (by with_reducible assumption) | exact Fz.keep _ _ (by assumption) | exact Fz.keep _ _ ((by assumption : Frag.In _ _) _ _ (by k_is)))); (case p2 => (first | with_reducible assumption | omega)); (case p3 => (first | with_reducible assumption | omega)); (case p4 => (first | with_reducible assumption | omega)); (case p5 => (first | with_reducible assumption | omega)); (case p6 => (first | with_reducible assumption | omega)); (case p7 => (first | with_reducible assumption | omega)); (case p8 => (first | with_reducible assumption | omega)); (case p9 => (first | with_reducible assumption | omega)); k_whole)); intro r9 t9 u9 h9 tk9 st9 hl9 hr9; k_dflt ((refine back1_k Fz Nz st9 hl9 hr9 ?_; intro F9 N9 l9 m9)); clear Fz Nz st9 hl9 hr9; (try k_lt l9); (try k_lt2 m9); (try dsimp only); (try k_fold)) | refine Stop.go ?_)
  k_with "call ref" => (k_here; (with_reducible show wpAny _ _ (call (Value.ref 222) _ _) _ _ _); first | ((with_reducible rename Fr _ _ _ _ => Fz); (with_reducible rename News _ _ _ _ => Nz); (k_dflt (refine' unit_of_spec' (rd_of ?B Fz ?X ?T rfl rfl ?d ?u) ?p0 ?p1 ?_; (case B => assumption); (case X => assumption); (case T => assumption); (case d => (first | ((with_reducible apply dle); (with_reducible assumption); exact rfl) | omega)); (case u => (first | ((with_reducible apply ule); (with_reducible assumption); exact rfl) | omega)); (case p0 => (first | with_reducible assumption | omega)); (case p1 => (with_reducible assumption)); k_whole)); intro r9 t9 u9 h9 tk9 st9 hl9 hr9; k_dflt ((refine back1_k Fz Nz st9 hl9 hr9 ?_; intro F9 N9 l9 m9)); clear Fz Nz st9 hl9 hr9; (try k_lt l9); (try k_lt2 m9); (try dsimp only); (try k_fold)) | refine Stop.go ?_)
  k_with "call ref" => (k_here; (with_reducible show wpAny _ _ (call (Value.ref 186) _ _) _ _ _); first | ((with_reducible rename Fr _ _ _ _ => Fz); (with_reducible rename News _ _ _ _ => Nz); (k_dflt (refine' read_decimal_spec (rd_of ?B Fz ?X ?T rfl rfl ?d ?u) ?p0 ?p1 ?_; (case B => assumption); (case X => assumption); (case T => assumption); (case d => (first | ((with_reducible apply dle); (with_reducible assumption); exact rfl) | omega)); (case u => (first | ((with_reducible apply ule); (with_reducible assumption); exact rfl) | omega)); (case p0 => (first | with_reducible assumption | omega)); (case p1 => (first | with_reducible assumption | omega)); k_whole)); intro r9 t9 u9 h9 tk9 st9 hl9 hr9; k_dflt ((refine back1_k Fz Nz st9 hl9 hr9 ?_; intro F9 N9 l9 m9)); clear Fz Nz st9 hl9 hr9; (try k_lt l9); (try k_lt2 m9); (try dsimp only); (try k_fold)) | refine Stop.go ?_)
  k_with "subscriptTail Name Name ref str" => (k_here; refine Stop.go ?_)
  trivial
theorem item7 {u : Str} {d0 d1 d2 d3 d4 d5 d6 : Addr} {t0 t1 t2 t3 t4 t5 t6 u0 u1 u2 u3 u4 u5 u6 : Tok} {news : List (Addr × Obj)} {o : Obj} {pg : Program} {w : World} {g h : Heap} {L : Addr} {G : Prop}
    (hu : u ∈ units7) (_ : News g L h news) (_ : o.IsDictOf (PySem.strKind pg w) [(Str.ofString "", .ref d0), (Str.ofString "px", .ref d1), (Str.ofString "pt", .ref d2), (Str.ofString "pc", .ref d3), (Str.ofString "mm", .ref d4), (Str.ofString "cm", .ref d5), (Str.ofString "in", .ref d6)])
    (m0 : (d0, tup2 1 1 t0 u0) ∈ news) (m1 : (d1, tup2 1 1 t1 u1) ∈ news) (m2 : (d2, tup2 4 3 t2 u2) ∈ news) (m3 : (d3, tup2 16 1 t3 u3) ∈ news) (m4 : (d4, tup2 480 127 t4 u4) ∈ news) (m5 : (d5, tup2 4800 127 t5 u5) ∈ news) (m6 : (d6, tup2 96 1 t6 u6) ∈ news)
    (k : ∀ D x y t t', valueAt [(Str.ofString "", .ref d0), (Str.ofString "px", .ref d1), (Str.ofString "pt", .ref d2), (Str.ofString "pc", .ref d3), (Str.ofString "mm", .ref d4), (Str.ofString "cm", .ref d5), (Str.ofString "in", .ref d6)] u = some (.ref D) → (D, tup2 x y t t') ∈ news → sizeOf7 u = (x, y) → 0 < x → x ≤ 4800 → 0 < y → y ≤ 127 → G) : G := by
  have go : ∀ {v : Str} {D : Addr} {x y : Int} {t t' : Tok}, u = v → valueAt [(Str.ofString "", .ref d0), (Str.ofString "px", .ref d1), (Str.ofString "pt", .ref d2), (Str.ofString "pc", .ref d3), (Str.ofString "mm", .ref d4), (Str.ofString "cm", .ref d5), (Str.ofString "in", .ref d6)] v = some (.ref D) → (D, tup2 x y t t') ∈ news → decide (sizeOf7 v = (x, y) ∧ 0 < x ∧ x ≤ 4800 ∧ 0 < y ∧ y ≤ 127) = true → G := fun e hv hm hd => by
    subst e
    have h := of_decide_eq_true hd
    exact k _ _ _ _ _ hv hm h.1 h.2.1 h.2.2.1 h.2.2.2.1 h.2.2.2.2
  rcases List.mem_cons.mp hu with e | hu
  · exact go e rfl m0 (by decide +kernel)
  rcases List.mem_cons.mp hu with e | hu
  · exact go e rfl m1 (by decide +kernel)
  rcases List.mem_cons.mp hu with e | hu
  · exact go e rfl m2 (by decide +kernel)
  rcases List.mem_cons.mp hu with e | hu
  · exact go e rfl m3 (by decide +kernel)
  rcases List.mem_cons.mp hu with e | hu
  · exact go e rfl m4 (by decide +kernel)
  rcases List.mem_cons.mp hu with e | hu
  · exact go e rfl m5 (by decide +kernel)
  exact go (List.mem_singleton.mp hu) rfl m6 (by decide +kernel)
theorem lengthA_spec {w : World} {A : Around} {s : Shared} {l nl : List Nat} {u : Str} {tl : Tok} {a b w1 w2 f1 f2 : Int} {wa fa : Addr} {tw tw' tf tf' : Tok} {args : Args} {Q E : Value → Shared → Prop}
    (R : Rd (hd.heap_1 w.params) 8 A s.heap s) (hb : ∀ oc od fd osl, List.lookup 231 (hd.heap_1 w.params) = some ⟨oc, od, .func fd, osl⟩ → BindsTo s fd args [(Str.ofString "text", .str (S l) tl), (Str.ofString "whole", .ref wa), (Str.ofString "font_size", .ref fa)]) (hlen : l.length ≤ 1000) (hU : unitOf l = (nl, u)) (ht : readDec nl = some (a, b)) (hw : s.heap.get? wa = some (tup2 w1 w2 tw tw')) (hf : s.heap.get? fa = some (tup2 f1 f2 tf tf')) (ha0 : -1000000000000000000000000000000 < a) (ha1 : a < 1000000000000000000000000000000) (hb0 : 0 < b) (hb1 : b < 1000000000000000000000000000000) (hw10 : -1000000000000000000000000000000 < w1) (hw11 : w1 < 1000000000000000000000000000000) (hw20 : 0 < w2) (hw21 : w2 < 1000000000000000000000000000000) (hf10 : -1000000000000000000000000000000 < f1) (hf11 : f1 < 1000000000000000000000000000000) (hf20 : 0 < f2) (hf21 : f2 < 1000000000000000000000000000000) (hp : u = Str.ofString "%" → (-1000000000000000000000000000000 < (timesF (a, b) (w1, w2)).1 ∧ (timesF (a, b) (w1, w2)).1 < 1000000000000000000000000000000 ∧ 0 < (timesF (a, b) (w1, w2)).2 ∧ (timesF (a, b) (w1, w2)).2 < 1000000000000000000000000000000))
    (hret : ∀ r t t' h' tk', s.heap.StaysIn h' → s.heap.objs.size ≤ r → h'.get? r = some (tup2 (lengthF u (a, b) (w1, w2) (f1, f2)).1 (lengthF u (a, b) (w1, w2) (f1, f2)).2 t t') → Q (.ref r) { s with heap := h', toks := tk' }) :
    wpAny (model PySem.Challenge.rw_pf0197_01.row.prog w) A (call (.ref 231) args.pos args.kw) Q E s := by
  revert R hb; k_fill; intro R hb
  refine' enter (news := []) (args := args) (binds := [(Str.ofString "text", .str (S l) tl), (Str.ofString "whole", .ref wa), (Str.ofString "font_size", .ref fa)]) R ?foot ?ho ?hcd ?hbind ?hloc ?h ?hcell ?hco ?hgen ?hk
  case foot => intro p hp; cases hp
  case ho => k_is
  case hcd => k_is
  case hbind => exact hb _ _ _ _ (by k_is)
  case hloc => exact locs rfl
  case hcell => decide
  case hco => exact rfl
  case hgen => exact rfl
  case hk => exact rfl
  clear R
  intro base dp un outer p loose mean mg mb L h₁ F' N' B' X' T' hDp hUn hl hs hA
  clear hA
  (try dsimp only); (try k_fold)
  have hum := unitOf_mem l
  have hul' : nl.length ≤ 1000 := by have h := unitOf_len l; rw [hU] at h; dsimp only at h; omega
  rw [hU] at hum
  dsimp only at hum
  k_steps
  all_goals (with_reducible rename News _ _ _ _ => Nz)
  · (with_reducible rename (u == Str.ofString "%") = true => hu1)
    replace hu1 := eq_of_beq hu1
    refine Stop.out ?_
    have hpx := hp hu1
    have hp1 := hpx.1
    have hp2 := hpx.2.1
    have hp3 := hpx.2.2.1
    have hp4 := hpx.2.2.2
    clear hp hum hpx
    k_steps
    (with_reducible rename Fr _ _ _ _ => Fz)
    (with_reducible rename News _ _ _ _ => Nz)
    unfold lengthF at hret
    rw [if_pos hu1] at hret
    exact hret _ _ _ _ _ Fz.keep (under hs (by assumption)) (Nz.get (List.mem_cons_self ..))
  · (with_reducible rename (u == Str.ofString "%") = false => hu1)
    (with_reducible rename (u == Str.ofString "em") = true => hu2)
    replace hu1 := ne_of_beq_false hu1
    replace hu2 := eq_of_beq hu2
    (with_reducible rename Fr _ _ _ _ => Fz)
    unfold lengthF at hret
    rw [if_neg hu1, if_pos hu2] at hret
    exact hret _ _ _ _ _ Fz.keep (under hs (by assumption)) (Nz.get (List.mem_cons_self ..))
  · (with_reducible rename (u == Str.ofString "%") = false => hu1)
    (with_reducible rename (u == Str.ofString "em") = false => hu2)
    replace hu1 := ne_of_beq_false hu1
    replace hu2 := ne_of_beq_false hu2
    refine Stop.out ?_
    clear hp
    (with_reducible rename Obj.IsDictOf _ _ _ => hdz)
    refine item7 (hum.elim (fun q => absurd q hu1) fun q => q.elim (fun q => absurd q hu2) fun q => q) Nz hdz (by k_mem) (by k_mem) (by k_mem) (by k_mem) (by k_mem) (by k_mem) (by k_mem) ?_
    intro dz xz yz tz tz' hvz hmz hxz hx0 hx1 hy0 hy1
    clear hum
    refine r_item_dict Nz (by k_mem) hdz hvz ?_
    clear hdz hvz
    (try dsimp only)
    k_steps
    (with_reducible rename Fr _ _ _ _ => Fz)
    (with_reducible rename News _ _ _ _ => Nz)
    unfold lengthF at hret
    rw [if_neg hu1, if_neg hu2, hxz] at hret
    exact hret _ _ _ _ _ Fz.keep (under hs (by assumption)) (Nz.get (List.mem_cons_self ..))
theorem length_spec {w : World} {A : Around} {s : Shared} {l nl : List Nat} {u : Str} {tl : Tok} {a b w1 w2 f1 f2 : Int} {wa fa : Addr} {tw tw' tf tf' : Tok} {Q E : Value → Shared → Prop}
    (R : Rd (hd.heap_1 w.params) 8 A s.heap s) (hlen : l.length ≤ 1000) (hU : unitOf l = (nl, u)) (ht : readDec nl = some (a, b)) (hw : s.heap.get? wa = some (tup2 w1 w2 tw tw')) (hf : s.heap.get? fa = some (tup2 f1 f2 tf tf')) (ha0 : -1000000000000000000000000000000 < a) (ha1 : a < 1000000000000000000000000000000) (hb0 : 0 < b) (hb1 : b < 1000000000000000000000000000000) (hw10 : -1000000000000000000000000000000 < w1) (hw11 : w1 < 1000000000000000000000000000000) (hw20 : 0 < w2) (hw21 : w2 < 1000000000000000000000000000000) (hf10 : -1000000000000000000000000000000 < f1) (hf11 : f1 < 1000000000000000000000000000000) (hf20 : 0 < f2) (hf21 : f2 < 1000000000000000000000000000000) (hp : u = Str.ofString "%" → (-1000000000000000000000000000000 < (timesF (a, b) (w1, w2)).1 ∧ (timesF (a, b) (w1, w2)).1 < 1000000000000000000000000000000 ∧ 0 < (timesF (a, b) (w1, w2)).2 ∧ (timesF (a, b) (w1, w2)).2 < 1000000000000000000000000000000))
    (hret : ∀ r t t' h' tk', s.heap.StaysIn h' → s.heap.objs.size ≤ r → h'.get? r = some (tup2 (lengthF u (a, b) (w1, w2) (f1, f2)).1 (lengthF u (a, b) (w1, w2) (f1, f2)).2 t t') → Q (.ref r) { s with heap := h', toks := tk' }) :
    wpAny (model PySem.Challenge.rw_pf0197_01.row.prog w) A (call (.ref 231) [.str (S l) tl, .ref wa, .ref fa] []) Q E s := by
  revert R; k_fill; intro R
  refine lengthA_spec (tl := tl) (args := ⟨[.str (S l) tl, .ref wa, .ref fa], []⟩) R ?_ hlen hU ht hw hf ha0 ha1 hb0 hb1 hw10 hw11 hw20 hw21 hf10 hf11 hf20 hf21 hp hret
  intro oc od fd osl e
  have e2 := e.symm.trans (show List.lookup 231 _ = some ⟨_, _, .func _, _⟩ by k_is)
  injection e2 with e2
  injection e2 with _ _ e2 _
  injection e2 with e2
  subst e2
  exact binds_K (R.X.keeps R.st) rfl (by k_is) rfl rfl rfl
end Mine
end
section --C12
set_option maxHeartbeats 1600000
namespace Mine
theorem length2_spec {w : World} {A : Around} {s : Shared} {l nl : List Nat} {u : Str} {tl : Tok} {a b w1 w2 : Int} {wa : Addr} {tw tw' : Tok} {Q E : Value → Shared → Prop}
    (R : Rd (hd.heap_1 w.params) 8 A s.heap s) (hlen : l.length ≤ 1000) (hU : unitOf l = (nl, u)) (ht : readDec nl = some (a, b)) (hw : s.heap.get? wa = some (tup2 w1 w2 tw tw')) (ha0 : -1000000000000000000000000000000 < a) (ha1 : a < 1000000000000000000000000000000) (hb0 : 0 < b) (hb1 : b < 1000000000000000000000000000000) (hw10 : -1000000000000000000000000000000 < w1) (hw11 : w1 < 1000000000000000000000000000000) (hw20 : 0 < w2) (hw21 : w2 < 1000000000000000000000000000000) (hp : u = Str.ofString "%" → (-1000000000000000000000000000000 < (timesF (a, b) (w1, w2)).1 ∧ (timesF (a, b) (w1, w2)).1 < 1000000000000000000000000000000 ∧ 0 < (timesF (a, b) (w1, w2)).2 ∧ (timesF (a, b) (w1, w2)).2 < 1000000000000000000000000000000))
    (hret : ∀ r t t' h' tk', s.heap.StaysIn h' → s.heap.objs.size ≤ r → h'.get? r = some (tup2 (lengthF u (a, b) (w1, w2) (16, 1)).1 (lengthF u (a, b) (w1, w2) (16, 1)).2 t t') → Q (.ref r) { s with heap := h', toks := tk' }) :
    wpAny (model PySem.Challenge.rw_pf0197_01.row.prog w) A (call (.ref 231) [.str (S l) tl, .ref wa] []) Q E s := by
  revert R; k_fill; intro R
  have hf : s.heap.get? 223 = some (tup2 16 1 466 467) := R.st _ _ (R.X _ _ (by k_is))
  refine lengthA_spec (tl := tl) (args := ⟨[.str (S l) tl, .ref wa], []⟩) (fa := 223) R ?_ hlen hU ht hw hf ha0 ha1 hb0 hb1 hw10 hw11 hw20 hw21 (by decide) (by decide) (by decide) (by decide) hp hret
  intro oc od fd osl e
  have e2 := e.symm.trans (show List.lookup 231 _ = some ⟨_, _, .func _, _⟩ by k_is)
  injection e2 with e2
  injection e2 with _ _ e2 _
  injection e2 with e2
  subst e2
  exact binds_K (R.X.keeps R.st) rfl (by k_is) rfl rfl rfl
end Mine
end
section --S0
namespace Mine
noncomputable abbrev srcO (a b : Int) (ta tb : Tok) : Obj := listOf #[.int a ta, .int b tb] 0
section
variable {prog : Program} {w : World} {A : Around} {E : Value → Shared → Prop} {s : Shared} {h₀ : Heap} {L D : Addr} {m : Str → Option Value} {news news' : List (Addr × Obj)} {a b x : Int} {ta tb t u : Tok} {value slice : Expr}
theorem src_item0 {Q : Value → Shared → Prop} (N : News h₀ L s.heap news) (hm : (D, srcO a b ta tb) ∈ news) (h : ∀ t, Q (.int a t) s)
    (hs : subscripted slice false (.ref D) (.int 0 u) = operate [.ref D, .int 0 u] (getItem (.ref D) (.int 0 u)) := by with_unfolding_all rfl) :
    wpAny (model prog w) A (subscriptTail value slice (.ref D) (.int 0 u)) Q E s :=
  ksa_sub (vs := [.int a ta, .int b tb]) (ns := [a, b]) (n := 0) (k := 0) N hm (.cons _ _ (.cons _ _ .nil)) (by decide) (by simp) (by decide) h hs
theorem src_item1 {Q : Value → Shared → Prop} (N : News h₀ L s.heap news) (hm : (D, srcO a b ta tb) ∈ news) (h : ∀ t, Q (.int b t) s)
    (hs : subscripted slice false (.ref D) (.int 1 u) = operate [.ref D, .int 1 u] (getItem (.ref D) (.int 1 u)) := by with_unfolding_all rfl) :
    wpAny (model prog w) A (subscriptTail value slice (.ref D) (.int 1 u)) Q E s :=
  ksa_sub (vs := [.int a ta, .int b tb]) (ns := [a, b]) (n := 0) (k := 1) N hm (.cons _ _ (.cons _ _ .nil)) (by decide) (by simp) (by decide) h hs
theorem src_set0 {Q : Unit → Shared → Prop} (F : Fr h₀ L s.heap m) (N : News h₀ L s.heap news) (U : Upd D (srcO a b ta tb) (srcO x b u tb) news news') 
    (h : ∀ h', Fr h₀ L h' m → News h₀ L h' news' → Q () { s with heap := h' }) :
    wpAny (model prog w) A (setItem (.ref D) (.int 0 t) (.int x u)) Q E s :=
  ksa_set (vs := [.int a ta, .int b tb]) (ns := [a, b]) (n := 0) (k := 0) F N U (.cons _ _ (.cons _ _ .nil)) (by decide) (by simp) (by decide) (fun h' f n _ _ _ => h h' f n)
theorem src_set1 {Q : Unit → Shared → Prop} (F : Fr h₀ L s.heap m) (N : News h₀ L s.heap news) (U : Upd D (srcO a b ta tb) (srcO a x ta u) news news') 
    (h : ∀ h', Fr h₀ L h' m → News h₀ L h' news' → Q () { s with heap := h' }) :
    wpAny (model prog w) A (setItem (.ref D) (.int 1 t) (.int x u)) Q E s :=
  ksa_set (vs := [.int a ta, .int b tb]) (ns := [a, b]) (n := 0) (k := 1) F N U (.cons _ _ (.cons _ _ .nil)) (by decide) (by simp) (by decide) (fun h' f n _ _ _ => h h' f n)
theorem list_of {h : Heap} {vs : Array Value} {n : Nat} (e : h.get? D = some (listOf vs n)) : h.IsList D vs := PySem.IsL.isList (n := n) e
theorem list_item {vs : List Value} {k : Int} {Q : Value → Shared → Prop} (hl : s.heap.IsList D vs.toArray) (h0 : 0 ≤ k) (h1 : k < vs.length) (hz : vs.length < 100) (h : ∀ v, v ∈ vs → Q v s)
    (hs : subscripted slice false (.ref D) (.int k u) = operate [.ref D, .int k u] (getItem (.ref D) (.int k u)) := by with_unfolding_all rfl) :
    wpAny (model prog w) A (subscriptTail value slice (.ref D) (.int k u)) Q E s := by
  have hlt : k.toNat < vs.length := by omega
  exact tail_any hl.typeIs slot_list_getitem.lookup (wpAny_getItem_list hl h0 (by omega) (x := vs[k.toNat]) (by simp [hlt]) (h _ (List.getElem_mem ..))) hs
theorem list_len {vs : List Value} {Q : Value → Shared → Prop} (hl : s.heap.IsList D vs.toArray) (hz : vs.length < 100) (h : ∀ t tk, Q (.int vs.length t) { s with toks := tk }) :
    wpAny (model prog w) A (call (.builtin "len") [.ref D]) Q E s := by
  refine call_len_list hl (by rw [List.size_toArray]; omega) ?_
  have := h (s.toks + 1) (s.toks + 1 + 1)
  simpa using this
end
section
variable {prog : Program} {w : World} {A : Around} {E : Value → Shared → Prop} {s : Shared} {h₀ : Heap} {L D : Addr} {news : List (Addr × Obj)} {x y : Int} {t t' u : Tok} {value slice : Expr} {Q : Value → Shared → Prop}
theorem tupN_item0 (N : News h₀ L s.heap news) (hm : (D, tup2 x y t t') ∈ news) (h : Q (.int x t) s)
    (hs : subscripted slice false (.ref D) (.int 0 u) = operate [.ref D, .int 0 u] (getItem (.ref D) (.int 0 u)) := by with_unfolding_all rfl) :
    wpAny (model prog w) A (subscriptTail value slice (.ref D) (.int 0 u)) Q E s :=
  item_tupleT (l := [.int x t, .int y t']) (j := 0) (tup_isTup (N _ hm).1) (by decide) (by decide) rfl rfl h hs
theorem tupN_item1 (N : News h₀ L s.heap news) (hm : (D, tup2 x y t t') ∈ news) (h : Q (.int y t') s)
    (hs : subscripted slice false (.ref D) (.int 1 u) = operate [.ref D, .int 1 u] (getItem (.ref D) (.int 1 u)) := by with_unfolding_all rfl) :
    wpAny (model prog w) A (subscriptTail value slice (.ref D) (.int 1 u)) Q E s :=
  item_tupleT (l := [.int x t, .int y t']) (j := 1) (tup_isTup (N _ hm).1) (by decide) (by decide) rfl rfl h hs
end
theorem mod_lt {x y : Int} (h : 0 < y) : 0 ≤ Int.fmod x y ∧ Int.fmod x y < y := ⟨Int.fmod_nonneg_of_pos _ h, Int.fmod_lt_of_pos _ h⟩
theorem div_nn {x y : Int} (hx : 0 ≤ x) (h : 0 < y) : 0 ≤ Int.fdiv x y := Int.fdiv_nonneg hx (by omega)
end Mine
end
section --C14
set_option maxHeartbeats 400000
namespace Mine
theorem lnC14a : True := by
  k_with_none
  k_with "a1" => (first | with_reducible assumption | ((with_reducible apply Mine.ltm); (with_reducible assumption); k_mem))
  k_with "a2" => (first | with_reducible exact Mine.lss | with_reducible exact Mine.ltp (by assumption) | with_reducible exact Mine.ltp (Mine.ltp (by assumption)) | with_reducible exact Mine.ltp (Mine.ltp (Mine.ltp (by assumption))) | ((with_reducible refine Mine.lts ?_); first | with_reducible exact Mine.lss | k_memK) | ((with_reducible refine Mine.lts (Mine.lts ?_)); first | with_reducible exact Mine.lss | k_memK) | ((with_reducible refine Mine.lts (Mine.lts (Mine.lts ?_))); k_memK))
  k_with "a3" => (first | k_cls | ((with_reducible apply Mine.ltr); (with_reducible assumption); first | k_memK | k_cls) | ((with_reducible apply Mine.ltr); (with_reducible exact Mine.ltp (by assumption)); first | k_memK | k_cls))
  k_with "a4" => (first | with_reducible exact Mine.neAll (by assumption) | with_reducible exact Mine.neNil | ((with_reducible refine Mine.neCons ?_ ?_); k_ne; k_all))
  k_with "a5" => (first | with_reducible exact Mine.subNil | with_reducible exact Mine.subSame | ((with_reducible refine Mine.subCons ?_ ?_); k_mem; k_subL) | ((with_reducible refine Mine.subApp ?_ ?_); k_subL; k_subL) | ((with_reducible refine Mine.subTail ?_); k_subL))
  k_with "a6" => (first | with_reducible assumption | ((with_reducible show @Ne Nat _ _); first | ((with_reducible refine Mine.nlt ?_); k_memK) | ((with_reducible refine Mine.ngt ?_); k_memK) | (with_reducible exact Ne.symm (by assumption)) | ((with_reducible refine Mine.nlt ?_); k_types) | ((with_reducible refine Mine.ngt ?_); k_types)) | ((with_reducible apply Mine.dq0); (with_reducible assumption); decide) | ((with_reducible apply Mine.dq1); (with_reducible assumption); decide) | ((with_reducible apply Mine.dq2); (with_reducible assumption); decide) | ((with_reducible apply Mine.dq3); (with_reducible assumption); decide) | ((with_reducible apply Mine.dq4); (with_reducible assumption); decide) | ((with_reducible first | apply Mine.il1 | apply Mine.il3); (with_reducible assumption); decide) | ((with_reducible first | apply Mine.il2 | apply Mine.il4); (with_reducible assumption); decide) | ((with_reducible first | apply Mine.iu1 | apply Mine.iu3); (with_reducible assumption); decide) | ((with_reducible first | apply Mine.iu2 | apply Mine.iu4); (with_reducible assumption); decide) | ((with_reducible first | apply Mine.nl3 | apply Mine.nl2); (with_reducible assumption); decide) | ((with_reducible first | apply Mine.nu1 | apply Mine.nu3); (with_reducible assumption); decide) | ((with_reducible first | apply Mine.nu2 | apply Mine.nu4); (with_reducible assumption); decide) | ((with_reducible show @LT.lt Nat _ _ _); first | k_memK | k_types) | decide)
  k_with "a7" => (repeat (rename ∀ _ ∈ (_ : List (Addr × Obj)), @LT.lt Nat _ _ _ => hrw; replace hrw := allLt_of hrw; dsimp only [AllLt] at hrw))
  k_with "a8" => (first | (k_whole; kc_bool) | omega +splitDisjunctions | (k_whole; k_units; omega +splitDisjunctions))
  k_with "a9" => (first | (k_whole; kc_bool) | lia | omega +splitDisjunctions)
  k_with "eval Call" => ((fail_if_success (fail_if_success k_fold)); refine foldL ?_; intro qk ek; walk1)
  k_with "eval BinOp" => ((fail_if_success (fail_if_success k_fold)); refine foldL ?_; intro qk ek; walk1)
  k_with "eval Tuple" => ((fail_if_success (fail_if_success k_fold)); refine foldL ?_; intro qk ek; walk1)
  k_with "isTrue Compare" => ((fail_if_success (fail_if_success k_fold)); refine foldL ?_; intro qk ek; walk1)
  k_with "eval Subscript" => ((fail_if_success (fail_if_success k_fold)); refine foldL ?_; intro qk ek; walk1)
  k_with "exec Assign" => ((fail_if_success (fail_if_success k_fold)); refine foldL ?_; intro qk ek; walk1)
  k_with "eval List" => ((fail_if_success (fail_if_success k_fold)); refine foldL ?_; intro qk ek; walk1)
  k_with "eval Attribute" => ((fail_if_success (fail_if_success k_fold)); refine foldL ?_; intro qk ek; walk1)
  k_with "eval UnaryOp" => ((fail_if_success (fail_if_success k_fold)); refine foldL ?_; intro qk ek; walk1)
  k_with "callWith ref" => ((fail_if_success (fail_if_success k_fold)); refine foldL ?_; intro qk ek; walk1)
  k_with "callWith" => ((fail_if_success (fail_if_success k_fold)); refine foldL ?_; intro qk ek; walk1)
  k_with "exec While" => (k_here; refine Stop.go ?_)
  k_with "binaryOp FloorDiv int int" => (k_here; refine floordiv_int (by first | decide | omega) ?_ (Or.inl (noPyl (by first | decide | omega) (by first | decide | omega))))
  k_with "binaryOp Mult int int" => (k_here; refine mul_int ?_ (by first | exact mulOk60 (by omega) (by omega) (by omega) (by omega) | mul_fits))
  k_with "binaryOp Mod int int" => (k_here; refine mod_int' (by first | decide | omega) ?_)
  k_with "subscriptTail Name Constant ref int" => (k_here; (with_reducible show wpAny _ _ (subscriptTail _ _ (Value.ref _) (Value.int 0 _)) _ _ _); (with_reducible rename News _ _ _ _ => Nz); (k_dflt (refine src_item0 Nz (by k_mem) ?_)); intro t9)
  k_with "subscriptTail Name Constant ref int" => (k_here; (with_reducible show wpAny _ _ (subscriptTail _ _ (Value.ref _) (Value.int 1 _)) _ _ _); (with_reducible rename News _ _ _ _ => Nz); (k_dflt (refine src_item1 Nz (by k_mem) ?_)); intro t9)
  k_with "setItem ref int" => (k_here; (with_reducible show wpAny _ _ (setItem (Value.ref _) (Value.int 0 _) _) _ _ _); (with_reducible rename Fr _ _ _ _ => Fz); (with_reducible rename News _ _ _ _ => Nz); (k_dflt (refine src_set0 Fz Nz (by k_upd) ?_)); clear Fz Nz; intro h9 Fz Nz)
  k_with "setItem ref int" => (k_here; (with_reducible show wpAny _ _ (setItem (Value.ref _) (Value.int 1 _) _) _ _ _); (with_reducible rename Fr _ _ _ _ => Fz); (with_reducible rename News _ _ _ _ => Nz); (k_dflt (refine src_set1 Fz Nz (by k_upd) ?_)); clear Fz Nz; intro h9 Fz Nz)
  trivial
theorem take_spec {w : World} {A : Around} {s : Shared} {x : Addr} {a b n : Int} {ta tb tn : Tok} {g : Heap} {Q E : Value → Shared → Prop}
    (R : Rd (hd.heap_1 w.params) 1 A g s) (hfoot : ∀ p ∈ [(x, srcO a b ta tb)], s.heap.get? p.1 = some p.2 ∧ g.get? p.1 = none) (ha0 : 0 ≤ a) (hb0 : 0 ≤ b) (hb1 : b < 2147483647) (hn0 : 0 < n) (hn1 : n < 1000000)
    (hret : ∀ v tv a' b' ta' tb' h' tk', 0 ≤ v → v < n → 0 ≤ a' → 0 ≤ b' → b' < 2147483647 → g.StaysIn h' → h'.get? x = some (srcO a' b' ta' tb') → Q (.int v tv) { s with heap := h', toks := tk' }) :
    wpAny (model PySem.Challenge.rw_pf0197_01.row.prog w) A (call (.ref 443) [.ref x, .int n tn] []) Q E s := by
  revert R; k_fill; intro R
  refine' enter (news := [(x, srcO a b ta tb)]) (args := ⟨[.ref x, .int n tn], []⟩) (binds := [(Str.ofString "source", .ref x), (Str.ofString "top", .int n tn)]) R ?foot ?ho ?hcd ?hbind ?hloc ?h ?hcell ?hco ?hgen ?hk
  case foot => exact hfoot
  case ho => k_is
  case hcd => k_is
  case hbind => exact BindsTo.of_eq rfl
  case hloc => exact locs rfl
  case hcell => decide
  case hco => exact rfl
  case hgen => exact rfl
  case hk => exact rfl
  clear R
  intro base dp un outer p loose mean mg mb L h₁ F' N' B' X' T' hDp hUn hl hs hA
  clear hA
  (try dsimp only); (try k_fold)
  k_steps
  all_goals (with_reducible rename Fr _ _ _ _ => Fz)
  all_goals (with_reducible rename News _ _ _ _ => Nz)
  · exact hret _ _ _ _ _ _ _ _ (mod_lt hn0).1 (mod_lt hn0).2 (div_nn ha0 hn0) hb0 hb1 Fz.keep (Nz.get (List.mem_cons_self ..))
  · exact hret _ _ _ _ _ _ _ _ (mod_lt hn0).1 (mod_lt hn0).2 ha0 (mod_lt (by decide)).1 (mod_lt (by decide)).2 Fz.keep (Nz.get (List.mem_cons_self ..))
end Mine
end
section --C15
set_option maxHeartbeats 400000
namespace Mine
theorem lnC15a : True := by
  k_with_none
  k_with "a1" => (first | with_reducible assumption | ((with_reducible apply Mine.ltm); (with_reducible assumption); k_mem))
  k_with "a2" => (first | with_reducible exact Mine.lss | with_reducible exact Mine.ltp (by assumption) | with_reducible exact Mine.ltp (Mine.ltp (by assumption)) | with_reducible exact Mine.ltp (Mine.ltp (Mine.ltp (by assumption))) | ((with_reducible refine Mine.lts ?_); first | with_reducible exact Mine.lss | k_memK) | ((with_reducible refine Mine.lts (Mine.lts ?_)); first | with_reducible exact Mine.lss | k_memK) | ((with_reducible refine Mine.lts (Mine.lts (Mine.lts ?_))); k_memK))
  k_with "a3" => (first | k_cls | ((with_reducible apply Mine.ltr); (with_reducible assumption); first | k_memK | k_cls) | ((with_reducible apply Mine.ltr); (with_reducible exact Mine.ltp (by assumption)); first | k_memK | k_cls))
  k_with "a4" => (first | with_reducible exact Mine.neAll (by assumption) | with_reducible exact Mine.neNil | ((with_reducible refine Mine.neCons ?_ ?_); k_ne; k_all))
  k_with "a5" => (first | with_reducible exact Mine.subNil | with_reducible exact Mine.subSame | ((with_reducible refine Mine.subCons ?_ ?_); k_mem; k_subL) | ((with_reducible refine Mine.subApp ?_ ?_); k_subL; k_subL) | ((with_reducible refine Mine.subTail ?_); k_subL))
  k_with "a6" => (first | with_reducible assumption | ((with_reducible show @Ne Nat _ _); first | ((with_reducible refine Mine.nlt ?_); k_memK) | ((with_reducible refine Mine.ngt ?_); k_memK) | (with_reducible exact Ne.symm (by assumption)) | ((with_reducible refine Mine.nlt ?_); k_types) | ((with_reducible refine Mine.ngt ?_); k_types)) | ((with_reducible apply Mine.dq0); (with_reducible assumption); decide) | ((with_reducible apply Mine.dq1); (with_reducible assumption); decide) | ((with_reducible apply Mine.dq2); (with_reducible assumption); decide) | ((with_reducible apply Mine.dq3); (with_reducible assumption); decide) | ((with_reducible apply Mine.dq4); (with_reducible assumption); decide) | ((with_reducible first | apply Mine.il1 | apply Mine.il3); (with_reducible assumption); decide) | ((with_reducible first | apply Mine.il2 | apply Mine.il4); (with_reducible assumption); decide) | ((with_reducible first | apply Mine.iu1 | apply Mine.iu3); (with_reducible assumption); decide) | ((with_reducible first | apply Mine.iu2 | apply Mine.iu4); (with_reducible assumption); decide) | ((with_reducible first | apply Mine.nl3 | apply Mine.nl2); (with_reducible assumption); decide) | ((with_reducible first | apply Mine.nu1 | apply Mine.nu3); (with_reducible assumption); decide) | ((with_reducible first | apply Mine.nu2 | apply Mine.nu4); (with_reducible assumption); decide) | ((with_reducible show @LT.lt Nat _ _ _); first | k_memK | k_types) | decide)
  k_with "a7" => (repeat (rename ∀ _ ∈ (_ : List (Addr × Obj)), @LT.lt Nat _ _ _ => hrw; replace hrw := allLt_of hrw; dsimp only [AllLt] at hrw))
  k_with "a8" => (first | (k_whole; kc_bool) | omega +splitDisjunctions | (k_whole; k_units; omega +splitDisjunctions))
  k_with "a9" => (first | (k_whole; kc_bool) | lia | omega +splitDisjunctions)
  k_with "eval Call" => ((fail_if_success (fail_if_success k_fold)); refine foldL ?_; intro qk ek; walk1)
  k_with "eval BinOp" => ((fail_if_success (fail_if_success k_fold)); refine foldL ?_; intro qk ek; walk1)
  k_with "eval Tuple" => ((fail_if_success (fail_if_success k_fold)); refine foldL ?_; intro qk ek; walk1)
  k_with "isTrue Compare" => ((fail_if_success (fail_if_success k_fold)); refine foldL ?_; intro qk ek; walk1)
  k_with "eval Subscript" => ((fail_if_success (fail_if_success k_fold)); refine foldL ?_; intro qk ek; walk1)
  k_with "exec Assign" => ((fail_if_success (fail_if_success k_fold)); refine foldL ?_; intro qk ek; walk1)
  k_with "eval List" => ((fail_if_success (fail_if_success k_fold)); refine foldL ?_; intro qk ek; walk1)
  k_with "eval Attribute" => ((fail_if_success (fail_if_success k_fold)); refine foldL ?_; intro qk ek; walk1)
  k_with "eval UnaryOp" => ((fail_if_success (fail_if_success k_fold)); refine foldL ?_; intro qk ek; walk1)
  k_with "callWith ref" => ((fail_if_success (fail_if_success k_fold)); refine foldL ?_; intro qk ek; walk1)
  k_with "callWith" => ((fail_if_success (fail_if_success k_fold)); refine foldL ?_; intro qk ek; walk1)
  k_with "exec While" => (k_here; refine Stop.go ?_)
  k_with "binaryOp FloorDiv int int" => (k_here; refine floordiv_int (by first | decide | omega) ?_ (Or.inl (noPyl (by first | decide | omega) (by first | decide | omega))))
  k_with "binaryOp Mult int int" => (k_here; refine mul_int ?_ (by first | exact mulOk60 (by omega) (by omega) (by omega) (by omega) | mul_fits))
  k_with "binaryOp Mod int int" => (k_here; refine mod_int' (by first | decide | omega) ?_)
  k_with "call ref" => (k_here; (with_reducible show wpAny _ _ (call (Value.ref 443) _ _) _ _ _); first | ((with_reducible rename Fr _ _ _ _ => Fz); (with_reducible rename News _ _ _ _ => Nz); (k_dflt (refine' take_spec (rd_hide ?B Fz Nz (sub1 ?M) ?X ?T rfl rfl ?d ?u) (foot1 Nz ?M2) ?p0 ?p1 ?p2 ?p3 ?p4 ?_; (case B => assumption); (case X => assumption); (case T => assumption); (case d => (first | ((with_reducible apply dle); (with_reducible assumption); exact rfl) | omega)); (case u => (first | ((with_reducible apply ule); (with_reducible assumption); exact rfl) | omega)); (case M => k_mem); (case M2 => k_mem); (case p0 => first | with_reducible assumption | omega); (case p1 => first | with_reducible assumption | omega); (case p2 => first | with_reducible assumption | omega); (case p3 => first | with_reducible assumption | omega); (case p4 => first | with_reducible assumption | omega); k_whole)); intro v9 tv9 a9 b9 ta9 tb9 h9 tk9 hv0 hv1 ha0 hb0 hb1 st9 hn9; k_dflt ((refine backU_k Fz Nz hn9 (by k_upd) st9 ?_; intro F9 N9)); clear Fz Nz st9 hn9; (try dsimp only); (try k_fold)) | refine Stop.go ?_)
  k_with "call builtin:len" => (k_here; (with_reducible rename Fr _ _ _ _ => Fz); k_dflt (refine list_len (list_of (Fz.keep _ _ (by assumption))) (by assumption) ?_); intro t9 k9)
  k_with "subscriptTail Name Call ref int" => (k_here; (with_reducible rename Fr _ _ _ _ => Fz); k_dflt (refine list_item (list_of (Fz.keep _ _ (by assumption))) (by assumption) (by assumption) (by assumption) ?_); intro v9 hv9)
  trivial
theorem one_spec {w : World} {A : Around} {s : Shared} {x : Addr} {a b : Int} {ta tb : Tok} {g : Heap} {r : Addr} {vs : List Value} {n : Nat} {Q E : Value → Shared → Prop}
    (R : Rd (hd.heap_1 w.params) 2 A g s) (hth : g.get? r = some (listOf vs.toArray n)) (hfoot : ∀ p ∈ [(x, srcO a b ta tb)], s.heap.get? p.1 = some p.2 ∧ g.get? p.1 = none) (ha0 : 0 ≤ a) (hb0 : 0 ≤ b) (hb1 : b < 2147483647) (hn : 0 < vs.length) (hz : vs.length < 100)
    (hret : ∀ v a' b' ta' tb' h' tk', 0 ≤ a' → 0 ≤ b' → b' < 2147483647 → g.StaysIn h' → h'.get? x = some (srcO a' b' ta' tb') → v ∈ vs → Q v { s with heap := h', toks := tk' }) :
    wpAny (model PySem.Challenge.rw_pf0197_01.row.prog w) A (call (.ref 450) [.ref x, .ref r] []) Q E s := by
  revert R; k_fill; intro R
  refine' enter (news := [(x, srcO a b ta tb)]) (args := ⟨[.ref x, .ref r], []⟩) (binds := [(Str.ofString "source", .ref x), (Str.ofString "things", .ref r)]) R ?foot ?ho ?hcd ?hbind ?hloc ?h ?hcell ?hco ?hgen ?hk
  case foot => exact hfoot
  case ho => k_is
  case hcd => k_is
  case hbind => exact BindsTo.of_eq rfl
  case hloc => exact locs rfl
  case hcell => decide
  case hco => exact rfl
  case hgen => exact rfl
  case hk => exact rfl
  clear R
  intro base dp un outer p loose mean mg mb L h₁ F' N' B' X' T' hDp hUn hl hs hA
  clear hA
  (try dsimp only); (try k_fold)
  have hn0 : (0 : Int) < (vs.length : Int) := by omega
  have hn1 : (vs.length : Int) < 1000000 := by omega
  k_steps
  (with_reducible rename Fr _ _ _ _ => Fz)
  (with_reducible rename News _ _ _ _ => Nz)
  exact hret _ _ _ _ _ _ _ (by assumption) (by assumption) (by assumption) Fz.keep (Nz.get (List.mem_cons_self ..)) (by assumption)
end Mine
end
section --N0
namespace Mine
noncomputable def natL (m : Nat) : List Nat := (Nat.toDigits 10 m).map Char.toNat
noncomputable def intL (n : Int) : List Nat := if n < 0 then 45 :: natL n.natAbs else natL n.natAbs
theorem S_int (n : Int) : Str.ofString (toString n) = S (intL n) := by
  have hs : ∀ x : String, Str.ofString x = S (x.toList.map Char.toNat) := fun x => by
    rw [S_of (Str.ofString x), signs_ofString]
  rw [hs]
  congr 1
  unfold intL
  cases n with
  | ofNat m =>
    rw [if_neg (by show ¬ ((m : Int) < 0); k_extra "a9")]
    show (Nat.repr m).toList.map Char.toNat = _
    rw [Nat.toList_repr]; rfl
  | negSucc m =>
    rw [if_pos (by k_extra "a9")]
    show ("-" ++ Nat.repr (m + 1)).toList.map Char.toNat = _
    rw [String.toList_append, Nat.toList_repr]; rfl
theorem toDigits_len : ∀ (k m : Nat), 0 < k → m < 10 ^ k → (Nat.toDigits 10 m).length ≤ k
  | 0, _, h, _ => absurd h (Nat.lt_irrefl _)
  | k + 1, m, _, h => by
    by_cases hm : m < 10
    · rw [Nat.toDigits_of_lt_base hm]; simp
    · have hk : 0 < k := by
        rcases Nat.eq_zero_or_pos k with e | e
        · subst e; k_extra "a9"
        · exact e
      have t : Nat.toDigits 10 (m / 10) ++ Nat.toDigits 10 (m % 10) = Nat.toDigits 10 (10 * (m / 10) + m % 10) := Nat.toDigits_append_toDigits (by decide) (by k_extra "a9") (Nat.mod_lt _ (by decide))
      rw [Nat.div_add_mod] at t
      rw [← t, List.length_append, Nat.toDigits_of_lt_base (Nat.mod_lt m (by decide) : m % 10 < 10)]
      have := toDigits_len k (m / 10) hk (by rw [Nat.pow_succ] at h; k_extra "a9")
      simp; k_extra "a9"
theorem intL_len {n : Int} (h0 : -1000000000000000000000000000000000000000000000000000000000000 < n) (h1 : n < 1000000000000000000000000000000000000000000000000000000000000) : (intL n).length ≤ 61 := by
  have e : (10 : Nat) ^ 60 = 1000000000000000000000000000000000000000000000000000000000000 := by decide +kernel
  have h : (natL n.natAbs).length ≤ 60 := by
    unfold natL; rw [List.length_map]
    exact toDigits_len 60 _ (by decide) (by rw [e]; k_extra "a9")
  unfold intL
  split
  · simp; k_extra "a9"
  · k_extra "a9"
theorem int_dig : ∀ c, c < 58 → 48 ≤ c → PySem.intText? (S [c]) = some ((c : Int) - 48) := by decide +kernel
theorem log60 {a : Int} (h0 : -1000000000000000000000000000000000000000000000000000000000000 < a) (h1 : a < 1000000000000000000000000000000000000000000000000000000000000) : a.natAbs.log2 < 1920 := by
  by_cases hz : a.natAbs = 0
  · rw [hz]; decide
  · have : a.natAbs.log2 < 200 := (Nat.log2_lt hz).mpr (by
      have e : (2 : Nat) ^ 200 = 1606938044258990275541962092341162602522202993782792835301376 := by decide +kernel
      rw [e]; k_extra "a9")
    k_extra "a9"
section
variable {prog : Program} {w : World} {A : Around} {E : Value → Shared → Prop} {s : Shared} {Q : Value → Shared → Prop} {a : Int} {c : Nat} {t : Tok} {M : Model} {k : Option Str} {pos : Pos} {env : Env} {x : String} {l : List Nat}
theorem r_str (h0 : -1000000000000000000000000000000000000000000000000000000000000 < a) (h1 : a < 1000000000000000000000000000000000000000000000000000000000000)
    (h : ∀ u k, (intL a).length ≤ 61 → Q (.str (S (intL a)) u) { s with toks := k }) : wpAny (model prog w) A (call (.type "str") [.int a t]) Q E s :=
  PySem.P.str_of_int (log60 h0 h1) (by
    have := h s.toks (s.toks + 1) (intL_len h0 h1)
    rw [← S_int] at this
    exact this)
theorem r_int_dig (hc : isDig c = true) (h : ∀ u k, Q (.int ((c : Int) - 48) u) { s with toks := k }) : wpAny (model prog w) A (call (.type "int") [.str (S [c]) t]) Q E s := by
  obtain ⟨h0, h1⟩ := isDig_iff.mp hc
  exact KIN.call_text (int_dig c (by k_extra "a9") h0) (by rw [S_len]; simp) (h _ _)
end
theorem const_lit {M : Model} {env : Env} {A : Around} {E : Value → Shared → Prop} {s : Shared} {Q : Value → Shared → Prop} {k pos} {x : String} {l : List Nat} (e : Str.ofString x = S l) (h : ∀ t k, Q (.str (S l) t) { s with toks := k }) : wpAny M A (eval (.Constant (.str (Str.ofString x)) k pos) env) Q E s :=
  wpAny_Constant_str (by rw [e]; exact h _ _)
inductive TextsAre : List Value → List (List Nat) → Prop
  | nil : TextsAre [] []
  | cons {l t vs ls} : TextsAre vs ls → TextsAre (.str (S l) t :: vs) (l :: ls)
theorem texts_mem {v : Value} {vs ls} (h : TextsAre vs ls) : v ∈ vs → ∃ l t, v = .str (S l) t ∧ l ∈ ls := by
  induction h with
  | nil => exact fun h => absurd h List.not_mem_nil
  | cons r ih => exact fun h => (List.mem_cons.mp h).elim (fun e => ⟨_, _, e, .head _⟩) fun h => (ih h).elim fun l q => q.elim fun t q => ⟨l, t, q.1, .tail _ q.2⟩
theorem texts_len {vs ls} (h : TextsAre vs ls) : vs.length = ls.length := by
  induction h with
  | nil => rfl
  | cons r ih => rw [List.length_cons, List.length_cons, ih]
theorem lit_dot : Str.ofString "." = S [46] := by decide +kernel
theorem lit_5 : Str.ofString "5" = S [53] := by decide +kernel
theorem lit_25 : Str.ofString "25" = S [50,53] := by decide +kernel
theorem lit_125 : Str.ofString "125" = S [49,50,53] := by decide +kernel
theorem lit_minus : Str.ofString "-" = S [45] := by decide +kernel
theorem lit_plus : Str.ofString "+" = S [43] := by decide +kernel
theorem lit_e1 : Str.ofString "e1" = S [101,49] := by decide +kernel
theorem lit_em1 : Str.ofString "e-1" = S [101,45,49] := by decide +kernel
theorem lit_E2 : Str.ofString "E+2" = S [69,43,50] := by decide +kernel
theorem lit_em6 : Str.ofString "e-6" = S [101,45,54] := by decide +kernel
theorem lit_pct : Str.ofString "%" = S [37] := by decide +kernel
theorem lit_sp : Str.ofString " " = S [32] := by decide +kernel
theorem lit_comma : Str.ofString "," = S [44] := by decide +kernel
theorem lit_spcomma : Str.ofString " , " = S [32,44,32] := by decide +kernel
noncomputable def figsL : List (List Nat) := [[], [], [53], [50,53], [49,50,53]]
noncomputable def signsL : List (List Nat) := [[], [], [45], [43]]
noncomputable def expsL : List (List Nat) := [[], [], [], [101,49], [101,45,49], [69,43,50]]
noncomputable def powE (e : List Nat) : Int := if e = [101,49] then 1 else if e = [101,45,49] then -1 else if e = [69,43,50] then 2 else 0
noncomputable def topN (w : Int) (fl e : List Nat) : Int := (w * 10 ^ fl.length + wholeL fl) * 10 ^ (max (powE e) 0).toNat
noncomputable def botN (fl e : List Nat) : Int := 10 ^ fl.length * 10 ^ (max (-powE e) 0).toNat
noncomputable def numV (sg : List Nat) (w : Int) (fl e : List Nat) : Int × Int := fr (if sg = [45] then -topN w fl e else topN w fl e) (botN fl e)
noncomputable def numL (sg : List Nat) (w : Int) (fl e : List Nat) : List Nat := sg ++ intL w ++ (if fl = [] then [] else 46 :: fl) ++ e
noncomputable def numCheck (sg : List Nat) (w : Int) (fl e : List Nat) : Bool :=
  decide (readDec (numL sg w fl e) = some (numV sg w fl e)) && decide (-10000 < (numV sg w fl e).1) && decide ((numV sg w fl e).1 < 10000) && decide (0 < (numV sg w fl e).2) && decide ((numV sg w fl e).2 < 100)
   && (numL sg w fl e).all (fun c => decide (c = 43 ∨ c = 45 ∨ c = 46 ∨ (48 ≤ c ∧ c ≤ 57) ∨ c = 69 ∨ c = 101)) && isDig ((numL sg w fl e).getLast?.getD 0) && decide ((numL sg w fl e).length ≤ 20)
noncomputable def figs4 : List (List Nat) := [[], [53], [50,53], [49,50,53]]
noncomputable def signs3 : List (List Nat) := [[], [45], [43]]
noncomputable def exps4 : List (List Nat) := [[], [101,49], [101,45,49], [69,43,50]]
noncomputable def numChk (lo : Nat) : Bool := (List.range' lo 5).all fun w => figs4.all fun fl => signs3.all fun sg => exps4.all fun e => numCheck sg w fl e
theorem num_a0 : numChk 0 = true := by decide +kernel
theorem num_a1 : numChk 5 = true := by decide +kernel
theorem num_a2 : numChk 10 = true := by decide +kernel
theorem num_a3 : numChk 15 = true := by decide +kernel
theorem num_a4 : numChk 20 = true := by decide +kernel
theorem num_a5 : numChk 25 = true := by decide +kernel
theorem num_a6 : numChk 30 = true := by decide +kernel
theorem num_a7 : numChk 35 = true := by decide +kernel
theorem num_part {lo w : Nat} {fl sg e : List Nat} (h : numChk lo = true) (h0 : lo ≤ w) (h1 : w < lo + 5) (hf : fl ∈ figsL) (hs : sg ∈ signsL) (he : e ∈ expsL) : numCheck sg w fl e = true :=
  List.all_eq_true.mp (List.all_eq_true.mp (List.all_eq_true.mp (List.all_eq_true.mp h w (List.mem_range'_1.mpr ⟨h0, h1⟩)) fl ((by decide : ∀ fl ∈ figsL, fl ∈ figs4) fl hf)) sg ((by decide : ∀ sg ∈ signsL, sg ∈ signs3) sg hs)) e ((by decide : ∀ e ∈ expsL, e ∈ exps4) e he)
theorem num_all {w : Nat} {fl sg e : List Nat} (h : w < 40) (hf : fl ∈ figsL) (hs : sg ∈ signsL) (he : e ∈ expsL) : numCheck sg w fl e = true := by
  rcases (by k_extra "a9" : w < 5 ∨ (5 ≤ w ∧ w < 10) ∨ (10 ≤ w ∧ w < 15) ∨ (15 ≤ w ∧ w < 20) ∨ (20 ≤ w ∧ w < 25) ∨ (25 ≤ w ∧ w < 30) ∨ (30 ≤ w ∧ w < 35) ∨ 35 ≤ w) with q | q | q | q | q | q | q | q
  · exact num_part num_a0 (Nat.zero_le _) q hf hs he
  · exact num_part num_a1 q.1 q.2 hf hs he
  · exact num_part num_a2 q.1 q.2 hf hs he
  · exact num_part num_a3 q.1 q.2 hf hs he
  · exact num_part num_a4 q.1 q.2 hf hs he
  · exact num_part num_a5 q.1 q.2 hf hs he
  · exact num_part num_a6 q.1 q.2 hf hs he
  · exact num_part num_a7 q h hf hs he
section
variable {h₀ h : Heap} {L : Addr} {m : Str → Option Value} {x1 x2 x3 x4 x5 x6 : Str} {v1 v2 v3 v4 v5 v6 : Value}
theorem put6F (F : Fr h₀ L h m) (e1 : m x1 = some v1) (e2 : m x2 = some v2) (e3 : m x3 = some v3) (e4 : m x4 = some v4) (e5 : m x5 = some v5) (e6 : m x6 = some v6) :
    Fr h₀ L h (fun y => if y = x1 then some v1 else if y = x2 then some v2 else if y = x3 then some v3 else if y = x4 then some v4 else if y = x5 then some v5 else if y = x6 then some v6 else m y) :=
  putF (putF (putF (putF (putF (putF F e6) (by (repeat' split) <;> simp_all)) (by (repeat' split) <;> simp_all)) (by (repeat' split) <;> simp_all)) (by (repeat' split) <;> simp_all)) (by (repeat' split) <;> simp_all)
theorem name_lt {a b : Int} (_ : a < b) : ∃ w, w = a := ⟨_, rfl⟩
end
theorem figs_dig : ∀ fl ∈ figsL, ∀ c ∈ fl, isDig c = true := by decide
theorem figs_top {w : Int} {fl : List Nat} (h0 : 0 ≤ w) (h1 : w < 40) (hf : fl ∈ figsL) : 0 ≤ w * 10 ^ fl.length + wholeL fl ∧ w * 10 ^ fl.length + wholeL fl < 100000 := by
  have e0 : wholeL [] = 0 := rfl
  have e1 : wholeL [53] = 5 := rfl
  have e2 : wholeL [50,53] = 25 := rfl
  have e3 : wholeL [49,50,53] = 125 := rfl
  simp only [figsL, List.mem_cons, List.not_mem_nil, or_false] at hf
  rcases hf with rfl | rfl | rfl | rfl | rfl
  · rw [e0]; simp; k_extra "a9"
  · rw [e0]; simp; k_extra "a9"
  · rw [e1]; simp; k_extra "a9"
  · rw [e2]; simp; k_extra "a9"
  · rw [e3]; simp; k_extra "a9"
theorem figs_bot : ∀ fl ∈ figsL, (0 : Int) < 10 ^ fl.length ∧ (10 : Int) ^ fl.length < 10000 := by decide
theorem exps_pow : ∀ e ∈ expsL, -1 ≤ powE e ∧ powE e ≤ 2 := by decide
theorem figs_exps : ∀ fl ∈ figsL, ∀ e ∈ expsL, (0 : Int) < 10 ^ fl.length * 10 ^ (max (-powE e) 0).toNat ∧ (10 : Int) ^ fl.length * 10 ^ (max (-powE e) 0).toNat < 1000000000000000000000000000000000000000000000000000000000000 := by decide
theorem num_step {w q P d : Int} : 10 * (w * P + q) + d = w * (P * 10) + (q * 10 + d) := by rw [← Int.mul_assoc]; k_extra "a9"
section
variable {prog : Program} {w : World} {A : Around} {E : Value → Shared → Prop} {s : Shared} {h₀ : Heap} {L d : Addr} {news : List (Addr × Obj)} {o : Obj} {kvs : List (Str × Value)} {x : Str} {t : Tok} {v : Value} {Q : Value → Shared → Prop}
theorem g_item_dict (N : News h₀ L s.heap news) (hp : (d, o) ∈ news) (hd : o.IsDictOf (PySem.strKind prog w) kvs) (hv : valueAt kvs x = some v) (h : Q v { s with toks := s.toks + 1 }) :
    wpAny (model prog w) A (getItem (.ref d) (.str x t)) Q E s := by
  have hD := Heap.dictOf_iff.mpr ⟨o, N.get hp, hd⟩
  exact wpAny_getItem_of (strKind_is prog w x t) hD.mapOf hv h
theorem g_item_dictE {p : Int} (N : News h₀ L s.heap news) (hp : (d, o) ∈ news) (hd : o.IsDictOf (PySem.strKind prog w) kvs) (hv : ∃ t, valueAt kvs x = some (.int p t)) (h : ∀ t, Q (.int p t) { s with toks := s.toks + 1 }) :
    wpAny (model prog w) A (getItem (.ref d) (.str x t)) Q E s := by
  obtain ⟨u, hv⟩ := hv
  exact g_item_dict N hp hd hv (h u)
end
section
variable {prog : Program} {w : World} {A : Around} {E : Value → Shared → Prop} {s : Shared} {h₀ : Heap} {L : Addr} {m : Str → Option Value} {news : List (Addr × Obj)}
theorem r_max {a b : Int} {t u : Tok} {Q : Value → Shared → Prop} (hh : A.handled = none) (F : Fr h₀ L s.heap m) (N : News h₀ L s.heap news)
    (h : ∀ v h' tk, Fr h₀ L h' m → News h₀ L h' news → Q (.int (max a b) v) { s with heap := h', toks := tk }) :
    wpAny (model prog w) A (call (.builtin "max") [.int a t, .int b u]) Q E s :=
  max_two_N hh F N fun h' tk f n => by
    have e : (if b > a then b else a) = max a b := by k_extra "a9"
    rw [e]; exact h _ _ _ f n
end
theorem exps_val {t0 t1 t2 t3 : Tok} {l : List Nat} (h : l ∈ expsL) : ∃ t, valueAt [(S [], .int 0 t0), (S [101,49], .int 1 t1), (S [101,45,49], .int (-1) t2), (S [69,43,50], .int 2 t3)] (S l) = some (.int (powE l) t) := by
  simp only [expsL, List.mem_cons, List.not_mem_nil, or_false] at h
  have ne : ∀ {a b : List Nat}, a ≠ b → (S a == S b) = false := fun {a b} h => by
    rw [beq_eq_false_iff_ne]; exact fun e => h (S_inj e)
  rcases h with rfl | rfl | rfl | rfl | rfl | rfl <;> exact ⟨_, by with_unfolding_all rfl⟩
theorem top_step {w : Int} {pre : List Nat} {c : Nat} : 10 * (w * 10 ^ pre.length + wholeL pre) + ((c : Int) - 48) = w * 10 ^ (pre ++ [c]).length + wholeL (pre ++ [c]) := by
  rw [wholeL_snoc, List.length_append, List.length_singleton, Int.pow_succ, ← num_step]
theorem bot_step {pre : List Nat} {c : Nat} : (10 : Int) * 10 ^ pre.length = 10 ^ (pre ++ [c]).length := by
  rw [List.length_append, List.length_singleton, Int.pow_succ, Int.mul_comm]
end Mine
end
section --C16
set_option maxHeartbeats 400000
namespace Mine
theorem oneT_spec {w : World} {A : Around} {s : Shared} {x : Addr} {a b : Int} {ta tb : Tok} {g : Heap} {r : Addr} {vs : List Value} {ls : List (List Nat)} {n : Nat} {Q E : Value → Shared → Prop}
    (R : Rd (hd.heap_1 w.params) 2 A g s) (hth : g.get? r = some (listOf vs.toArray n)) (hfoot : ∀ p ∈ [(x, srcO a b ta tb)], s.heap.get? p.1 = some p.2 ∧ g.get? p.1 = none) (ha0 : 0 ≤ a) (hb0 : 0 ≤ b) (hb1 : b < 2147483647) (ht : TextsAre vs ls) (hn : 0 < ls.length) (hz : ls.length < 100) (hlen : ∀ l ∈ ls, l.length ≤ 20)
    (hret : ∀ l t a' b' ta' tb' h' tk', 0 ≤ a' → 0 ≤ b' → b' < 2147483647 → g.StaysIn h' → h'.get? x = some (srcO a' b' ta' tb') → l ∈ ls → l.length ≤ 20 → Q (.str (S l) t) { s with heap := h', toks := tk' }) :
    wpAny (model PySem.Challenge.rw_pf0197_01.row.prog w) A (call (.ref 450) [.ref x, .ref r] []) Q E s := by
  have hl := texts_len ht
  refine one_spec R hth hfoot ha0 hb0 hb1 (by omega) (by omega) ?_
  intro v a' b' ta' tb' h' tk' h1 h2 h3 h4 h5 h6
  obtain ⟨l, t, rfl, hm⟩ := texts_mem ht h6
  exact hret l t a' b' ta' tb' h' tk' h1 h2 h3 h4 h5 hm (hlen l hm)
end Mine
end
section --C17
set_option maxHeartbeats 4000000
namespace Mine
theorem lnC17a : True := by
  k_with_none
  k_with "a1" => (first | with_reducible assumption | ((with_reducible apply Mine.ltm); (with_reducible assumption); k_mem))
  k_with "a2" => (first | with_reducible exact Mine.lss | with_reducible exact Mine.ltp (by assumption) | with_reducible exact Mine.ltp (Mine.ltp (by assumption)) | with_reducible exact Mine.ltp (Mine.ltp (Mine.ltp (by assumption))) | ((with_reducible refine Mine.lts ?_); first | with_reducible exact Mine.lss | k_memK) | ((with_reducible refine Mine.lts (Mine.lts ?_)); first | with_reducible exact Mine.lss | k_memK) | ((with_reducible refine Mine.lts (Mine.lts (Mine.lts ?_))); k_memK))
  k_with "a3" => (first | k_cls | ((with_reducible apply Mine.ltr); (with_reducible assumption); first | k_memK | k_cls) | ((with_reducible apply Mine.ltr); (with_reducible exact Mine.ltp (by assumption)); first | k_memK | k_cls))
  k_with "a4" => (first | with_reducible exact Mine.neAll (by assumption) | with_reducible exact Mine.neNil | ((with_reducible refine Mine.neCons ?_ ?_); k_ne; k_all))
  k_with "a5" => (first | with_reducible exact Mine.subNil | with_reducible exact Mine.subSame | ((with_reducible refine Mine.subCons ?_ ?_); k_mem; k_subL) | ((with_reducible refine Mine.subApp ?_ ?_); k_subL; k_subL) | ((with_reducible refine Mine.subTail ?_); k_subL))
  k_with "a6" => (first | with_reducible assumption | ((with_reducible show @Ne Nat _ _); first | ((with_reducible refine Mine.nlt ?_); k_memK) | ((with_reducible refine Mine.ngt ?_); k_memK) | (with_reducible exact Ne.symm (by assumption)) | ((with_reducible refine Mine.nlt ?_); k_types) | ((with_reducible refine Mine.ngt ?_); k_types)) | ((with_reducible apply Mine.dq0); (with_reducible assumption); decide) | ((with_reducible apply Mine.dq1); (with_reducible assumption); decide) | ((with_reducible apply Mine.dq2); (with_reducible assumption); decide) | ((with_reducible apply Mine.dq3); (with_reducible assumption); decide) | ((with_reducible apply Mine.dq4); (with_reducible assumption); decide) | ((with_reducible first | apply Mine.il1 | apply Mine.il3); (with_reducible assumption); decide) | ((with_reducible first | apply Mine.il2 | apply Mine.il4); (with_reducible assumption); decide) | ((with_reducible first | apply Mine.iu1 | apply Mine.iu3); (with_reducible assumption); decide) | ((with_reducible first | apply Mine.iu2 | apply Mine.iu4); (with_reducible assumption); decide) | ((with_reducible first | apply Mine.nl3 | apply Mine.nl2); (with_reducible assumption); decide) | ((with_reducible first | apply Mine.nu1 | apply Mine.nu3); (with_reducible assumption); decide) | ((with_reducible first | apply Mine.nu2 | apply Mine.nu4); (with_reducible assumption); decide) | ((with_reducible show @LT.lt Nat _ _ _); first | k_memK | k_types) | decide)
  k_with "a7" => (repeat (rename ∀ _ ∈ (_ : List (Addr × Obj)), @LT.lt Nat _ _ _ => hrw; replace hrw := allLt_of hrw; dsimp only [AllLt] at hrw))
  k_with "a8" => (first | (k_whole; kc_bool) | omega +splitDisjunctions | (k_whole; k_units; omega +splitDisjunctions))
  k_with "a9" => (first | (k_whole; kc_bool) | lia | omega +splitDisjunctions)
  k_with "eval Call" => ((fail_if_success (fail_if_success k_fold)); refine foldL ?_; intro qk ek; walk1)
  k_with "eval BinOp" => ((fail_if_success (fail_if_success k_fold)); refine foldL ?_; intro qk ek; walk1)
  k_with "eval Tuple" => ((fail_if_success (fail_if_success k_fold)); refine foldL ?_; intro qk ek; walk1)
  k_with "isTrue Compare" => ((fail_if_success (fail_if_success k_fold)); refine foldL ?_; intro qk ek; walk1)
  k_with "eval Subscript" => ((fail_if_success (fail_if_success k_fold)); refine foldL ?_; intro qk ek; walk1)
  k_with "exec Assign" => ((fail_if_success (fail_if_success k_fold)); refine foldL ?_; intro qk ek; walk1)
  k_with "eval List" => ((fail_if_success (fail_if_success k_fold)); refine foldL ?_; intro qk ek; walk1)
  k_with "eval Attribute" => ((fail_if_success (fail_if_success k_fold)); refine foldL ?_; intro qk ek; walk1)
  k_with "eval UnaryOp" => ((fail_if_success (fail_if_success k_fold)); refine foldL ?_; intro qk ek; walk1)
  k_with "callWith ref" => ((fail_if_success (fail_if_success k_fold)); refine foldL ?_; intro qk ek; walk1)
  k_with "callWith" => ((fail_if_success (fail_if_success k_fold)); refine foldL ?_; intro qk ek; walk1)
  k_with "exec While" => (k_here; refine Stop.go ?_)
  k_with "binaryOp FloorDiv int int" => (k_here; refine floordiv_int (by first | decide | omega) ?_ (Or.inl (noPyl (by first | decide | omega) (by first | decide | omega))))
  k_with "newTuple" => (k_here; k_dflt (refine' newTuple_mine ?k1 ?k2 ?_ ?k3; (case k1 => k_asm); (case k2 => k_asm); (case k3 => first | decide | (exact Nat.le_of_ble_eq_true rfl) | (simp only [sizeLine_eq]; simp))); intro D' h' F' N' l1 l2; (try k_lt l1); (try k_lt2 l2); (try k_sweep))
  k_with "binaryOp Mult int int" => (k_here; refine mul_int ?_ (by first | exact mulOk60 (by omega) (by omega) (by omega) (by omega) | mul_fits))
  k_with "binaryOp Mod int int" => (k_here; refine mod_int' (by first | decide | omega) ?_)
  k_with "call builtin:len" => (k_here; refine r_len (by first | omega | (simp only [List.length_append, List.length_cons, List.length_nil]; omega)) ?_; intro t9 k9; (try dsimp only))
  k_with "subscriptTail Attribute Attribute str int" => (k_here; (with_reducible show wpAny _ _ (subscriptTail _ _ (Value.str (S _) _) (Value.int _ _)) _ _ _); k_dflt (refine r_item (by omega) (by omega) (by omega) ?_); intro t9 k9; (try dsimp only))
  k_with "compareOp In str str" => (k_here; refine r_in ?_)
  k_with "subscriptTail Attribute Slice str ref" => (k_here; (with_reducible show wpAny _ _ (subscriptTail _ (Expr.Slice (some _) (some _) none _) (Value.str (S _) _) (Value.ref _)) _ _ _); (with_reducible rename Fr _ _ _ _ => Fz); (with_reducible rename News _ _ _ _ => Nz); k_dflt (refine r_slice (s := ⟨_, _, _, _, _⟩) Fz Nz (by omega) (by omega) (by omega) (by omega) ?_); intro h9 t9 k9 F9 N9; (try k_sweep))
  k_with "compareOp Eq str str" => (k_here; first | refine r_eq_f (by assumption) ?_ | refine r_eq_t (by assumption) ?_ | refine r_eq ?_)
  k_with "compareOp NotEq str str" => (k_here; first | refine r_ne_t (by assumption) ?_ | refine r_ne_f (by assumption) ?_ | refine r_ne ?_)
  k_with "binaryOp Add str str" => (k_here; (with_reducible show wpAny _ _ (binaryOp _ (Value.str (S _) _) (Value.str (S _) _)) _ _ _); refine r_add (by first | omega | (simp only [List.length_append, List.length_cons, List.length_nil]; omega)) ?_; intro t9 k9; (try dsimp only))
  k_with "eval Constant str" => (k_here; (with_reducible show wpAny _ _ (eval (PySem.Expr.Constant (PySem.Const.str (Str.ofString _)) _ _) _) _ _ _); (refine' const_lit ?e ?_; (case e => first | with_reducible exact lit_empty | with_reducible exact lit_dot | with_reducible exact lit_5 | with_reducible exact lit_25 | with_reducible exact lit_125 | with_reducible exact lit_minus | with_reducible exact lit_plus | with_reducible exact lit_e1 | with_reducible exact lit_em1 | with_reducible exact lit_E2 | with_reducible exact lit_em6 | with_reducible exact lit_pct | with_reducible exact lit_sp | with_reducible exact lit_comma | with_reducible exact lit_spcomma)); intro t9 k9; (try dsimp only))
  k_with "newList" => (k_here; k_dflt (refine' newList_mine ?k1 ?k2 ?_ ?k3; (case k1 => k_asm); (case k2 => k_asm); (case k3 => first | decide | (exact Nat.le_of_ble_eq_true rfl) | (simp only [sizeLine_eq]; simp))); intro D' h' F' N' l1 l2; (try k_lt l1); (try k_lt2 l2); (try k_sweep))
  k_with "call ref" => (k_here; (with_reducible show wpAny _ _ (call (Value.ref 443) _ _) _ _ _); first | ((with_reducible rename Fr _ _ _ _ => Fz); (with_reducible rename News _ _ _ _ => Nz); (k_dflt (refine' take_spec (rd_hide ?B Fz Nz (sub1 ?M) ?X ?T rfl rfl ?d ?u) (foot1 Nz ?M2) ?p0 ?p1 ?p2 ?p3 ?p4 ?_; (case B => assumption); (case X => assumption); (case T => assumption); (case d => (first | ((with_reducible apply dle); (with_reducible assumption); exact rfl) | omega)); (case u => (first | ((with_reducible apply ule); (with_reducible assumption); exact rfl) | omega)); (case M => k_mem); (case M2 => k_mem); (case p0 => first | with_reducible assumption | omega); (case p1 => first | with_reducible assumption | omega); (case p2 => first | with_reducible assumption | omega); (case p3 => first | with_reducible assumption | omega); (case p4 => first | with_reducible assumption | omega); k_whole)); intro w9 tv9 a9 b9 ta9 tb9 h9 tk9 hv0 hv1 ha0 hb0 hb1 st9 hn9; k_dflt ((refine backU_k Fz Nz hn9 (by k_upd) st9 ?_; intro F9 N9)); clear Fz Nz st9 hn9; (try dsimp only); (try k_fold)) | refine Stop.go ?_)
  k_with "call ref" => (k_here; (with_reducible show wpAny _ _ (call (Value.ref 450) _ _) _ _ _); first | ((with_reducible rename Fr _ _ _ _ => Fz); (with_reducible rename News _ _ _ _ => Nz); (k_dflt (refine' oneT_spec (rd_hide ?B Fz Nz (sub1 ?M) ?X ?T rfl rfl ?d ?u) (hid1 (Nz.get ?M3) ?ne) (foot1 Nz ?M2) ?p0 ?p1 ?p2 ?tx ?p3 ?p4 ?p5 ?_; (case B => assumption); (case X => assumption); (case T => assumption); (case d => (first | ((with_reducible apply dle); (with_reducible assumption); exact rfl) | omega)); (case u => (first | ((with_reducible apply ule); (with_reducible assumption); exact rfl) | omega)); (case M => k_mem); (case M2 => k_mem); (case M3 => k_mem); (case ne => first | with_reducible assumption | k_ne); (case p0 => (first | with_reducible assumption | omega)); (case p1 => (first | with_reducible assumption | omega)); (case p2 => (first | with_reducible assumption | omega)); (case tx => repeat constructor); (case p3 => decide); (case p4 => decide); (case p5 => decide); k_whole)); intro l9 t9 a9 b9 ta9 tb9 h9 tk9 ha0 hb0 hb1 st9 hn9 hl9 hll9; (first | ((fail_if_success (have qq9 := fl)); rename List Nat => fl) | ((fail_if_success (have qq9 := sg)); rename List Nat => sg) | (rename List Nat => ex)); k_dflt ((refine backU_k Fz Nz hn9 (by k_upd) st9 ?_; intro F9 N9)); clear Fz Nz st9 hn9; k_dflt (replace N9 := ntail N9); (try dsimp only); (try k_fold)) | refine Stop.go ?_)
  k_with "eval Dict" => (k_here; k_dflt (refine' kdn_str ?q ?F ?N ?b ?a ?l ?e ?n ?_; (case q => rfl); (case F => k_asm); (case N => k_asm); (case b => exact Top.nolimit (by k_asm)); (case a => rfl); (case l => rfl); (case e => exact List.cons_ne_nil _ _); (case n => exact Nat.le_of_ble_eq_true rfl)); intro d' h' o' F' N' l1 lo' hd'; (try k_lt l1); (try k_sweep))
  k_with "exec For Name Name cons nil" => (k_here; (rename Fr _ _ _ _ => lF'); (with_unfolding_all refine' For_invVF lF' ?k1 ?k2 ?_; (case k1 => exact rfl); (case k2 => exact rfl); k_whole))
  k_with "pyIter str" => (k_here; refine Stop.go ?_)
  k_with "call ref" => (k_here; (with_reducible show wpAny _ _ (call (Value.ref 81) _ _) _ _ _); first | ((with_reducible rename Fr _ _ _ _ => Fz); (with_reducible rename News _ _ _ _ => Nz); (k_dflt (refine' fraction_spec (rd_of ?B Fz ?X ?T rfl rfl ?d ?u) ?p0 ?p1 ?_; (case B => assumption); (case X => assumption); (case T => assumption); (case d => (first | ((with_reducible apply dle); (with_reducible assumption); exact rfl) | omega)); (case u => (first | ((with_reducible apply ule); (with_reducible assumption); exact rfl) | omega)); (case p0 => (first | with_reducible assumption | omega)); (case p1 => (first | with_reducible assumption | omega)); k_whole)); intro r9 t9 u9 h9 tk9 st9 hl9 hr9; k_dflt ((refine back1_k Fz Nz st9 hl9 hr9 ?_; intro F9 N9 l9 m9)); clear Fz Nz st9 hl9 hr9; (try k_lt l9); (try k_lt2 m9); (try dsimp only); (try k_fold)) | refine Stop.go ?_)
  k_with "binaryOp Mult int int" => (k_here; refine mul_int ?_ (by exact IntMulOk.of_left (by decide)))
  k_with "call type:int" => (k_here; refine r_int_dig (by assumption) ?_; intro t9 k9; (try dsimp only))
  k_with "call type:str" => (k_here; refine r_str (by omega) (by omega) ?_; intro t9 k9 hl9)
  k_with "getItem ref str" => (k_here; refine Stop.go ?_)
  k_with "call builtin:max" => (k_here; (with_reducible show wpAny _ _ (call (Value.builtin _) [Value.int _ _, Value.int _ _]) _ _ _); (with_reducible rename Fr _ _ _ _ => Fz); (with_reducible rename News _ _ _ _ => Nz); (k_dflt (refine r_max rfl Fz Nz ?_)); clear Fz Nz; intro v9 h9 tk9 Fz Nz)
  k_with "eval IfExp" => (k_here; refine Stop.go ?_)
  k_with "binaryOp Pow int int" => (k_here; refine pow_int_small (by omega) (by omega) (by decide) ?_)
  trivial
noncomputable abbrev pairO (l : List Nat) (t : Tok) (q : Addr) : Obj := { cls := .type "tuple", data := .seq #[.str (S l) t, .ref q] }
noncomputable def NumOf (l : List Nat) (a b : Int) : Prop := ∃ sg w fl e, 0 ≤ w ∧ w < 40 ∧ sg ∈ signsL ∧ fl ∈ figsL ∧ e ∈ expsL ∧ l = numL sg w fl e ∧ (a, b) = numV sg w fl e
theorem cutTok {prog : Program} {w : World} {A : Around} {c : Sem Value} {Q E : Value → Shared → Prop} {s : Shared} (v : Tok → Value)
    (h1 : ∀ Q' : Value → Shared → Prop, (∀ t k, Q' (v t) { s with toks := k }) → wpAny (model prog w) A c Q' E s) (h2 : ∀ t k, Q (v t) { s with toks := k }) : wpAny (model prog w) A c Q E s := h1 Q h2
noncomputable def tailL (fl : List Nat) : List Nat := if fl = [] then [] else 46 :: fl
noncomputable def sgnI (sg : List Nat) (v : Int) : Int := if sg = [45] then -v else v
theorem tailL_t {fl : List Nat} (h : S fl = S []) : tailL fl = [] := if_pos (S_inj h)
theorem tailL_f {fl : List Nat} (h : ¬S fl = S []) : tailL fl = [46] ++ fl := if_neg (fun q => h (by rw [q]))
theorem tailL_len (fl : List Nat) : (tailL fl).length ≤ fl.length + 1 := by
  unfold tailL; split
  · exact Nat.zero_le _
  · exact Nat.le_refl _
theorem sgnI_t {sg : List Nat} {v : Int} (h : S sg = S [45]) : sgnI sg v = -v := if_pos (S_inj h)
theorem sgnI_f {sg : List Nat} {v : Int} (h : ¬S sg = S [45]) : sgnI sg v = v := if_neg (fun q => h (by rw [q]))
theorem number_spec {w : World} {A : Around} {s : Shared} {x : Addr} {a b : Int} {ta tb : Tok} {g : Heap} {Q E : Value → Shared → Prop}
    (R : Rd (hd.heap_1 w.params) 4 A g s) (hfoot : ∀ p ∈ [(x, srcO a b ta tb)], s.heap.get? p.1 = some p.2 ∧ g.get? p.1 = none) (ha0 : 0 ≤ a) (hb0 : 0 ≤ b) (hb1 : b < 2147483647)
    (hret : ∀ l p q t u u' r r' c d tc td h' tk', h'.get? r = some (pairO l t r') → h'.get? r' = some (tup2 p q u u') → h'.get? x = some (srcO c d tc td) → 0 ≤ c → 0 ≤ d → d < 2147483647 → g.StaysIn h' → NumOf l p q → s.heap.objs.size ≤ r → s.heap.objs.size ≤ r' → r' ≠ r → Q (.ref r) { s with heap := h', toks := tk' }) :
    wpAny (model PySem.Challenge.rw_pf0197_01.row.prog w) A (call (.ref 457) [.ref x] []) Q E s := by
  revert R; k_fill; intro R
  have hsz := R.sz
  refine' enter (news := [(x, srcO a b ta tb)]) (args := ⟨[.ref x], []⟩) (binds := [(Str.ofString "source", .ref x)]) R ?foot ?ho ?hcd ?hbind ?hloc ?h ?hcell ?hco ?hgen ?hk
  case foot => exact hfoot
  case ho => k_is
  case hcd => k_is
  case hbind => exact BindsTo.of_eq rfl
  case hloc => exact locs rfl
  case hcell => decide
  case hco => exact rfl
  case hgen => exact rfl
  case hk => exact rfl
  clear R
  intro base dp un outer p loose mean mg mb L h₁ F' N' B' X' T' hDp hUn hl hs hA
  clear hA
  (try dsimp only); (try k_fold)
  k_steps
  refine Stop.out ?_
  rename _ ∈ [[], [], [53], [50, 53], [49, 50, 53]] => hfl
  rename _ ∈ [[], [], [45], [43]] => hsg
  rename _ ∈ [[], [], [], [101, 49], [101, 45, 49], [69, 43, 50]] => hex
  rename _ < (40 : Int) => hw1
  have hw0 : 0 ≤ w9 := by with_reducible assumption
  have hft := figs_top hw0 hw1 hfl
  have hfb := figs_bot fl hfl
  have hfd := figs_dig fl hfl
  have hpb := exps_pow ex hex
  (with_reducible rename Fr _ _ _ _ => F1)
  (with_reducible rename News _ _ _ _ => N1)
  refine str_turns (fun pre m => ∀ Gj : Prop, (∀ t t' t1 t2 t3 t4, m (Str.ofString "top") = some (.int (w9 * 10 ^ pre.length + wholeL pre) t) → m (Str.ofString "bottom") = some (.int (10 ^ pre.length) t') → m (Str.ofString "sign") = some (.str (S sg) t1) → m (Str.ofString "exponent") = some (.str (S ex) t2) → m (Str.ofString "whole") = some (.int w9 t3) → m (Str.ofString "figures") = some (.str (S fl) t4) → Gj) → Gj) rfl F1 N1 (fun _ kJ => kJ _ _ _ _ _ _ (by rw [show w9 * 10 ^ ([] : List Nat).length + wholeL [] = w9 by show w9 * 1 + 0 = w9; omega]; rfl) rfl rfl rfl rfl rfl) ?_ ?_
  · clear F1 N1
    intro pre c post t m1 h2 tk2 own hl hJ F2 N2
    refine hJ _ ?_
    clear hJ
    intro t0 t9 t1 t2 t3 t4 e1 e2 e3 e4 e5 e6
    replace F2 := put6F (x1 := Str.ofString "top") (x2 := Str.ofString "bottom") (x3 := Str.ofString "sign") (x4 := Str.ofString "exponent") (x5 := Str.ofString "whole") (x6 := Str.ofString "figures") F2 e1 e2 e3 e4 e5 e6
    have hdc : isDig c = true := hfd c (by rw [hl]; simp)
    (try dsimp only); (try k_fold)
    k_steps
    (with_reducible rename Fr _ _ _ _ => Fz)
    (with_reducible rename News _ _ _ _ => Nz)
    exact strEnd Fz Nz (fun _ h => .tail _ h) (fun _ kJ => kJ _ _ _ _ _ _ (by rw [← top_step]; rfl) (by rw [← bot_step]; rfl) rfl rfl rfl rfl)
  · clear F1 N1
    intro m1 h2 tk2 hJ F2 N2
    refine hJ _ ?_
    clear hJ
    intro t0 t9 t1 t2 t3 t4 e1 e2 e3 e4 e5 e6
    replace F2 := put6F (x1 := Str.ofString "top") (x2 := Str.ofString "bottom") (x3 := Str.ofString "sign") (x4 := Str.ofString "exponent") (x5 := Str.ofString "whole") (x6 := Str.ofString "figures") F2 e1 e2 e3 e4 e5 e6
    clear e1 e2 e3 e4 e5 e6
    (try dsimp only); (try k_fold)
    k_steps
    refine Stop.out ?_
    (with_reducible rename News _ _ _ _ => Nz)
    (with_reducible rename Obj.IsDictOf _ _ _ => hdz)
    simp only [strPairs] at hdz
    refine' g_item_dictE Nz ?km hdz ?hv ?_
    case km => k_mem
    case hv => exact exps_val hex
    intro tp
    clear hdz
    have hpp := hpb.1
    have hpq := hpb.2
    have hbe := figs_exps fl hfl ex hex
    have hbe0 := hbe.1
    have hbe1 := hbe.2
    clear hbe
    have hnl : ([] : List Nat).length = 0 := rfl
    have htl := tailL_len fl
    k_steps
    refine Stop.out ?_
    refine cutTok (fun t => .str (S (tailL fl)) t) ?_ ?_
    · intro Qc hq
      by_cases hf0 : S fl = S []
      · rw [tailL_t hf0] at hq
        clear hret
        refine wpAny_IfExp ?_
        k_steps
        exact hq _ _
      · rw [tailL_f hf0] at hq
        clear hret
        refine wpAny_IfExp ?_
        k_steps
        exact hq _ _
    intro tq kq
    k_steps
    refine Stop.out ?_
    refine cutTok (fun t => .int (sgnI sg ((w9 * 10 ^ fl.length + wholeL fl) * 10 ^ (max (powE ex) 0).toNat)) t) ?_ ?_
    · intro Qc hq
      by_cases hs0 : S sg = S [45]
      · rw [sgnI_t hs0] at hq
        clear hret
        refine wpAny_IfExp ?_
        k_steps
        exact hq _ _
      · rw [sgnI_f hs0] at hq
        clear hret
        refine wpAny_IfExp ?_
        k_steps
        exact hq _ _
    intro tq5 kq5
    k_steps
    (with_reducible rename Fr _ _ _ _ => Fz)
    (with_reducible rename News _ _ _ _ => Nz)
    exact hret _ _ _ _ _ _ _ _ _ _ _ _ _ _ (Nz.get (List.mem_cons_self ..)) (Nz.get (by k_mem)) (Nz.get (by k_mem)) (by with_reducible assumption) (by with_reducible assumption) (by with_reducible assumption) Fz.keep ⟨sg, w9, fl, ex, hw0, hw1, hsg, hfl, hex, rfl, rfl⟩ (under (hsz.symm.trans hs) (by with_reducible assumption)) (under (hsz.symm.trans hs) (by with_reducible assumption)) (by k_ne)
end Mine
end
section --C18
set_option maxHeartbeats 4000000
namespace Mine
section
variable {h₀ h h' : Heap} {L d r r' : Addr} {m : Str → Option Value} {news news' : List (Addr × Obj)} {o o' p q : Obj}
theorem back2U (F : Fr h₀ L h m) (N : News h₀ L h news) (hn : h'.get? d = some o') (U : Upd d o o' news news') (st : (hideAll h [d]).StaysIn h') (hr : h.objs.size ≤ r) (hr' : h.objs.size ≤ r') (_ne : r' ≠ r) (g1 : h'.get? r = some p) (g2 : h'.get? r' = some q) :
    Fr h₀ L h' m ∧ News h₀ L h' ((r, p) :: (r', q) :: news') ∧ L < r ∧ L < r' ∧ (∀ p ∈ news, p.1 < r) ∧ (∀ p ∈ news, p.1 < r') := by
  obtain ⟨F', N'⟩ := backU F N hn U st
  obtain ⟨oL, _, _, hL, _⟩ := F.ns
  have hLs : L < h.objs.size := Heap.lt_size hL
  have fresh : ∀ {a : Addr}, h.objs.size ≤ a → a ≠ L ∧ h₀.get? a = none := fun {a} ha => ⟨fun e => Nat.lt_irrefl _ (Nat.lt_of_lt_of_le hLs (e ▸ ha)), by
    cases q : h₀.get? a with
    | none => rfl
    | some o' => exact absurd (Nat.lt_of_lt_of_le (Heap.lt_size (F.keep _ _ q)) ha) (Nat.lt_irrefl _)⟩
  refine ⟨F', fun p hp => ?_, Nat.lt_of_lt_of_le hLs hr, Nat.lt_of_lt_of_le hLs hr', fun p hp => Nat.lt_of_lt_of_le (Heap.lt_size (N p hp).1) hr, fun p hp => Nat.lt_of_lt_of_le (Heap.lt_size (N p hp).1) hr'⟩
  rcases List.mem_cons.mp hp with rfl | hp
  · exact ⟨g1, fresh hr⟩
  rcases List.mem_cons.mp hp with rfl | hp
  · exact ⟨g2, fresh hr'⟩
  · exact N' p hp
end
noncomputable abbrev tup3 (u : Str) (a b : Int) (t t' t'' : Tok) : Obj := { cls := .type "tuple", data := .seq #[.str u t, .int a t', .int b t''] }
noncomputable def unitsT : List (Str × Int × Int) := [(Str.ofString "", 1, 1), (Str.ofString "px", 1, 1), (Str.ofString "pt", 4, 3), (Str.ofString "pc", 16, 1), (Str.ofString "mm", 480, 127), (Str.ofString "cm", 4800, 127), (Str.ofString "in", 96, 1), (Str.ofString "em", 0, 1), (Str.ofString "%", 0, 1)]
theorem oneU_spec {w : World} {A : Around} {s : Shared} {x : Addr} {a b : Int} {ta tb : Tok} {g : Heap} {Q E : Value → Shared → Prop}
    (R : Rd (hd.heap_1 w.params) 2 A g s) (hfoot : ∀ p ∈ [(x, srcO a b ta tb)], s.heap.get? p.1 = some p.2 ∧ g.get? p.1 = none) (ha0 : 0 ≤ a) (hb0 : 0 ≤ b) (hb1 : b < 2147483647)
    (hret : ∀ r u p q t t' t'' a' b' ta' tb' h' tk', 0 ≤ a' → 0 ≤ b' → b' < 2147483647 → g.StaysIn h' → h'.get? x = some (srcO a' b' ta' tb') → (∀ g', (hd.heap_1 w.params).In g' → g'.get? r = some (tup3 u p q t t' t'')) → (u, p, q) ∈ unitsT → Q (.ref r) { s with heap := h', toks := tk' }) :
    wpAny (model PySem.Challenge.rw_pf0197_01.row.prog w) A (call (.ref 450) [.ref x, .ref 429] []) Q E s := by
  revert R; k_fill; intro R
  have hu := R.X 429 _ (by k_is)
  have hu0 := fun g' (X : (hd.heap_1 w.params).In g') => X 420 _ (by k_is)
  have hu1 := fun g' (X : (hd.heap_1 w.params).In g') => X 421 _ (by k_is)
  have hu2 := fun g' (X : (hd.heap_1 w.params).In g') => X 422 _ (by k_is)
  have hu3 := fun g' (X : (hd.heap_1 w.params).In g') => X 423 _ (by k_is)
  have hu4 := fun g' (X : (hd.heap_1 w.params).In g') => X 424 _ (by k_is)
  have hu5 := fun g' (X : (hd.heap_1 w.params).In g') => X 425 _ (by k_is)
  have hu6 := fun g' (X : (hd.heap_1 w.params).In g') => X 426 _ (by k_is)
  have hu7 := fun g' (X : (hd.heap_1 w.params).In g') => X 427 _ (by k_is)
  have hu8 := fun g' (X : (hd.heap_1 w.params).In g') => X 428 _ (by k_is)
  refine one_spec (vs := [.ref 420, .ref 421, .ref 422, .ref 423, .ref 424, .ref 425, .ref 426, .ref 427, .ref 428]) R hu hfoot ha0 hb0 hb1 (by decide) (by decide) ?_
  intro v a' b' ta' tb' h' tk' h1 h2 h3 h4 h5 h6
  simp only [List.mem_cons, List.not_mem_nil, or_false] at h6
  rcases h6 with rfl | rfl | rfl | rfl | rfl | rfl | rfl | rfl | rfl
  · exact hret _ _ _ _ _ _ _ _ _ _ _ _ _ h1 h2 h3 h4 h5 hu0 (by simp [unitsT])
  · exact hret _ _ _ _ _ _ _ _ _ _ _ _ _ h1 h2 h3 h4 h5 hu1 (by simp [unitsT])
  · exact hret _ _ _ _ _ _ _ _ _ _ _ _ _ h1 h2 h3 h4 h5 hu2 (by simp [unitsT])
  · exact hret _ _ _ _ _ _ _ _ _ _ _ _ _ h1 h2 h3 h4 h5 hu3 (by simp [unitsT])
  · exact hret _ _ _ _ _ _ _ _ _ _ _ _ _ h1 h2 h3 h4 h5 hu4 (by simp [unitsT])
  · exact hret _ _ _ _ _ _ _ _ _ _ _ _ _ h1 h2 h3 h4 h5 hu5 (by simp [unitsT])
  · exact hret _ _ _ _ _ _ _ _ _ _ _ _ _ h1 h2 h3 h4 h5 hu6 (by simp [unitsT])
  · exact hret _ _ _ _ _ _ _ _ _ _ _ _ _ h1 h2 h3 h4 h5 hu7 (by simp [unitsT])
  · exact hret _ _ _ _ _ _ _ _ _ _ _ _ _ h1 h2 h3 h4 h5 hu8 (by simp [unitsT])
section
variable {G : Prop} {h₀ h h' : Heap} {L r r' d : Addr} {m : Str → Option Value} {news news' : List (Addr × Obj)} {o o' p q : Obj}
theorem back2U_k (F : Fr h₀ L h m) (N : News h₀ L h news) (hn : h'.get? d = some o') (U : Upd d o o' news news') (st : (hideAll h [d]).StaysIn h') (hr : h.objs.size ≤ r) (hr' : h.objs.size ≤ r') (ne : r' ≠ r) (g1 : h'.get? r = some p) (g2 : h'.get? r' = some q)
    (k : Fr h₀ L h' m → News h₀ L h' ((r, p) :: (r', q) :: news') → L < r → L < r' → (∀ p ∈ news, p.1 < r) → (∀ p ∈ news, p.1 < r') → G) : G := by
  obtain ⟨a, b, c, d, e, f⟩ := back2U F N hn U st hr hr' ne g1 g2
  exact k a b c d e f
end
end Mine
end
section --N1
namespace Mine
theorem num_facts {l : List Nat} {p q : Int} (h : NumOf l p q) : readDec l = some (p, q) ∧ -10000 < p ∧ p < 10000 ∧ 0 < q ∧ q < 100 ∧
    (∀ c ∈ l, c = 43 ∨ c = 45 ∨ c = 46 ∨ (48 ≤ c ∧ c ≤ 57) ∨ c = 69 ∨ c = 101) ∧ isDig (l.getLast?.getD 0) = true ∧ l.length ≤ 20 := by
  obtain ⟨sg, w, fl, e, h0, h1, hs, hf, he, rfl, hv⟩ := h
  obtain ⟨n, rfl⟩ := Int.eq_ofNat_of_zero_le h0
  have hk := num_all (w := n) (by omega) hf hs he
  unfold numCheck at hk
  simp only [Bool.and_eq_true, decide_eq_true_eq, List.all_eq_true] at hk
  obtain ⟨⟨⟨⟨⟨⟨⟨k1, k2⟩, k3⟩, k4⟩, k5⟩, k6⟩, k7⟩, k8⟩ := hk
  have e1 := congrArg Prod.fst hv
  have e2 := congrArg Prod.snd hv
  dsimp only at e1 e2
  refine ⟨by rw [k1, ← hv], by rw [e1]; exact k2, by rw [e1]; exact k3, by rw [e2]; exact k4, by rw [e2]; exact k5, k6, k7, k8⟩
theorem fr_top {x y : Int} (hy : 0 < y) : ((fr x y).1).natAbs ≤ x.natAbs := by
  have hg := Int.gcd_pos_of_ne_zero_right x (Int.ne_of_gt hy)
  have hd := Int.gcd_dvd_left x y
  unfold fr
  dsimp only
  have hgz : 0 < ((Int.gcd x y : Nat) : Int) := by omega
  generalize ((Int.gcd x y : Nat) : Int) = G at hgz hd
  obtain ⟨k, rfl⟩ := hd
  rw [Int.mul_fdiv_cancel_left _ (by omega), Int.natAbs_mul]
  exact Nat.le_mul_of_pos_left _ (by omega)
theorem na_le {a b X : Int} (h : a.natAbs ≤ b.natAbs) (h0 : -X ≤ b) (h1 : b ≤ X) : -X ≤ a ∧ a ≤ X := by omega
theorem fr_le {x y X : Int} (hy : 0 < y) (h0 : -X ≤ x) (h1 : x ≤ X) : -X ≤ (fr x y).1 ∧ (fr x y).1 ≤ X := na_le (fr_top hy) h0 h1
theorem fr_bd {x y B : Int} (h0 : -B < x) (h1 : x < B) (hy : 0 < y) (hy1 : y < B) : -B < (fr x y).1 ∧ (fr x y).1 < B ∧ 0 < (fr x y).2 ∧ (fr x y).2 < B := by
  have hp := fr_pos (x := x) hy
  have ht := fr_le (x := x) (X := B - 1) hy (by omega) (by omega)
  exact ⟨by omega, by omega, hp.1, Int.lt_of_le_of_lt hp.2 hy1⟩
theorem name_num {l : List Nat} {p q : Int} (_ : NumOf l p q) : ∃ l' p' q', l' = l ∧ p' = p ∧ q' = q := ⟨_, _, _, rfl, rfl, rfl⟩
theorem name_unit {u : Str} {a b : Int} (_ : (u, a, b) ∈ unitsT) : ∃ u' a' b', u' = u ∧ a' = a ∧ b' = b := ⟨_, _, _, rfl, rfl, rfl⟩
noncomputable def shareF (u : Str) (a b : Int) (w f : Int × Int) : Int × Int := if u = Str.ofString "em" then f else if u = Str.ofString "%" then fr w.1 (100 * w.2) else (a, b)
noncomputable def LenOf (l : List Nat) (w f d : Int × Int) : Prop := ∃ nl p q pre gap ul a b, NumOf nl p q ∧ pre ∈ [[], [32]] ∧ gap ∈ [[], [], [32]] ∧ (S ul, a, b) ∈ unitsT ∧ l = pre ++ nl ++ gap ++ ul ++ gap ∧
  d = timesF (p, q) (fr (shareF (S ul) a b w f).1 (shareF (S ul) a b w f).2)
theorem units_len {ul : List Nat} {a b : Int} (h : (S ul, a, b) ∈ unitsT) : ul.length ≤ 2 := by
  have e : (S ul).length ≤ 2 := by
    have : ∀ z ∈ unitsT, z.1.length ≤ 2 := by decide +kernel
    exact this _ h
  rwa [S_len] at e
theorem units_bd {u : Str} {a b : Int} (h : (u, a, b) ∈ unitsT) : 0 ≤ a ∧ a < 10000 ∧ 0 < b ∧ b < 1000 := by
  have : ∀ z ∈ unitsT, 0 ≤ z.2.1 ∧ z.2.1 < 10000 ∧ 0 < z.2.2 ∧ z.2.2 < 1000 := by decide +kernel
  exact this _ h
theorem share_em {v v' : Value} : valueAt [(Str.ofString "em", v), (Str.ofString "%", v')] (Str.ofString "em") = some v := by with_unfolding_all rfl
theorem share_pc {v v' : Value} : valueAt [(Str.ofString "em", v), (Str.ofString "%", v')] (Str.ofString "%") = some v' := by with_unfolding_all rfl
theorem share_no {v v' : Value} {u : Str} (h1 : u ≠ Str.ofString "em") (h2 : u ≠ Str.ofString "%") : valueAt [(Str.ofString "em", v), (Str.ofString "%", v')] u = none := by
  unfold valueAt
  simp only [List.find?_cons, List.find?_nil, decide_eq_false (Ne.symm h1), decide_eq_false (Ne.symm h2)]
  rfl
end Mine
end
section --C19
set_option maxHeartbeats 4000000
namespace Mine
theorem lnC19a : True := by
  k_with_none
  k_with "a1" => (first | with_reducible assumption | ((with_reducible apply Mine.ltm); (with_reducible assumption); k_mem))
  k_with "a2" => (first | with_reducible exact Mine.lss | with_reducible exact Mine.ltp (by assumption) | with_reducible exact Mine.ltp (Mine.ltp (by assumption)) | with_reducible exact Mine.ltp (Mine.ltp (Mine.ltp (by assumption))) | ((with_reducible refine Mine.lts ?_); first | with_reducible exact Mine.lss | k_memK) | ((with_reducible refine Mine.lts (Mine.lts ?_)); first | with_reducible exact Mine.lss | k_memK) | ((with_reducible refine Mine.lts (Mine.lts (Mine.lts ?_))); k_memK))
  k_with "a3" => (first | k_cls | ((with_reducible apply Mine.ltr); (with_reducible assumption); first | k_memK | k_cls) | ((with_reducible apply Mine.ltr); (with_reducible exact Mine.ltp (by assumption)); first | k_memK | k_cls))
  k_with "a4" => (first | with_reducible exact Mine.neAll (by assumption) | with_reducible exact Mine.neNil | ((with_reducible refine Mine.neCons ?_ ?_); k_ne; k_all))
  k_with "a5" => (first | with_reducible exact Mine.subNil | with_reducible exact Mine.subSame | ((with_reducible refine Mine.subCons ?_ ?_); k_mem; k_subL) | ((with_reducible refine Mine.subApp ?_ ?_); k_subL; k_subL) | ((with_reducible refine Mine.subTail ?_); k_subL))
  k_with "a6" => (first | with_reducible assumption | ((with_reducible show @Ne Nat _ _); first | ((with_reducible refine Mine.nlt ?_); k_memK) | ((with_reducible refine Mine.ngt ?_); k_memK) | (with_reducible exact Ne.symm (by assumption)) | ((with_reducible refine Mine.nlt ?_); k_types) | ((with_reducible refine Mine.ngt ?_); k_types)) | ((with_reducible apply Mine.dq0); (with_reducible assumption); decide) | ((with_reducible apply Mine.dq1); (with_reducible assumption); decide) | ((with_reducible apply Mine.dq2); (with_reducible assumption); decide) | ((with_reducible apply Mine.dq3); (with_reducible assumption); decide) | ((with_reducible apply Mine.dq4); (with_reducible assumption); decide) | ((with_reducible first | apply Mine.il1 | apply Mine.il3); (with_reducible assumption); decide) | ((with_reducible first | apply Mine.il2 | apply Mine.il4); (with_reducible assumption); decide) | ((with_reducible first | apply Mine.iu1 | apply Mine.iu3); (with_reducible assumption); decide) | ((with_reducible first | apply Mine.iu2 | apply Mine.iu4); (with_reducible assumption); decide) | ((with_reducible first | apply Mine.nl3 | apply Mine.nl2); (with_reducible assumption); decide) | ((with_reducible first | apply Mine.nu1 | apply Mine.nu3); (with_reducible assumption); decide) | ((with_reducible first | apply Mine.nu2 | apply Mine.nu4); (with_reducible assumption); decide) | ((with_reducible show @LT.lt Nat _ _ _); first | k_memK | k_types) | decide)
  k_with "a7" => (repeat (rename ∀ _ ∈ (_ : List (Addr × Obj)), @LT.lt Nat _ _ _ => hrw; replace hrw := allLt_of hrw; dsimp only [AllLt] at hrw))
  k_with "a8" => (first | (k_whole; kc_bool) | omega +splitDisjunctions | (k_whole; k_units; omega +splitDisjunctions))
  k_with "a9" => (first | (k_whole; kc_bool) | lia | omega +splitDisjunctions)
  k_with "eval Call" => ((fail_if_success (fail_if_success k_fold)); refine foldL ?_; intro qk ek; walk1)
  k_with "eval BinOp" => ((fail_if_success (fail_if_success k_fold)); refine foldL ?_; intro qk ek; walk1)
  k_with "eval Tuple" => ((fail_if_success (fail_if_success k_fold)); refine foldL ?_; intro qk ek; walk1)
  k_with "isTrue Compare" => ((fail_if_success (fail_if_success k_fold)); refine foldL ?_; intro qk ek; walk1)
  k_with "eval Subscript" => ((fail_if_success (fail_if_success k_fold)); refine foldL ?_; intro qk ek; walk1)
  k_with "exec Assign" => ((fail_if_success (fail_if_success k_fold)); refine foldL ?_; intro qk ek; walk1)
  k_with "eval List" => ((fail_if_success (fail_if_success k_fold)); refine foldL ?_; intro qk ek; walk1)
  k_with "eval Attribute" => ((fail_if_success (fail_if_success k_fold)); refine foldL ?_; intro qk ek; walk1)
  k_with "eval UnaryOp" => ((fail_if_success (fail_if_success k_fold)); refine foldL ?_; intro qk ek; walk1)
  k_with "callWith ref" => ((fail_if_success (fail_if_success k_fold)); refine foldL ?_; intro qk ek; walk1)
  k_with "callWith" => ((fail_if_success (fail_if_success k_fold)); refine foldL ?_; intro qk ek; walk1)
  k_with "exec While" => (k_here; refine Stop.go ?_)
  k_with "binaryOp FloorDiv int int" => (k_here; refine floordiv_int (by first | decide | omega) ?_ (Or.inl (noPyl (by first | decide | omega) (by first | decide | omega))))
  k_with "newTuple" => (k_here; k_dflt (refine' newTuple_mine ?k1 ?k2 ?_ ?k3; (case k1 => k_asm); (case k2 => k_asm); (case k3 => first | decide | (exact Nat.le_of_ble_eq_true rfl) | (simp only [sizeLine_eq]; simp))); intro D' h' F' N' l1 l2; (try k_lt l1); (try k_lt2 l2); (try k_sweep))
  k_with "binaryOp Mult int int" => (k_here; refine mul_int ?_ (by first | exact mulOk60 (by omega) (by omega) (by omega) (by omega) | mul_fits))
  k_with "binaryOp Mod int int" => (k_here; refine mod_int' (by first | decide | omega) ?_)
  k_with "call builtin:len" => (k_here; refine r_len (by first | omega | (simp only [List.length_append, List.length_cons, List.length_nil]; omega)) ?_; intro t9 k9)
  k_with "subscriptTail Attribute Attribute str int" => (k_here; (with_reducible show wpAny _ _ (subscriptTail _ _ (Value.str (S _) _) (Value.int _ _)) _ _ _); k_dflt (refine r_item (by omega) (by omega) (by omega) ?_); intro t9 k9)
  k_with "compareOp In str str" => (k_here; refine r_in ?_)
  k_with "subscriptTail Attribute Slice str ref" => (k_here; (with_reducible show wpAny _ _ (subscriptTail _ (Expr.Slice (some _) (some _) none _) (Value.str (S _) _) (Value.ref _)) _ _ _); (with_reducible rename Fr _ _ _ _ => Fz); (with_reducible rename News _ _ _ _ => Nz); k_dflt (refine r_slice (s := ⟨_, _, _, _, _⟩) Fz Nz (by omega) (by omega) (by omega) (by omega) ?_); intro h9 t9 k9 F9 N9; (try k_sweep))
  k_with "compareOp Eq str str" => (k_here; first | refine r_eq_f (by assumption) ?_ | refine r_eq_t (by assumption) ?_ | refine r_eq ?_)
  k_with "compareOp NotEq str str" => (k_here; first | refine r_ne_t (by assumption) ?_ | refine r_ne_f (by assumption) ?_ | refine r_ne ?_)
  k_with "binaryOp Add str str" => (k_here; (with_reducible show wpAny _ _ (binaryOp _ (Value.str (S _) _) (Value.str (S _) _)) _ _ _); refine r_add (by first | omega | (simp only [List.length_append, List.length_cons, List.length_nil]; omega)) ?_; intro t9 k9)
  k_with "eval Constant str" => (k_here; (with_reducible show wpAny _ _ (eval (PySem.Expr.Constant (PySem.Const.str (Str.ofString _)) _ _) _) _ _ _); (refine' const_lit ?e ?_; (case e => first | with_reducible exact lit_empty | with_reducible exact lit_dot | with_reducible exact lit_5 | with_reducible exact lit_25 | with_reducible exact lit_125 | with_reducible exact lit_minus | with_reducible exact lit_plus | with_reducible exact lit_e1 | with_reducible exact lit_em1 | with_reducible exact lit_E2 | with_reducible exact lit_em6 | with_reducible exact lit_sp | with_reducible exact lit_comma | with_reducible exact lit_spcomma)); intro t9 k9)
  k_with "subscriptTail Name Constant ref int" => (k_here; (with_reducible show wpAny _ _ (subscriptTail _ _ (Value.ref _) (Value.int 0 _)) _ _ _); (with_reducible rename Fr _ _ _ _ => Fz); first | (k_dflt (refine tup_item0 Fz (by with_reducible assumption) ?_)) | ((with_reducible rename News _ _ _ _ => Nz); (k_dflt (refine tupN_item0 Nz (by first | with_reducible assumption | k_mem) ?_))))
  k_with "subscriptTail Name Constant ref int" => (k_here; (with_reducible show wpAny _ _ (subscriptTail _ _ (Value.ref _) (Value.int 1 _)) _ _ _); (with_reducible rename Fr _ _ _ _ => Fz); first | (k_dflt (refine tup_item1 Fz (by with_reducible assumption) ?_)) | ((with_reducible rename News _ _ _ _ => Nz); (k_dflt (refine tupN_item1 Nz (by first | with_reducible assumption | k_mem) ?_))))
  k_with "newList" => (k_here; k_dflt (refine' newList_mine ?k1 ?k2 ?_ ?k3; (case k1 => k_asm); (case k2 => k_asm); (case k3 => first | decide | (exact Nat.le_of_ble_eq_true rfl) | (simp only [sizeLine_eq]; simp))); intro D' h' F' N' l1 l2; (try k_lt l1); (try k_lt2 l2); (try k_sweep))
  k_with "call ref" => (k_here; (with_reducible show wpAny _ _ (call (Value.ref 443) _ _) _ _ _); first | ((with_reducible rename Fr _ _ _ _ => Fz); (with_reducible rename News _ _ _ _ => Nz); (k_dflt (refine' take_spec (rd_hide ?B Fz Nz (sub1 ?M) ?X ?T rfl rfl ?d ?u) (foot1 Nz ?M2) ?p0 ?p1 ?p2 ?p3 ?p4 ?_; (case B => assumption); (case X => assumption); (case T => assumption); (case d => (first | ((with_reducible apply dle); (with_reducible assumption); exact rfl) | omega)); (case u => (first | ((with_reducible apply ule); (with_reducible assumption); exact rfl) | omega)); (case M => k_mem); (case M2 => k_mem); (case p0 => first | with_reducible assumption | omega); (case p1 => first | with_reducible assumption | omega); (case p2 => first | with_reducible assumption | omega); (case p3 => first | with_reducible assumption | omega); (case p4 => first | with_reducible assumption | omega); k_whole)); intro v9 tv9 a9 b9 ta9 tb9 h9 tk9 hv0 hv1 ha0 hb0 hb1 st9 hn9; k_dflt ((refine backU_k Fz Nz hn9 (by k_upd) st9 ?_; intro F9 N9)); clear Fz Nz st9 hn9; (try dsimp only); (try k_fold)) | refine Stop.go ?_)
  k_with "call ref" => (k_here; (with_reducible show wpAny _ _ (call (Value.ref 450) _ _) _ _ _); first | ((with_reducible rename Fr _ _ _ _ => Fz); (with_reducible rename News _ _ _ _ => Nz); (k_dflt (refine' oneT_spec (rd_hide ?B Fz Nz (sub1 ?M) ?X ?T rfl rfl ?d ?u) (hid1 (Nz.get ?M3) ?ne) (foot1 Nz ?M2) ?p0 ?p1 ?p2 ?tx ?p3 ?p4 ?p5 ?_; (case B => assumption); (case X => assumption); (case T => assumption); (case d => (first | ((with_reducible apply dle); (with_reducible assumption); exact rfl) | omega)); (case u => (first | ((with_reducible apply ule); (with_reducible assumption); exact rfl) | omega)); (case M => k_mem); (case M2 => k_mem); (case M3 => k_mem); (case ne => first | with_reducible assumption | k_ne); (case p0 => (first | with_reducible assumption | omega)); (case p1 => (first | with_reducible assumption | omega)); (case p2 => (first | with_reducible assumption | omega)); (case tx => repeat constructor); (case p3 => decide); (case p4 => decide); (case p5 => decide); k_whole)); intro l9 t9 a9 b9 ta9 tb9 h9 tk9 ha0 hb0 hb1 st9 hn9 hl9 hll9; k_dflt ((refine backU_k Fz Nz hn9 (by k_upd) st9 ?_; intro F9 N9)); clear Fz Nz st9 hn9; (try dsimp only); (try k_fold)) | refine Stop.go ?_)
  k_with "call ref" => (k_here; (with_reducible show wpAny _ _ (call (Value.ref 450) [_, Value.ref 429] _) _ _ _); ((with_reducible rename Fr _ _ _ _ => Fz); (with_reducible rename News _ _ _ _ => Nz); (k_dflt (refine' oneU_spec (rd_hide ?B Fz Nz (sub1 ?M) ?X ?T rfl rfl ?d ?u) (foot1 Nz ?M2) ?p0 ?p1 ?p2 ?_; (case B => assumption); (case X => assumption); (case T => assumption); (case d => (first | ((with_reducible apply dle); (with_reducible assumption); exact rfl) | omega)); (case u => (first | ((with_reducible apply ule); (with_reducible assumption); exact rfl) | omega)); (case M => k_mem); (case M2 => k_mem); (case p0 => first | with_reducible assumption | omega); (case p1 => first | with_reducible assumption | omega); (case p2 => first | with_reducible assumption | omega); k_whole)); intro r9 u9 p9 q9 t9 t8 t7 a9 b9 ta9 tb9 h9 tk9 ha0 hb0 hb1 st9 hn9 hr9 hu9; (with_reducible rename Frag.In _ _ => Xz); k_dflt (have hg9 := hr9 _ Xz); clear hr9; k_dflt ((refine backU_k Fz Nz hn9 (by k_upd) st9 ?_; intro F9 N9)); clear Fz Nz st9 hn9; (try dsimp only); (try k_fold)))
  k_with "assign Tuple" => (k_here; (with_reducible rename Heap.get? _ _ = some (tup3 _ _ _ _ _ _) => hu); (with_reducible show wpAny _ _ (assign _ _ (Value.ref _)) _ _ _); (with_reducible rename Fr _ _ _ _ => Fz); (with_reducible rename News _ _ _ _ => Nz); k_dflt (refine' unpackN_ Fz Nz ⟨_, Fz.keep _ _ hu, rfl, _, rfl⟩ rfl ?hn ?hs ?_; (case hn => exact rfl); (case hs => exact rfl)); clear Fz Nz; intro h9 Fz Nz)
  k_with "eval Dict" => (k_here; k_dflt (refine' kdn_str ?q ?F ?N ?b ?a ?l ?e ?n ?_; (case q => rfl); (case F => k_asm); (case N => k_asm); (case b => exact Top.nolimit (by k_asm)); (case a => rfl); (case l => rfl); (case e => exact List.cons_ne_nil _ _); (case n => exact Nat.le_of_ble_eq_true rfl)); intro d' h' o' F' N' l1 lo' hd'; (try k_lt l1); (try k_sweep))
  k_with "call ref" => (k_here; (with_reducible show wpAny _ _ (call (Value.ref 457) _ _) _ _ _); first | ((with_reducible rename Fr _ _ _ _ => Fz); (with_reducible rename News _ _ _ _ => Nz); (k_dflt (refine' number_spec (rd_hide ?B Fz Nz (sub1 ?M) ?X ?T rfl rfl ?d ?u) (foot1 Nz ?M2) ?p0 ?p1 ?p2 ?_; (case B => assumption); (case X => assumption); (case T => assumption); (case d => (first | ((with_reducible apply dle); (with_reducible assumption); exact rfl) | omega)); (case u => (first | ((with_reducible apply ule); (with_reducible assumption); exact rfl) | omega)); (case M => k_mem); (case M2 => k_mem); (case p0 => first | with_reducible assumption | omega); (case p1 => first | with_reducible assumption | omega); (case p2 => first | with_reducible assumption | omega); k_whole)); intro l9 p9 q9 t9 u9 u8 r9 r8 a9 b9 ta9 tb9 h9 tk9 g1 g2 hn9 ha0 hb0 hb1 st9 hN9 s1 s2 ne9; k_dflt ((refine back2U_k Fz Nz hn9 (by k_upd) st9 s1 s2 ne9 g1 g2 ?_; intro F9 N9 L1 L2 M1 M2)); clear Fz Nz st9 hn9 s1 s2 g1 g2; (try k_lt M1); (try k_lt M2); (try dsimp only); (try k_fold)) | refine Stop.go ?_)
  k_with "call ref" => (k_here; (with_reducible show wpAny _ _ (call (Value.ref 81) _ _) _ _ _); first | ((with_reducible rename Fr _ _ _ _ => Fz); (with_reducible rename News _ _ _ _ => Nz); (k_dflt (refine' fraction_spec (rd_of ?B Fz ?X ?T rfl rfl ?d ?u) ?p0 ?p1 ?_; (case B => assumption); (case X => assumption); (case T => assumption); (case d => (first | ((with_reducible apply dle); (with_reducible assumption); exact rfl) | omega)); (case u => (first | ((with_reducible apply ule); (with_reducible assumption); exact rfl) | omega)); (case p0 => (first | with_reducible assumption | omega)); (case p1 => (first | with_reducible assumption | omega)); k_whole)); intro r9 t9 u9 h9 tk9 st9 hl9 hr9; k_dflt ((refine back1_k Fz Nz st9 hl9 hr9 ?_; intro F9 N9 l9 m9)); clear Fz Nz st9 hl9 hr9; (try k_lt l9); (try k_lt2 m9); (try dsimp only); (try k_fold)) | refine Stop.go ?_)
  k_with "call ref" => (k_here; (with_reducible show wpAny _ _ (call (Value.ref 95) _ _) _ _ _); first | ((with_reducible rename Fr _ _ _ _ => Fz); (with_reducible rename News _ _ _ _ => Nz); (k_dflt (refine' times_spec (rd_of ?B Fz ?X ?T rfl rfl ?d ?u) ?p0 ?p1 ?p2 ?p3 ?p4 ?p5 ?p6 ?p7 ?p8 ?p9 ?_; (case B => assumption); (case X => assumption); (case T => assumption); (case d => (first | ((with_reducible apply dle); (with_reducible assumption); exact rfl) | omega)); (case u => (first | ((with_reducible apply ule); (with_reducible assumption); exact rfl) | omega)); (case p0 => (first | exact Nz.get (by k_mem) | exact Fz.keep _ _ (by with_reducible assumption) | exact Fz.keep _ _ (by assumption) | exact Fz.keep _ _ ((by assumption : Frag.In _ _) _ _ (by k_is)))); (case p1 => (first | exact Nz.get (by k_mem) | exact Fz.keep _ _ (by with_reducible assumption) | exact Fz.keep _ _ (by assumption) | exact Fz.keep _ _ ((by assumption : Frag.In _ _) _ _ (by k_is)))); (case p2 => (first | with_reducible assumption | omega)); (case p3 => (first | with_reducible assumption | omega)); (case p4 => (first | with_reducible assumption | omega)); (case p5 => (first | with_reducible assumption | omega)); (case p6 => (first | with_reducible assumption | omega)); (case p7 => (first | with_reducible assumption | omega)); (case p8 => (first | with_reducible assumption | omega)); (case p9 => (first | with_reducible assumption | omega)); k_whole)); intro r9 t9 u9 h9 tk9 st9 hl9 hr9; k_dflt ((refine back1_k Fz Nz st9 hl9 hr9 ?_; intro F9 N9 l9 m9)); clear Fz Nz st9 hl9 hr9; (try k_lt l9); (try k_lt2 m9); (try dsimp only); (try k_fold)) | refine Stop.go ?_)
  k_with "call builtin:dict.get" => (k_here; refine Stop.go ?_)
  k_with "eval Call" => ((fail_if_success (have qq9 := hgo5)); (with_reducible show wpAny _ _ (eval (Expr.Call (Expr.Name (Str.ofString "fraction") _) [Expr.Subscript (Expr.Name (Str.ofString "share") _) _ _, _] _ _) _) _ _ _); refine Stop.go ?_)
  trivial
theorem cutObj {prog : Program} {w : World} {A : Around} {c : Sem Value} {Q E : Value → Shared → Prop} {s : Shared} {g : Heap} {L : Addr} {m : Str → Option Value} {news : List (Addr × Obj)} (x y : Int) (_ : Fr g L s.heap m) (_ : News g L s.heap news)
    (h1 : ∀ Q' : Value → Shared → Prop, (∀ r t t' h' tk', Fr g L h' m → News g L h' ((r, tup2 x y t t') :: news) → (∀ p ∈ news, p.1 < r) → L < r → Q' (.ref r) { s with heap := h', toks := tk' }) → wpAny (model prog w) A c Q' E s)
    (h2 : ∀ r t t' h' tk', Fr g L h' m → News g L h' ((r, tup2 x y t t') :: news) → (∀ p ∈ news, p.1 < r) → L < r → Q (.ref r) { s with heap := h', toks := tk' }) : wpAny (model prog w) A c Q E s := h1 Q h2
theorem get3 {prog : Program} {w : World} {A : Around} {g : Heap} {L d : Addr} {o : Obj} {news : List (Addr × Obj)} {s : Shared} {knd : PySem.KeyKind prog w Str} {kvs : List (Str × Value)} {key dflt v : Value} {k : Str} {Q E : Value → Shared → Prop}
    (N : News g L s.heap news) (hp : (d, o) ∈ news) (hd : o.IsDictOf knd kvs) (lo : (d == sysModules) = false) (hkey : knd.is k key = true) (hv : (valueAt kvs k).getD dflt = v) (h : Q v { s with toks := s.toks + 1 }) :
    wpAny (model prog w) A (call (.builtin "dict.get") [.ref d, key, dflt]) Q E s := kdg_get2 N hp hd lo hkey _ rfl (hv ▸ h)
theorem share_at {u : Str} {f c z : Addr} : (valueAt [(Str.ofString "em", .ref f), (Str.ofString "%", .ref c)] u).getD (.ref z) = .ref (if u = Str.ofString "em" then f else if u = Str.ofString "%" then c else z) := by
  by_cases h1 : u = Str.ofString "em"
  · rw [if_pos h1, h1, share_em]; rfl
  · by_cases h2 : u = Str.ofString "%"
    · rw [if_neg h1, if_pos h2, h2, share_pc]; rfl
    · rw [if_neg h1, if_neg h2, share_no h1 h2]; rfl
theorem share_frbd {u : Str} {a b w1 w2 f1 f2 : Int} (hw10 : -1000000000000000000000 < w1) (hw11 : w1 < 1000000000000000000000) (hw20 : 0 < w2) (hw21 : w2 < 1000000000000000000000) (hf10 : -1000000000000000000000 < f1) (hf11 : f1 < 1000000000000000000000) (hf20 : 0 < f2) (hf21 : f2 < 1000000000000000000000) (h1 : 0 ≤ a) (h2 : a < 10000) (h3 : 0 < b) (h4 : b < 1000) :
    (-1000000000000000000000000000000 < (shareF u a b (w1, w2) (f1, f2)).1 ∧ (shareF u a b (w1, w2) (f1, f2)).1 < 1000000000000000000000000000000 ∧ 0 < (shareF u a b (w1, w2) (f1, f2)).2 ∧ (shareF u a b (w1, w2) (f1, f2)).2 < 1000000000000000000000000000000) := by
  unfold shareF
  split
  · dsimp only; omega
  · split
    · exact fr_bd (by omega) (by omega) (by omega) (by omega)
    · dsimp only; omega
theorem lawlength_spec {w : World} {A : Around} {s : Shared} {x : Addr} {a b : Int} {ta tb : Tok} {g : Heap} {wa fa : Addr} {w1 w2 f1 f2 : Int} {tw tw' tf tf' : Tok} {Q E : Value → Shared → Prop}
    (R : Rd (hd.heap_1 w.params) 6 A g s) (hw : g.get? wa = some (tup2 w1 w2 tw tw')) (hf : g.get? fa = some (tup2 f1 f2 tf tf')) (hfoot : ∀ p ∈ [(x, srcO a b ta tb)], s.heap.get? p.1 = some p.2 ∧ g.get? p.1 = none) (ha0 : 0 ≤ a) (hb0 : 0 ≤ b) (hb1 : b < 2147483647) (hw10 : -1000000000000000000000 < w1) (hw11 : w1 < 1000000000000000000000) (hw20 : 0 < w2) (hw21 : w2 < 1000000000000000000000) (hf10 : -1000000000000000000000 < f1) (hf11 : f1 < 1000000000000000000000) (hf20 : 0 < f2) (hf21 : f2 < 1000000000000000000000)
    (hret : ∀ l p q t u u' r r' c d tc td h' tk', h'.get? r = some (pairO l t r') → h'.get? r' = some (tup2 p q u u') → h'.get? x = some (srcO c d tc td) → 0 ≤ c → 0 ≤ d → d < 2147483647 → g.StaysIn h' → LenOf l (w1, w2) (f1, f2) (p, q) → s.heap.objs.size ≤ r → s.heap.objs.size ≤ r' → r' ≠ r → Q (.ref r) { s with heap := h', toks := tk' }) :
    wpAny (model PySem.Challenge.rw_pf0197_01.row.prog w) A (call (.ref 464) [.ref x, .ref wa, .ref fa] []) Q E s := by
  revert R; k_fill; intro R
  have hsz := R.sz
  refine' enter (news := [(x, srcO a b ta tb)]) (args := ⟨[.ref x, .ref wa, .ref fa], []⟩) (binds := [(Str.ofString "source", .ref x), (Str.ofString "whole", .ref wa), (Str.ofString "letters", .ref fa)]) R ?foot ?ho ?hcd ?hbind ?hloc ?h ?hcell ?hco ?hgen ?hk
  case foot => exact hfoot
  case ho => k_is
  case hcd => k_is
  case hbind => exact BindsTo.of_eq rfl
  case hloc => exact locs rfl
  case hcell => decide
  case hco => exact rfl
  case hgen => exact rfl
  case hk => exact rfl
  clear R
  intro base dp un outer p loose mean mg mb L h₁ F' N' B' X' T' hDp hUn hl hs hA
  clear hA
  (try dsimp only); (try k_fold)
  k_steps
  refine Stop.out ?_
  rename NumOf _ _ _ => hnum
  rename (_, _, _) ∈ unitsT => hun
  obtain ⟨nl, np, nq, enl, enp, enq⟩ := name_num hnum
  subst enl enp enq
  obtain ⟨u, ua, ub, e1, e2, e3⟩ := name_unit hun
  subst e1 e2 e3
  obtain ⟨ul, e⟩ : ∃ ul, u = S ul := ⟨_, S_of u⟩
  subst e
  have hnf := num_facts hnum
  have hn1 := hnf.2.1
  have hn2 := hnf.2.2.1
  have hn3 := hnf.2.2.2.1
  have hn4 := hnf.2.2.2.2.1
  have hn5 := hnf.2.2.2.2.2.2.2
  have hul := units_len hun
  have hub := units_bd hun
  have hub1 := hub.1
  have hub2 := hub.2.1
  have hub3 := hub.2.2.1
  have hub4 := hub.2.2.2
  clear hnf hub
  (with_reducible rename News _ _ _ _ => Nz)
  (with_reducible rename Obj.IsDictOf _ _ (strPairs _) => hdz)
  (with_reducible rename (_ == sysModules) = false => hlo)
  simp only [strPairs] at hdz
  refine get3 Nz (by k_mem) hdz hlo (strKind_is _ _ _ _) share_at ?_
  have hsb := share_frbd (u := S ul) hw10 hw11 hw20 hw21 hf10 hf11 hf20 hf21 hub1 hub2 hub3 hub4
  generalize hD5 : (if S ul = Str.ofString "em" then _ else if S ul = Str.ofString "%" then _ else _ : Addr) = D5
  clear hdz hlo
  (try dsimp only); (try k_fold)
  k_steps
  refine Stop.out ?_
  (with_reducible rename Fr _ _ _ _ => Fz)
  (with_reducible rename News _ _ _ _ => Nz)
  refine cutObj (fr (shareF (S ul) ua ub (w1, w2) (f1, f2)).1 (shareF (S ul) ua ub (w1, w2) (f1, f2)).2).1 (fr (shareF (S ul) ua ub (w1, w2) (f1, f2)).1 (shareF (S ul) ua ub (w1, w2) (f1, f2)).2).2 Fz Nz ?_ ?_
  · intro Qc hq
    clear hret
    have hgo5 := True.intro
    by_cases hu1 : S ul = Str.ofString "em"
    · rw [if_pos hu1] at hD5
      have hgD : g.get? D5 = some (tup2 f1 f2 tf tf') := hD5 ▸ hf
      rw [show shareF (S ul) ua ub (w1, w2) (f1, f2) = (f1, f2) from if_pos hu1] at hq
      dsimp only at hq
      k_steps
      (with_reducible rename Fr _ _ _ _ => Fz)
      (with_reducible rename News _ _ _ _ => Nz)
      exact hq _ _ _ _ _ Fz Nz (by with_reducible assumption) (by with_reducible assumption)
    · rw [if_neg hu1] at hD5
      by_cases hu2 : S ul = Str.ofString "%"
      · rw [if_pos hu2] at hD5
        subst hD5
        rw [show shareF (S ul) ua ub (w1, w2) (f1, f2) = fr w1 (100 * w2) from (if_neg hu1).trans (if_pos hu2)] at hq
        have hc := fr_bd (x := w1) (y := 100 * w2) (B := 1000000000000000000000000000000) (by omega) (by omega) (by omega) (by omega)
        have hc3 := hc.2.2.1
        have hc4 := hc.2.2.2
        clear hc
        k_steps
        (with_reducible rename Fr _ _ _ _ => Fz)
        (with_reducible rename News _ _ _ _ => Nz)
        exact hq _ _ _ _ _ Fz Nz (by with_reducible assumption) (by with_reducible assumption)
      · rw [if_neg hu2] at hD5
        subst hD5
        rw [show shareF (S ul) ua ub (w1, w2) (f1, f2) = (ua, ub) from (if_neg hu1).trans (if_neg hu2)] at hq
        dsimp only at hq
        k_steps
        (with_reducible rename Fr _ _ _ _ => Fz)
        (with_reducible rename News _ _ _ _ => Nz)
        exact hq _ _ _ _ _ Fz Nz (by with_reducible assumption) (by with_reducible assumption)
  · clear Fz Nz hD5
    intro r5 t5 t5' h5 tk5 F5 N5 l5 m5
    have hb := fr_bd hsb.1 hsb.2.1 hsb.2.2.1 hsb.2.2.2
    have hb1 := hb.1
    have hb2 := hb.2.1
    have hb3 := hb.2.2.1
    have hb4 := hb.2.2.2
    clear hb hsb
    (try dsimp only); (try k_fold)
    k_steps
    (with_reducible rename Fr _ _ _ _ => Fz)
    (with_reducible rename News _ _ _ _ => Nz)
    exact hret _ _ _ _ _ _ _ _ _ _ _ _ _ _ (Nz.get (List.mem_cons_self ..)) (Nz.get (by k_mem)) (Nz.get (by k_mem)) (by with_reducible assumption) (by with_reducible assumption) (by with_reducible assumption) Fz.keep ⟨nl, np, nq, _, _, ul, ua, ub, hnum, by with_reducible assumption, by with_reducible assumption, hun, rfl, rfl⟩ (under (hsz.symm.trans hs) (by with_reducible assumption)) (under (hsz.symm.trans hs) (by with_reducible assumption)) (by k_ne)
end Mine
end
section --N2
namespace Mine
theorem fr_mul {k x y : Int} (hk : 0 < k) (hy : 0 < y) : fr (k * x) (k * y) = fr x y := by
  unfold fr
  have hg : ((Int.gcd (k * x) (k * y) : Nat) : Int) = k * (Int.gcd x y : Nat) := by
    rw [Int.gcd_mul_left, Int.natCast_mul, Int.natAbs_of_nonneg (by omega)]
  rw [hg]
  have h1 := Int.gcd_dvd_left x y
  have h2 := Int.gcd_dvd_right x y
  have hgz : 0 < ((Int.gcd x y : Nat) : Int) := by have := Int.gcd_pos_of_ne_zero_right x (Int.ne_of_gt hy); omega
  generalize ((Int.gcd x y : Nat) : Int) = G at hgz h1 h2
  obtain ⟨a, rfl⟩ := h1
  obtain ⟨b, rfl⟩ := h2
  have hkG : k * G ≠ 0 := Int.ne_of_gt (Int.mul_pos hk hgz)
  rw [← Int.mul_assoc, ← Int.mul_assoc, Int.mul_fdiv_cancel_left _ hkG, Int.mul_fdiv_cancel_left _ hkG, Int.mul_fdiv_cancel_left _ (by omega), Int.mul_fdiv_cancel_left _ (by omega)]
theorem fr_fac {x y : Int} (hy : 0 < y) : ∃ G, 0 < G ∧ x = G * (fr x y).1 ∧ y = G * (fr x y).2 := by
  unfold fr
  have h1 := Int.gcd_dvd_left x y
  have h2 := Int.gcd_dvd_right x y
  have hgz : 0 < ((Int.gcd x y : Nat) : Int) := by have := Int.gcd_pos_of_ne_zero_right x (Int.ne_of_gt hy); omega
  generalize ((Int.gcd x y : Nat) : Int) = G at hgz h1 h2
  obtain ⟨a, rfl⟩ := h1
  obtain ⟨b, rfl⟩ := h2
  dsimp only
  refine ⟨G, hgz, ?_, ?_⟩
  · rw [Int.mul_fdiv_cancel_left _ (by omega)]
  · rw [Int.mul_fdiv_cancel_left _ (by omega)]
theorem times_fr {p q x y : Int} (hq : 0 < q) (hy : 0 < y) : timesF (p, q) (fr x y) = timesF (p, q) (x, y) := by
  obtain ⟨G, hG, hx, hY⟩ := fr_fac (x := x) hy
  have hp := (fr_pos (x := x) hy).1
  unfold timesF
  dsimp only
  generalize (fr x y).1 = u at hx ⊢
  generalize (fr x y).2 = v at hY hp ⊢
  subst hx hY
  have e1 : p * (G * u) = G * (p * u) := by rw [Int.mul_left_comm]
  have e2 : q * (G * v) = G * (q * v) := by rw [Int.mul_left_comm]
  rw [e1, e2, fr_mul hG (Int.mul_pos hq hp)]
theorem fr_times {p q x y : Int} (hq : 0 < q) (hy : 0 < y) : timesF (fr x y) (p, q) = timesF (x, y) (p, q) := by
  have c : ∀ a b : Int × Int, timesF a b = timesF b a := fun a b => by unfold timesF; rw [Int.mul_comm a.1, Int.mul_comm a.2]
  rw [c, times_fr hq hy, c]
theorem pct_eq {p q x y : Int} (hq : 0 < q) (hy : 0 < y) : dividedF (timesF (p, q) (x, y)) (100, 1) = timesF (p, q) (x, 100 * y) := by
  obtain ⟨G, hG, hx, hY⟩ := fr_fac (x := p * x) (Int.mul_pos hq hy)
  have hp := (fr_pos (x := p * x) (Int.mul_pos hq hy)).1
  unfold dividedF timesF
  dsimp only
  have e : q * (100 * y) = (q * y) * 100 := by rw [Int.mul_left_comm, Int.mul_comm 100]
  rw [e]
  generalize (fr (p * x) (q * y)).1 = u at hx ⊢
  generalize (fr (p * x) (q * y)).2 = v at hY hp ⊢
  rw [hx, hY, Int.mul_one, Int.mul_assoc, fr_mul hG (by omega)]
theorem len_eq {ul : List Nat} {a b p q w1 w2 f1 f2 : Int} (h : (S ul, a, b) ∈ unitsT) (hq : 0 < q) (hw : 0 < w2) (hf : 0 < f2) :
    lengthF (S ul) (p, q) (w1, w2) (f1, f2) = timesF (p, q) (fr (shareF (S ul) a b (w1, w2) (f1, f2)).1 (shareF (S ul) a b (w1, w2) (f1, f2)).2) := by
  have sm : ∀ {x y : Int}, 0 < y → timesF (p, q) (fr x y) = timesF (p, q) (x, y) := fun h => times_fr hq h
  simp only [unitsT, List.mem_cons, Prod.mk.injEq, List.not_mem_nil, or_false] at h
  rcases h with ⟨e, rfl, rfl⟩ | ⟨e, rfl, rfl⟩ | ⟨e, rfl, rfl⟩ | ⟨e, rfl, rfl⟩ | ⟨e, rfl, rfl⟩ | ⟨e, rfl, rfl⟩ | ⟨e, rfl, rfl⟩ | ⟨e, rfl, rfl⟩ | ⟨e, rfl, rfl⟩
  · rw [e, lengthF_e]; unfold shareF; rw [if_neg (by decide), if_neg (by decide), sm (by decide)]
  · rw [e, lengthF_px]; unfold shareF; rw [if_neg (by decide), if_neg (by decide), sm (by decide)]
  · rw [e, lengthF_pt]; unfold shareF; rw [if_neg (by decide), if_neg (by decide), sm (by decide)]
  · rw [e, lengthF_pc]; unfold shareF; rw [if_neg (by decide), if_neg (by decide), sm (by decide)]
  · rw [e, lengthF_mm]; unfold shareF; rw [if_neg (by decide), if_neg (by decide), sm (by decide)]
  · rw [e, lengthF_cm]; unfold shareF; rw [if_neg (by decide), if_neg (by decide), sm (by decide)]
  · rw [e, lengthF_in]; unfold shareF; rw [if_neg (by decide), if_neg (by decide), sm (by decide)]
  · rw [e]; unfold shareF lengthF; rw [if_neg (by decide), if_pos rfl, if_pos rfl, sm hf]
  · rw [e]; unfold shareF lengthF; rw [if_pos rfl, if_neg (by decide), if_pos rfl, pct_eq hq hw, sm (fr_pos (by omega)).1, ← sm (by omega)]
end Mine
end
section --N3
namespace Mine
theorem drop_sp {p : Nat → Bool} : ∀ {a b : List Nat}, (∀ c ∈ a, p c = true) → (∀ c, b.head? = some c → p c = false) → (a ++ b).dropWhile p = b
  | [], [], _, _ => rfl
  | [], c :: r, _, h => by
    show (c :: r).dropWhile p = c :: r
    rw [List.dropWhile_cons, if_neg (by rw [h c rfl]; decide)]
  | c :: r, b, h, hb => by
    show (c :: (r ++ b)).dropWhile p = b
    rw [List.dropWhile_cons, if_pos (h c (.head _))]
    exact drop_sp (fun d hd => h d (.tail _ hd)) hb
theorem trim {pre core suf : List Nat} (hp : ∀ c ∈ pre, Unicode.isSpace c = true) (hs : ∀ c ∈ suf, Unicode.isSpace c = true) (hn : core ≠ []) (h0 : ∀ c, core.head? = some c → Unicode.isSpace c = false) (h1 : ∀ c, core.getLast? = some c → Unicode.isSpace c = false) :
    stripL (pre ++ core ++ suf) = core := by
  unfold stripL
  rw [List.append_assoc, drop_sp hp (fun c hc => by
    cases core with
    | nil => exact absurd rfl hn
    | cons d r => exact h0 c hc), List.reverse_append, drop_sp (fun c hc => hs c (by simpa using hc)) (fun c hc => by rw [List.head?_reverse] at hc; exact h1 c hc), List.reverse_reverse]
theorem num_nosp {c : Nat} (h : c = 43 ∨ c = 45 ∨ c = 46 ∨ (48 ≤ c ∧ c ≤ 57) ∨ c = 69 ∨ c = 101) : Unicode.isSpace c = false := by
  have : ∀ c, c < 102 → (c = 43 ∨ c = 45 ∨ c = 46 ∨ (48 ≤ c ∧ c ≤ 57) ∨ c = 69 ∨ c = 101) → Unicode.isSpace c = false := by decide +kernel
  exact this c (by omega) h
theorem suf_same {u v x : List Nat} (hl : u.length = v.length) : (u <:+ x ++ v) ↔ u = v := by
  constructor
  · rintro ⟨y, hy⟩
    exact (List.append_inj' hy hl).2
  · rintro rfl; exact List.suffix_append _ _
theorem suf_last {u t : List Nat} {c : Nat} (hu : u.getLast? = some c) (h : u <:+ t) : t.getLast? = some c := by
  obtain ⟨y, rfl⟩ := h
  rw [List.getLast?_append, hu]; rfl
theorem lu_px : Str.ofString "px" = S [112, 120] := by decide +kernel
theorem lu_pt : Str.ofString "pt" = S [112, 116] := by decide +kernel
theorem lu_pc : Str.ofString "pc" = S [112, 99] := by decide +kernel
theorem lu_mm : Str.ofString "mm" = S [109, 109] := by decide +kernel
theorem lu_cm : Str.ofString "cm" = S [99, 109] := by decide +kernel
theorem lu_in : Str.ofString "in" = S [105, 110] := by decide +kernel
theorem lu_em : Str.ofString "em" = S [101, 109] := by decide +kernel
theorem unit2 {x y v : List Nat} (hv : v ∈ [[112,120],[112,116],[112,99],[109,109],[99,109],[105,110],[101,109]]) (hx : stripL x = y) :
    stripL (x ++ v) = x ++ v → unitOf (x ++ v) = (y, S v) := by
  intro ht
  have hl : v.length = 2 := (by decide : ∀ v ∈ ([[112,120],[112,116],[112,99],[109,109],[99,109],[105,110],[101,109]] : List (List Nat)), v.length = 2) v hv
  have sf : ∀ a b : Nat, ([a, b] <:+ x ++ v) ↔ [a, b] = v := fun a b => suf_same (by rw [hl]; rfl)
  unfold unitOf
  rw [ht]
  have hc : (x ++ v).take ((x ++ v).length - 2) = x := by
    rw [List.length_append, hl, Nat.add_sub_cancel, List.take_left]
  rw [lu_px, lu_pt, lu_pc, lu_mm, lu_cm, lu_in, lu_em]
  simp only [ends_S, decide_eq_true_eq, hc, hx, sf]
  simp only [List.mem_cons, List.not_mem_nil, or_false] at hv
  rcases hv with rfl | rfl | rfl | rfl | rfl | rfl | rfl <;> simp
theorem lu_pct : Str.ofString "%" = S [37] := by decide +kernel
theorem unitP {x y : List Nat} (hx : stripL x = y) (ht : stripL (x ++ [37]) = x ++ [37]) : unitOf (x ++ [37]) = (y, S [37]) := by
  have nl : ∀ a b : Nat, b ≠ 37 → ¬ ([a, b] <:+ x ++ [37]) := fun a b hb h => by
    have := suf_last (c := b) rfl h
    rw [List.getLast?_append] at this
    simp at this
    exact hb this.symm
  have hc : (x ++ [37]).take ((x ++ [37]).length - 1) = x := by
    rw [List.length_append, List.length_singleton, Nat.add_sub_cancel, List.take_left]
  unfold unitOf
  rw [ht]
  rw [lu_px, lu_pt, lu_pc, lu_mm, lu_cm, lu_in, lu_em, lu_pct]
  simp only [ends_S, decide_eq_true_eq, hc, hx, nl 112 120 (by decide), nl 112 116 (by decide), nl 112 99 (by decide), nl 109 109 (by decide), nl 99 109 (by decide), nl 105 110 (by decide), nl 101 109 (by decide), List.suffix_append, if_true, if_false]
theorem unit0 {x : List Nat} {c : Nat} (hx : stripL x = x) (hc : x.getLast? = some c) (hd : isDig c = true) : unitOf x = (x, S []) := by
  obtain ⟨d0, d1⟩ := isDig_iff.mp hd
  have nl : ∀ a b : Nat, ¬ (48 ≤ b ∧ b ≤ 57) → ¬ ([a, b] <:+ x) := fun a b hb h => by
    have := suf_last (c := b) rfl h
    rw [hc] at this
    exact hb (by cases this; exact ⟨d0, d1⟩)
  have n1 : ¬ ([37] <:+ x) := fun h => by
    have := suf_last (c := 37) rfl h
    rw [hc] at this
    cases this; omega
  unfold unitOf
  rw [hx]
  rw [lu_px, lu_pt, lu_pc, lu_mm, lu_cm, lu_in, lu_em, lu_pct, lit_empty]
  simp only [ends_S, decide_eq_true_eq, nl 112 120 (by decide), nl 112 116 (by decide), nl 112 99 (by decide), nl 109 109 (by decide), nl 99 109 (by decide), nl 105 110 (by decide), nl 101 109 (by decide), n1, if_false]
theorem unit_strip {l c : List Nat} (h1 : stripL l = c) (h2 : stripL c = c) : unitOf l = unitOf c := by
  unfold unitOf; rw [h1, h2]
theorem num_ends {l : List Nat} (h : ∀ c ∈ l, c = 43 ∨ c = 45 ∨ c = 46 ∨ (48 ≤ c ∧ c ≤ 57) ∨ c = 69 ∨ c = 101) (hd : isDig (l.getLast?.getD 0) = true) :
    l ≠ [] ∧ (∀ c, l.head? = some c → Unicode.isSpace c = false) ∧ (∀ c, l.getLast? = some c → Unicode.isSpace c = false) ∧ ∃ c, l.getLast? = some c ∧ isDig c = true := by
  have hn : l ≠ [] := by rintro rfl; exact absurd hd (by decide)
  refine ⟨hn, fun c hc => num_nosp (h c (List.mem_of_mem_head? hc)), fun c hc => num_nosp (h c (List.mem_of_getLast? hc)), ?_⟩
  cases e : l.getLast? with
  | none => exact absurd (List.getLast?_eq_none_iff.mp e) hn
  | some c => rw [e] at hd; exact ⟨c, rfl, hd⟩
theorem sp_pre {pre : List Nat} (h : pre ∈ ([[], [32]] : List (List Nat))) : (∀ c ∈ pre, Unicode.isSpace c = true) ∧ pre.length ≤ 1 := by
  revert h; revert pre; decide +kernel
theorem sp_gap {gap : List Nat} (h : gap ∈ ([[], [], [32]] : List (List Nat))) : (∀ c ∈ gap, Unicode.isSpace c = true) ∧ gap.length ≤ 1 := by
  revert h; revert gap; decide +kernel
theorem last_ne {ul : List Nat} (hn : ul ≠ []) : ∀ x : List Nat, (x ++ ul).getLast? = ul.getLast? := fun x => by
  rw [List.getLast?_append]
  cases e : ul.getLast? with
  | none => exact absurd (List.getLast?_eq_none_iff.mp e) hn
  | some c => rfl
theorem units_cases {ul : List Nat} {a b : Int} (h : (S ul, a, b) ∈ unitsT) : ul = [] ∨ ul ∈ ([[112,120],[112,116],[112,99],[109,109],[99,109],[105,110],[101,109]] : List (List Nat)) ∨ ul = [37] := by
  simp only [unitsT, List.mem_cons, Prod.mk.injEq, List.not_mem_nil, or_false] at h
  rcases h with ⟨e, -⟩ | ⟨e, -⟩ | ⟨e, -⟩ | ⟨e, -⟩ | ⟨e, -⟩ | ⟨e, -⟩ | ⟨e, -⟩ | ⟨e, -⟩ | ⟨e, -⟩
  · exact .inl (S_inj (e.trans lit_empty))
  · rw [S_inj (e.trans lu_px)]; exact .inr (.inl (by simp))
  · rw [S_inj (e.trans lu_pt)]; exact .inr (.inl (by simp))
  · rw [S_inj (e.trans lu_pc)]; exact .inr (.inl (by simp))
  · rw [S_inj (e.trans lu_mm)]; exact .inr (.inl (by simp))
  · rw [S_inj (e.trans lu_cm)]; exact .inr (.inl (by simp))
  · rw [S_inj (e.trans lu_in)]; exact .inr (.inl (by simp))
  · rw [S_inj (e.trans lu_em)]; exact .inr (.inl (by simp))
  · exact .inr (.inr (S_inj (e.trans lu_pct)))
theorem built {pre nl gap ul : List Nat} {a b : Int} (hp : ∀ c ∈ pre, Unicode.isSpace c = true) (hg : ∀ c ∈ gap, Unicode.isSpace c = true) (hu : (S ul, a, b) ∈ unitsT)
    (h : ∀ c ∈ nl, c = 43 ∨ c = 45 ∨ c = 46 ∨ (48 ≤ c ∧ c ≤ 57) ∨ c = 69 ∨ c = 101) (hd : isDig (nl.getLast?.getD 0) = true) : unitOf (pre ++ nl ++ gap ++ ul ++ gap) = (nl, S ul) := by
  obtain ⟨hn, h0, h1, c, hc, hdc⟩ := num_ends h hd
  have hx : stripL nl = nl := by
    have := trim (pre := []) (suf := []) (fun c h => nomatch h) (fun c h => nomatch h) hn h0 h1
    simpa using this
  have hx2 : stripL (nl ++ gap) = nl := by
    have := trim (pre := []) (suf := gap) (fun c h => nomatch h) hg hn h0 h1
    simpa using this
  have core : ∀ {ul : List Nat}, ul ≠ [] → (∀ c, ul.getLast? = some c → Unicode.isSpace c = false) → stripL (pre ++ nl ++ gap ++ ul ++ gap) = nl ++ gap ++ ul ∧ stripL (nl ++ gap ++ ul) = nl ++ gap ++ ul := fun {ul} hu hl => by
    have e0 : nl ++ gap ++ ul ≠ [] := by simp [hn]
    have e1 : ∀ c, (nl ++ gap ++ ul).head? = some c → Unicode.isSpace c = false := fun c hc => h0 c (by
      rw [List.append_assoc, List.head?_append] at hc
      cases e : nl.head? with
      | none => exact absurd (List.head?_eq_none_iff.mp e) hn
      | some d => rw [e] at hc; exact hc)
    have e2 : ∀ c, (nl ++ gap ++ ul).getLast? = some c → Unicode.isSpace c = false := fun c hc => hl c (by rwa [last_ne hu] at hc)
    refine ⟨?_, ?_⟩
    · have := trim hp hg e0 e1 e2
      simpa only [List.append_assoc] using this
    · have := trim (pre := []) (suf := []) (fun c h => nomatch h) (fun c h => nomatch h) e0 e1 e2
      simpa using this
  rcases units_cases hu with rfl | hm | rfl
  · have e : stripL (pre ++ nl ++ gap ++ [] ++ gap) = nl := by
      have := trim (suf := gap ++ gap) hp (fun c hc => by rcases List.mem_append.mp hc with h | h <;> exact hg c h) hn h0 h1
      simpa only [List.append_assoc, List.append_nil] using this
    rw [unit_strip e hx]
    exact unit0 hx hc hdc
  · have hun : ul ≠ [] ∧ ∀ c, ul.getLast? = some c → Unicode.isSpace c = false := by revert hm; clear hu; revert ul; decide +kernel
    obtain ⟨e1, e2⟩ := core hun.1 hun.2
    rw [unit_strip e1 e2]
    exact unit2 hm hx2 e2
  · obtain ⟨e1, e2⟩ := core (ul := [37]) (by decide) (by decide +kernel)
    rw [unit_strip e1 e2]
    exact unitP hx2 e2
end Mine
end
section --N4
namespace Mine
theorem times_bd {p q x y : Int} (hq : 0 < q) (hy : 0 < y) : (timesF (p, q) (x, y)).1.natAbs ≤ p.natAbs * x.natAbs ∧ 0 < (timesF (p, q) (x, y)).2 ∧ (timesF (p, q) (x, y)).2 ≤ q * y := by
  have h := fr_top (x := p * x) (Int.mul_pos hq hy)
  have h2 := fr_pos (x := p * x) (Int.mul_pos hq hy)
  rw [Int.natAbs_mul] at h
  exact ⟨h, h2⟩
theorem na_mul {a X : Int} (h : a.natAbs ≤ 10000 * X.toNat) (hX : 0 ≤ X) : -(10000 * X) ≤ a ∧ a ≤ 10000 * X := by k_extra "a9"
theorem times_num {p q x y X Y : Int} (h0 : -10000 < p) (h1 : p < 10000) (hq : 0 < q) (hq1 : q < 100) (hx0 : -X ≤ x) (hx1 : x ≤ X) (hy : 0 < y) (hy1 : y ≤ Y) :
    -(10000 * X) ≤ (timesF (p, q) (x, y)).1 ∧ (timesF (p, q) (x, y)).1 ≤ 10000 * X ∧ 0 < (timesF (p, q) (x, y)).2 ∧ (timesF (p, q) (x, y)).2 ≤ 100 * Y := by
  obtain ⟨a, b, c⟩ := times_bd (p := p) (x := x) hq hy
  have e : p.natAbs * x.natAbs ≤ 10000 * X.toNat := Nat.mul_le_mul (by k_extra "a9") (by k_extra "a9")
  have e2 : q * y ≤ 100 * Y := by
    have : q * y ≤ 100 * y := Int.mul_le_mul_of_nonneg_right (by k_extra "a9") (by k_extra "a9")
    k_extra "a9"
  have h9 := na_mul (Nat.le_trans a e) (by k_extra "a9")
  exact ⟨h9.1, h9.2, b, Int.le_trans c e2⟩
theorem share_bd {ul : List Nat} {a b w1 w2 f1 f2 X Y : Int} (h : (S ul, a, b) ∈ unitsT) (hw0 : -X ≤ w1) (hw1 : w1 ≤ X) (hf0 : -X ≤ f1) (hf1 : f1 ≤ X) (hX : 10000 ≤ X) (hw2 : 0 < w2) (hw3 : 100 * w2 ≤ Y) (hf2 : 0 < f2) (hf3 : f2 ≤ Y) (hY : 1000 ≤ Y) :
    -X ≤ (shareF (S ul) a b (w1, w2) (f1, f2)).1 ∧ (shareF (S ul) a b (w1, w2) (f1, f2)).1 ≤ X ∧ 0 < (shareF (S ul) a b (w1, w2) (f1, f2)).2 ∧ (shareF (S ul) a b (w1, w2) (f1, f2)).2 ≤ Y := by
  have hb := units_bd h
  have ht := fr_le (x := w1) (y := 100 * w2) (by k_extra "a9") hw0 hw1
  have hp := fr_pos (x := w1) (y := 100 * w2) (by k_extra "a9")
  unfold shareF
  split
  · exact ⟨hf0, hf1, hf2, hf3⟩
  · split
    · exact ⟨ht.1, ht.2, hp.1, Int.le_trans hp.2 hw3⟩
    · clear ht hp
      exact ⟨by dsimp only; k_extra "a9", by dsimp only; k_extra "a9", hb.2.2.1, by dsimp only; k_extra "a9"⟩
theorem len_read {l : List Nat} {w1 w2 f1 f2 : Int} {d : Int × Int} (h : LenOf l (w1, w2) (f1, f2) d) (hw : 0 < w2) (hf : 0 < f2) :
    ∃ nl u p q, unitOf l = (nl, u) ∧ readDec nl = some (p, q) ∧ (-10000 < p ∧ p < 10000 ∧ 0 < q ∧ q < 100) ∧ l.length ≤ 25 ∧ lengthF u (p, q) (w1, w2) (f1, f2) = d ∧
      (∀ X Y : Int, -X ≤ w1 → w1 ≤ X → -X ≤ f1 → f1 ≤ X → 10000 ≤ X → 100 * w2 ≤ Y → f2 ≤ Y → 1000 ≤ Y → -(10000 * X) ≤ d.1 ∧ d.1 ≤ 10000 * X ∧ 0 < d.2 ∧ d.2 ≤ 100 * Y) := by
  obtain ⟨nl, p, q, pre, gap, ul, a, b, hn, hpre, hgap, hun, rfl, rfl⟩ := h
  obtain ⟨h1, h2, h3, h4, h5, h6, h7, h8⟩ := num_facts hn
  refine ⟨nl, S ul, p, q, built (sp_pre hpre).1 (sp_gap hgap).1 hun h6 h7, h1, ⟨h2, h3, h4, h5⟩, ?_, len_eq hun h4 hw hf, ?_⟩
  · have hul := units_len hun
    have := (sp_pre hpre).2
    have := (sp_gap hgap).2
    simp only [List.length_append]; k_extra "a9"
  · intro X Y a1 a2 a3 a4 a5 a6 a7 a8
    obtain ⟨s1, s2, s3, s4⟩ := share_bd hun a1 a2 a3 a4 a5 hw a6 hf a7 a8
    have ht := fr_le (x := (shareF (S ul) a b (w1, w2) (f1, f2)).1) s3 s1 s2
    have hp := fr_pos (x := (shareF (S ul) a b (w1, w2) (f1, f2)).1) s3
    exact times_num (x := (fr (shareF (S ul) a b (w1, w2) (f1, f2)).1 (shareF (S ul) a b (w1, w2) (f1, f2)).2).1) (y := (fr (shareF (S ul) a b (w1, w2) (f1, f2)).1 (shareF (S ul) a b (w1, w2) (f1, f2)).2).2) h2 h3 h4 h5 ht.1 ht.2 hp.1 (Int.le_trans hp.2 s4)
theorem roundedF_255 : roundedF (timesF (1, 1) (255, 1)) = 255 := by decide +kernel
theorem roundedF_0 : roundedF (timesF (0, 1) (255, 1)) = 0 := by decide +kernel
theorem rounded_share {s0 s1 : Int} (h : 0 < s1) : roundedF (timesF (s0, s1) (255, 1)) = Int.fdiv (2 * 255 * s0 + s1) (2 * s1) := by
  obtain ⟨G, hG, hx, hY⟩ := fr_fac (x := s0 * 255) h
  unfold roundedF timesF
  dsimp only
  rw [Int.mul_one]
  have hp := (fr_pos (x := s0 * 255) h).1
  generalize (fr (s0 * 255) s1).1 = u at hx ⊢
  generalize (fr (s0 * 255) s1).2 = v at hY hp ⊢
  have e1 : 2 * 255 * s0 + s1 = G * (2 * u + v) := by rw [Int.mul_add, ← hY, Int.mul_left_comm, ← hx]; k_extra "a9"
  have e2 : 2 * s1 = G * (2 * v) := by rw [Int.mul_left_comm, ← hY]
  rw [e1, e2, Int.mul_fdiv_mul_of_pos _ _ hG]
theorem num_strip {l : List Nat} {p q : Int} (h : NumOf l p q) : unitOf l = (l, S []) ∧ unitOf (l ++ [37]) = (l, S [37]) := by
  obtain ⟨h1, h2, h3, h4, h5, h6, h7, h8⟩ := num_facts h
  have u0 : (S [], (1 : Int), (1 : Int)) ∈ unitsT := by rw [← lit_empty]; simp [unitsT]
  have u1 : (S [37], (0 : Int), (1 : Int)) ∈ unitsT := by rw [← lu_pct]; simp [unitsT]
  have a := built (pre := []) (gap := []) (fun c h => nomatch h) (fun c h => nomatch h) u0 h6 h7
  have b := built (pre := []) (gap := []) (fun c h => nomatch h) (fun c h => nomatch h) u1 h6 h7
  simp only [List.append_nil, List.nil_append] at a b
  exact ⟨a, b⟩
end Mine
end
section --N5
set_option maxHeartbeats 400000
namespace Mine
noncomputable def Reads (l : List Nat) (w1 w2 f1 f2 d1 d2 : Int) : Prop := ∃ nl u a b, unitOf l = (nl, u) ∧ readDec nl = some (a, b) ∧
  (-1000000000000000000000000000000 < a ∧ a < 1000000000000000000000000000000 ∧ 0 < b ∧ b < 1000000000000000000000000000000) ∧ l.length ≤ 1000 ∧ lengthF u (a, b) (w1, w2) (f1, f2) = (d1, d2) ∧
  (u = Str.ofString "%" → (-1000000000000000000000000000000 < (timesF (a, b) (w1, w2)).1 ∧ (timesF (a, b) (w1, w2)).1 < 1000000000000000000000000000000 ∧ 0 < (timesF (a, b) (w1, w2)).2 ∧ (timesF (a, b) (w1, w2)).2 < 1000000000000000000000000000000))
theorem length_spec' {w : World} {A : Around} {s : Shared} {l : List Nat} {tl : Tok} {w1 w2 f1 f2 d1 d2 : Int} {wa fa : Addr} {tw tw' tf tf' : Tok} {Q E : Value → Shared → Prop}
    (R : Rd (hd.heap_1 w.params) 8 A s.heap s) (hR : Reads l w1 w2 f1 f2 d1 d2) (hw : s.heap.get? wa = some (tup2 w1 w2 tw tw')) (hf : s.heap.get? fa = some (tup2 f1 f2 tf tf')) (hw10 : -1000000000000000000000000000000 < w1) (hw11 : w1 < 1000000000000000000000000000000) (hw20 : 0 < w2) (hw21 : w2 < 1000000000000000000000000000000) (hf10 : -1000000000000000000000000000000 < f1) (hf11 : f1 < 1000000000000000000000000000000) (hf20 : 0 < f2) (hf21 : f2 < 1000000000000000000000000000000)
    (hret : ∀ r t t' h' tk', s.heap.StaysIn h' → s.heap.objs.size ≤ r → h'.get? r = some (tup2 d1 d2 t t') → Q (.ref r) { s with heap := h', toks := tk' }) :
    wpAny (model PySem.Challenge.rw_pf0197_01.row.prog w) A (call (.ref 231) [.str (S l) tl, .ref wa, .ref fa] []) Q E s := by
  obtain ⟨nl, u, a, b, h1, h2, ⟨h3, h4, h5, h6⟩, h7, h8, h9⟩ := hR
  refine length_spec R h7 h1 h2 hw hf h3 h4 h5 h6 hw10 hw11 hw20 hw21 hf10 hf11 hf20 hf21 h9 ?_
  rw [h8]; exact hret
theorem length2_spec' {w : World} {A : Around} {s : Shared} {l : List Nat} {tl : Tok} {w1 w2 d1 d2 : Int} {wa : Addr} {tw tw' : Tok} {Q E : Value → Shared → Prop}
    (R : Rd (hd.heap_1 w.params) 8 A s.heap s) (hR : Reads l w1 w2 16 1 d1 d2) (hw : s.heap.get? wa = some (tup2 w1 w2 tw tw')) (hw10 : -1000000000000000000000000000000 < w1) (hw11 : w1 < 1000000000000000000000000000000) (hw20 : 0 < w2) (hw21 : w2 < 1000000000000000000000000000000)
    (hret : ∀ r t t' h' tk', s.heap.StaysIn h' → s.heap.objs.size ≤ r → h'.get? r = some (tup2 d1 d2 t t') → Q (.ref r) { s with heap := h', toks := tk' }) :
    wpAny (model PySem.Challenge.rw_pf0197_01.row.prog w) A (call (.ref 231) [.str (S l) tl, .ref wa] []) Q E s := by
  obtain ⟨nl, u, a, b, h1, h2, ⟨h3, h4, h5, h6⟩, h7, h8, h9⟩ := hR
  refine length2_spec R h7 h1 h2 hw h3 h4 h5 h6 hw10 hw11 hw20 hw21 h9 ?_
  rw [h8]; exact hret
theorem len_reads {l : List Nat} {w1 w2 f1 f2 d1 d2 : Int} (X Y : Int) (h : LenOf l (w1, w2) (f1, f2) (d1, d2)) (hw : 0 < w2) (hf : 0 < f2)
    (a1 : -X ≤ w1) (a2 : w1 ≤ X) (a3 : -X ≤ f1) (a4 : f1 ≤ X) (a5 : 10000 ≤ X) (a6 : 100 * w2 ≤ Y) (a7 : f2 ≤ Y) (a8 : 1000 ≤ Y) (hX : 10000 * X < 1000000000000000000000000000000) (hY : 100 * Y < 1000000000000000000000000000000) :
    Reads l w1 w2 f1 f2 d1 d2 ∧ -(10000 * X) ≤ d1 ∧ d1 ≤ 10000 * X ∧ 0 < d2 ∧ d2 ≤ 100 * Y ∧ l.length ≤ 25 := by
  obtain ⟨nl, u, p, q, h1, h2, ⟨h3, h4, h5, h6⟩, h7, h8, h9⟩ := len_read h hw hf
  have hb := h9 X Y a1 a2 a3 a4 a5 a6 a7 a8
  refine ⟨⟨nl, u, p, q, h1, h2, ⟨by omega, by omega, h5, by omega⟩, by omega, h8, fun _ => ?_⟩, hb.1, hb.2.1, hb.2.2.1, hb.2.2.2, h7⟩
  have ht := times_num (x := w1) (y := w2) (X := X) (Y := Y) h3 h4 h5 h6 a1 a2 hw (by omega)
  exact ⟨Int.lt_of_lt_of_le (by omega) ht.1, Int.lt_of_le_of_lt ht.2.1 hX, ht.2.2.1, Int.lt_of_le_of_lt ht.2.2.2 hY⟩
theorem num_reads {l : List Nat} {p q : Int} (h : NumOf l p q) : ∃ d1 d2, (-10000 < p ∧ p < 10000 ∧ 0 < q ∧ q < 100 ∧ l.length ≤ 20) ∧ fr p q = (d1, d2) ∧ Reads l 1 1 16 1 d1 d2 ∧ -1000000 < d1 ∧ d1 < 1000000 ∧ 0 < d2 ∧ d2 < 1000000 := by
  obtain ⟨h1, h2, h3, h4, h5, h6, h7, h8⟩ := num_facts h
  have ht := fr_bd (B := 10000) h2 h3 h4 (Int.lt_trans h5 (by decide))
  refine ⟨(fr p q).1, (fr p q).2, ⟨h2, h3, h4, h5, h8⟩, rfl, ⟨l, S [], p, q, (num_strip h).1, h1, ⟨Int.lt_trans (by decide) h2, Int.lt_trans h3 (by decide), h4, Int.lt_trans h5 (by decide)⟩, by omega, ?_, fun e => ?_⟩, Int.lt_trans (by decide) ht.1, Int.lt_trans ht.2.1 (by decide), ht.2.2.1, Int.lt_trans ht.2.2.2 (by decide)⟩
  · rw [← lit_empty, lengthF_e]; unfold timesF; simp
  · rw [lu_pct] at e; exact absurd (S_inj e) (by decide)
theorem pct_reads {l : List Nat} {p q : Int} (h : NumOf l p q) : ∃ d1 d2, fr p (q * 100) = (d1, d2) ∧ Reads (l ++ [37]) 1 1 16 1 d1 d2 ∧ -1000000 < d1 ∧ d1 < 1000000 ∧ 0 < d2 ∧ d2 < 1000000 := by
  obtain ⟨h1, h2, h3, h4, h5, h6, h7, h8⟩ := num_facts h
  have ht := fr_bd (x := p) (y := q * 100) (B := 10000) h2 h3 (by omega) (by omega)
  refine ⟨(fr p (q * 100)).1, (fr p (q * 100)).2, rfl, ⟨l, S [37], p, q, (num_strip h).2, h1, ⟨Int.lt_trans (by decide) h2, Int.lt_trans h3 (by decide), h4, Int.lt_trans h5 (by decide)⟩, by simp; omega, ?_, fun e => ?_⟩, Int.lt_trans (by decide) ht.1, Int.lt_trans ht.2.1 (by decide), ht.2.2.1, Int.lt_trans ht.2.2.2 (by decide)⟩
  · unfold lengthF; rw [lu_pct, if_pos rfl, pct_eq h4 (by decide)]; unfold timesF; simp
  · have := times_num (x := 1) (y := 1) (X := 1) (Y := 1) h2 h3 h4 h5 (by decide) (by decide) (by decide) (by decide)
    exact ⟨Int.lt_of_lt_of_le (by decide) this.1, Int.lt_of_le_of_lt this.2.1 (by decide), this.2.2.1, Int.lt_of_le_of_lt this.2.2.2 (by decide)⟩
theorem num_bd {l : List Nat} {p q : Int} (h : NumOf l p q) : -10000 < p ∧ p < 10000 ∧ 0 < q ∧ q < 100 := let ⟨_, b, c, d, e, _⟩ := num_facts h; ⟨b, c, d, e⟩
noncomputable def boundF (d : Int × Int) : Int × Int := if d.1 < 0 then (0, 1) else if d.1 > d.2 then (1, 1) else d
theorem opacity_due {s0 s1 : Int} (h : 0 < s1) : roundedF (timesF (boundF (s0, s1)) (255, 1)) = if s0 < 0 then 0 else if s0 > s1 then 255 else Int.fdiv (2 * 255 * s0 + s1) (2 * s1) := by
  unfold boundF
  dsimp only
  split
  · exact roundedF_0
  · split
    · exact roundedF_255
    · exact rounded_share h
end Mine
end
section --N9
namespace Mine
theorem natL_lt : ∀ m, m < 10 → natL m = [48 + m] := by decide
theorem natL_step {m : Nat} (h : 10 ≤ m) : natL m = natL (m / 10) ++ [48 + m % 10] := by
  have t : Nat.toDigits 10 (m / 10) ++ Nat.toDigits 10 (m % 10) = Nat.toDigits 10 (10 * (m / 10) + m % 10) := Nat.toDigits_append_toDigits (by decide) (by k_extra "a9") (Nat.mod_lt _ (by decide))
  rw [Nat.div_add_mod] at t
  have e := natL_lt (m % 10) (Nat.mod_lt _ (by decide))
  unfold natL at e ⊢
  rw [← t, List.map_append, e]
theorem natL_all (m : Nat) : (∀ c ∈ natL m, isDig c = true) ∧ natL m ≠ [] ∧ wholeL (natL m) = m ∧ ∃ c, (natL m).getLast? = some c ∧ isDig c = true := by
  induction m using Nat.strongRecOn with
  | _ m ih =>
    by_cases h : m < 10
    · rw [natL_lt m h]
      refine ⟨fun c hc => ?_, List.cons_ne_nil _ _, ?_, 48 + m, rfl, ?_⟩
      · rw [List.mem_singleton.mp hc]; simp [isDig]; k_extra "a9"
      · simp [wholeL]; k_extra "a9"
      · simp [isDig]; k_extra "a9"
    · rw [natL_step (by k_extra "a9")]
      obtain ⟨a, b, c, _⟩ := ih (m / 10) (by k_extra "a9")
      have hd : isDig (48 + m % 10) = true := by simp [isDig]; k_extra "a9"
      refine ⟨fun d hdm => ?_, by simp, ?_, 48 + m % 10, by simp, hd⟩
      · rcases List.mem_append.mp hdm with q | q
        · exact a d q
        · rw [List.mem_singleton.mp q]; exact hd
      · rw [wholeL_snoc, c]; k_extra "a9"
theorem oneOf_at (a b : List Nat) (c : Nat) (y : Str) : oneOf (a ++ c :: b) (a.length : Int) y = y.cps.contains c := by
  unfold oneOf
  rw [if_pos (by simp; k_extra "a9")]
  simp
theorem oneOf_end (a : List Nat) (y : Str) : oneOf a (a.length : Int) y = false := by
  unfold oneOf
  rw [if_neg (by k_extra "a9")]
theorem dig_at {a ds b : List Nat} (h : ∀ c ∈ ds, isDig c = true) (hb : ∀ c, b.head? = some c → isDig c = false) : digL (a ++ ds ++ b) (a.length : Int) = ds := by
  unfold digL
  have e : (a.length : Int).toNat = a.length := by k_extra "a9"
  rw [e, List.append_assoc, List.drop_left]
  clear e
  induction ds with
  | nil =>
    cases b with
    | nil => rfl
    | cons c r => simp [hb c rfl]
  | cons c r ih =>
    rw [List.cons_append, List.takeWhile_cons, if_pos (h c (.head _)), ih fun d hd => h d (.tail _ hd)]
theorem sgn_in (c : Nat) : (Str.ofString "+-").cps.contains c = decide (c = 43 ∨ c = 45) := by
  rw [show Str.ofString "+-" = S [43, 45] from by decide +kernel, S_cps, Bool.eq_iff_iff]; simp
theorem dot_in (c : Nat) : (Str.ofString ".").cps.contains c = decide (c = 46) := by
  rw [show Str.ofString "." = S [46] from by decide +kernel, S_cps, Bool.eq_iff_iff]; simp
theorem exp_in (c : Nat) : (Str.ofString "eE").cps.contains c = decide (c = 101 ∨ c = 69) := by
  rw [show Str.ofString "eE" = S [101, 69] from by decide +kernel, S_cps, Bool.eq_iff_iff]; simp
theorem lit_minus' : Str.ofString "-" = S [45] := by decide +kernel
theorem rd_gen {sg ds tl : List Nat} (hs : sg = [] ∨ sg = [45]) (hd : ∀ c ∈ ds, isDig c = true) (hn : ds ≠ []) (ht : tl = [] ∨ tl = [101, 45, 54]) (hB : wholeL ds < B50) (hB0 : 0 ≤ wholeL ds) :
    readDec (sg ++ ds ++ tl) = (if tl = [] then some ((if sg = [] then wholeL ds else -wholeL ds) * 10 ^ 0, 1) else some (fr (if sg = [] then wholeL ds else -wholeL ds) (10 ^ 6))) := by
  obtain ⟨d0, dr, rfl⟩ : ∃ d0 dr, ds = d0 :: dr := by cases ds with | nil => exact absurd rfl hn | cons a b => exact ⟨a, b, rfl⟩
  have hd0 := isDig_iff.mp (hd d0 (.head _))
  have h1 : skipL (sg ++ (d0 :: dr) ++ tl) 0 (Str.ofString "+-") = sg ∧ skipAt (sg ++ (d0 :: dr) ++ tl) 0 (Str.ofString "+-") = (sg.length : Int) := by
    rcases hs with rfl | rfl
    · have e := oneOf_at [] (dr ++ tl) d0 (Str.ofString "+-")
      rw [sgn_in, decide_eq_false (by k_extra "a9")] at e
      have e' : oneOf (([] : List Nat) ++ (d0 :: dr) ++ tl) 0 (Str.ofString "+-") = false := e
      unfold skipL skipAt
      rw [e']; exact ⟨rfl, rfl⟩
    · have e := oneOf_at [] (d0 :: (dr ++ tl)) 45 (Str.ofString "+-")
      rw [sgn_in, decide_eq_true (by k_extra "a9")] at e
      have e' : oneOf ([45] ++ (d0 :: dr) ++ tl) 0 (Str.ofString "+-") = true := e
      unfold skipL skipAt
      rw [e']; exact ⟨rfl, rfl⟩
  have hth : ∀ c, tl.head? = some c → isDig c = false := fun c hc => by
    rcases ht with rfl | rfl
    · cases hc
    · cases hc; decide
  have h2 : digL (sg ++ (d0 :: dr) ++ tl) (sg.length : Int) = d0 :: dr := dig_at hd hth
  have hlen : ((sg.length : Int) + ((d0 :: dr).length : Int)) = ((sg ++ (d0 :: dr)).length : Int) := by rw [List.length_append]; k_extra "a9"
  have h3 : oneOf (sg ++ (d0 :: dr) ++ tl) ((sg ++ (d0 :: dr)).length : Int) (Str.ofString ".") = false := by
    rcases ht with rfl | rfl
    · rw [List.append_nil]; exact oneOf_end _ _
    · rw [oneOf_at, dot_in]; decide
  have h4 : skipL (sg ++ (d0 :: dr) ++ tl) ((sg ++ (d0 :: dr)).length : Int) (Str.ofString ".") = [] ∧ skipAt (sg ++ (d0 :: dr) ++ tl) ((sg ++ (d0 :: dr)).length : Int) (Str.ofString ".") = ((sg ++ (d0 :: dr)).length : Int) := by
    unfold skipL skipAt; rw [h3]; exact ⟨rfl, rfl⟩
  have h5 : expL (sg ++ (d0 :: dr) ++ tl) ((sg ++ (d0 :: dr)).length : Int) = some (if tl = [] then 0 else -6, ((sg ++ (d0 :: dr) ++ tl).length : Int)) := by
    unfold expL
    rcases ht with rfl | rfl
    · have e : oneOf (sg ++ (d0 :: dr) ++ []) ((sg ++ (d0 :: dr)).length : Int) (Str.ofString "eE") = false := by rw [List.append_nil]; exact oneOf_end _ _
      have e1 : skipL (sg ++ (d0 :: dr) ++ []) ((sg ++ (d0 :: dr)).length : Int) (Str.ofString "eE") = [] := by unfold skipL; rw [e]; rfl
      have e2 : skipAt (sg ++ (d0 :: dr) ++ []) ((sg ++ (d0 :: dr)).length : Int) (Str.ofString "eE") = ((sg ++ (d0 :: dr)).length : Int) := by unfold skipAt; rw [e]; rfl
      rw [e1, e2, if_pos rfl, if_pos rfl, List.append_nil]
    · generalize hx : sg ++ (d0 :: dr) = x
      have e : oneOf (x ++ [101, 45, 54]) (x.length : Int) (Str.ofString "eE") = true := by rw [oneOf_at, exp_in]; decide
      have e1 : skipL (x ++ [101, 45, 54]) (x.length : Int) (Str.ofString "eE") = [101] := by unfold skipL; rw [e, if_pos rfl]; simp
      have e2 : skipAt (x ++ [101, 45, 54]) (x.length : Int) (Str.ofString "eE") = (x.length : Int) + 1 := by unfold skipAt; rw [e, if_pos rfl]
      have a1 : x ++ [101, 45, 54] = (x ++ [101]) ++ 45 :: [54] := by simp
      have l1 : (x.length : Int) + 1 = ((x ++ [101]).length : Int) := by simp
      have f : oneOf (x ++ [101, 45, 54]) ((x ++ [101]).length : Int) (Str.ofString "+-") = true := by rw [a1, oneOf_at, sgn_in]; decide
      have f1 : skipL (x ++ [101, 45, 54]) ((x ++ [101]).length : Int) (Str.ofString "+-") = [45] := by
        unfold skipL; rw [f, if_pos rfl]
        simp [List.getD]
      have f2 : skipAt (x ++ [101, 45, 54]) ((x ++ [101]).length : Int) (Str.ofString "+-") = ((x ++ [101, 45]).length : Int) := by
        unfold skipAt; rw [f, if_pos rfl]
        simp; k_extra "a9"
      have g : digL (x ++ [101, 45, 54]) ((x ++ [101, 45]).length : Int) = [54] := by
        have := dig_at (a := x ++ [101, 45]) (ds := [54]) (b := []) (by decide) (by simp)
        simpa using this
      rw [e1, e2, if_neg (List.cons_ne_nil _ _), l1]
      dsimp only
      rw [f2, g, f1, if_neg (by decide), lit_minus', if_pos rfl, if_neg (List.cons_ne_nil _ _)]
      have w6 : wholeL [54] = 6 := rfl
      rw [w6]
      simp
      k_extra "a9"
  unfold readDec
  dsimp only
  rw [h1.1, h1.2, h2, hlen, h4.1, h4.2, if_pos rfl, if_neg (by simp)]
  have z : (((sg ++ (d0 :: dr)).length : Int) + (([] : List Nat).length : Int)) = ((sg ++ (d0 :: dr)).length : Int) := by simp
  rw [z, h5]
  dsimp only
  rw [List.append_nil]
  have hs' : (if S sg = Str.ofString "-" then -wholeL (d0 :: dr) else wholeL (d0 :: dr)) = (if sg = [] then wholeL (d0 :: dr) else -wholeL (d0 :: dr)) := by
    rcases hs with rfl | rfl
    · rw [if_neg (fun q => by rw [lit_minus'] at q; exact absurd (S_inj q) (by decide)), if_pos rfl]
    · rw [if_pos lit_minus'.symm, if_neg (List.cons_ne_nil _ _)]
  rw [hs']
  have b0 := B50_eq
  rcases ht with rfl | rfl
  · rw [if_pos rfl, if_pos rfl, if_neg (by simp only [List.length_nil]; k_extra "a9"), if_neg (by simp)]
    simp
  · rw [if_neg (List.cons_ne_nil _ _), if_neg (List.cons_ne_nil _ _), if_neg (by simp only [List.length_nil]; k_extra "a9"), if_pos (by simp)]
    simp
theorem rd_int {n : Int} (h0 : -B50 < n) (h1 : n < B50) : readDec (intL n) = some (n, 1) ∧ readDec (intL n ++ [101, 45, 54]) = some (fr n 1000000) := by
  obtain ⟨a, b, c, _⟩ := natL_all n.natAbs
  have hB : wholeL (natL n.natAbs) < B50 := by rw [c]; k_extra "a9"
  have hB0 : 0 ≤ wholeL (natL n.natAbs) := by rw [c]; k_extra "a9"
  have e6 : (10 : Int) ^ 6 = 1000000 := by decide
  by_cases hn : n < 0
  · have e : intL n = [45] ++ natL n.natAbs := by unfold intL; rw [if_pos hn]; rfl
    have r1 := rd_gen (sg := [45]) (tl := []) (.inr rfl) a b (.inl rfl) hB hB0
    have r2 := rd_gen (sg := [45]) (tl := [101, 45, 54]) (.inr rfl) a b (.inr rfl) hB hB0
    rw [if_pos rfl, if_neg (List.cons_ne_nil _ _), List.append_nil] at r1
    rw [if_neg (List.cons_ne_nil _ _), if_neg (List.cons_ne_nil _ _)] at r2
    have v : -wholeL (natL n.natAbs) = n := by rw [c]; k_extra "a9"
    rw [v] at r1 r2
    rw [e, r1, r2, e6]
    simp
  · have e : intL n = [] ++ natL n.natAbs := by unfold intL; rw [if_neg hn]; rfl
    have r1 := rd_gen (sg := []) (tl := []) (.inl rfl) a b (.inl rfl) hB hB0
    have r2 := rd_gen (sg := []) (tl := [101, 45, 54]) (.inl rfl) a b (.inr rfl) hB hB0
    rw [if_pos rfl, if_pos rfl, List.append_nil] at r1
    rw [if_neg (List.cons_ne_nil _ _), if_pos rfl] at r2
    have v : wholeL (natL n.natAbs) = n := by rw [c]; k_extra "a9"
    rw [v] at r1 r2
    rw [e, r1, r2, e6]
    simp
end Mine
end
section --N10
namespace Mine
theorem drop_head {p : Nat → Bool} : ∀ {l : List Nat} {c : Nat}, (l.dropWhile p).head? = some c → p c = false
  | [], _, h => by cases h
  | a :: r, c, h => by
    rw [List.dropWhile_cons] at h
    split at h
    · exact drop_head h
    · rename_i q
      simp at h; subst h
      simpa using q
theorem strip_idem (l : List Nat) : stripL (stripL l) = stripL l := by
  by_cases hn : stripL l = []
  · rw [hn]; rfl
  · have := trim (pre := []) (suf := []) (core := stripL l) (fun c h => nomatch h) (fun c h => nomatch h) hn ?_ ?_
    · simpa using this
    · intro c hc
      unfold stripL at hc hn
      generalize hy : List.dropWhile Unicode.isSpace l = y at hc hn
      have hyh : ∀ c, y.head? = some c → Unicode.isSpace c = false := fun c hc => drop_head (by rw [hy]; exact hc)
      have hsuf : (y.reverse.dropWhile Unicode.isSpace).reverse <+: y := by
        have := List.dropWhile_suffix (l := y.reverse) Unicode.isSpace
        have := List.reverse_prefix.mpr this
        simpa using this
      obtain ⟨t, ht⟩ := hsuf
      refine hyh c ?_
      rw [← ht, List.head?_append, hc]; rfl
    · intro c hc
      unfold stripL at hc
      rw [List.getLast?_reverse] at hc
      exact drop_head hc
theorem reads_strip {l : List Nat} {w1 w2 f1 f2 d1 d2 : Int} (h : Reads l w1 w2 f1 f2 d1 d2) : Reads (stripL l) w1 w2 f1 f2 d1 d2 := by
  obtain ⟨nl, u, a, b, h1, h2, h3, h4, h5, h6⟩ := h
  have e := unit_strip (l := l) (c := stripL l) rfl (strip_idem l)
  have := stripL_len l
  exact ⟨nl, u, a, b, by rw [← e]; exact h1, h2, h3, by k_extra "a9", h5, h6⟩
theorem reads_inherit {l : List Nat} {w1 w2 f1 f2 d1 d2 : Int} (h : Reads l w1 w2 f1 f2 d1 d2) : S (stripL l) ≠ Str.ofString "inherit" := fun q => by
  obtain ⟨nl, u, a, b, h1, h2, _⟩ := reads_strip h
  have e : Str.ofString "inherit" = S [105, 110, 104, 101, 114, 105, 116] := by decide +kernel
  rw [e] at q
  rw [S_inj q] at h1
  have e2 : (unitOf [105, 110, 104, 101, 114, 105, 116]).1 = [105, 110, 104, 101, 114, 105, 116] := by decide +kernel
  rw [h1] at e2
  dsimp only at e2
  rw [e2] at h2
  have e3 : readDec [105, 110, 104, 101, 114, 105, 116] = none := by decide +kernel
  rw [e3] at h2
  cases h2
noncomputable def mill (d1 d2 : Int) : Int × Int := if d2 = 1 then (d1, d2) else fr (Int.fdiv (2 * d1 * 1000000 + d2) (2 * d2)) 1000000
noncomputable def fontText (d1 d2 : Int) : List Nat := if d2 = 1 then intL d1 else intL (roundedF (timesF (d1, d2) (1000000, 1))) ++ [101, 45, 54]
theorem rounded_mill {s0 s1 : Int} (h : 0 < s1) : roundedF (timesF (s0, s1) (1000000, 1)) = Int.fdiv (2 * s0 * 1000000 + s1) (2 * s1) := by
  obtain ⟨G, hG, hx, hY⟩ := fr_fac (x := s0 * 1000000) h
  unfold roundedF timesF
  dsimp only
  rw [Int.mul_one]
  have hp := (fr_pos (x := s0 * 1000000) h).1
  generalize (fr (s0 * 1000000) s1).1 = u at hx ⊢
  generalize (fr (s0 * 1000000) s1).2 = v at hY hp ⊢
  have e1 : 2 * s0 * 1000000 + s1 = G * (2 * u + v) := by rw [Int.mul_add, ← hY, Int.mul_left_comm, ← hx]; k_extra "a9"
  have e2 : 2 * s1 = G * (2 * v) := by rw [Int.mul_left_comm, ← hY]
  rw [e1, e2, Int.mul_fdiv_mul_of_pos _ _ hG]
theorem num_plain {l : List Nat} (h : ∀ c ∈ l, c = 43 ∨ c = 45 ∨ c = 46 ∨ (48 ≤ c ∧ c ≤ 57) ∨ c = 69 ∨ c = 101) (hd : isDig (l.getLast?.getD 0) = true) : unitOf l = (l, S []) := by
  have u0 : (S [], (1 : Int), (1 : Int)) ∈ unitsT := by rw [← lit_empty]; simp [unitsT]
  have a := built (pre := []) (gap := []) (fun c h => nomatch h) (fun c h => nomatch h) u0 h hd
  simpa only [List.append_nil, List.nil_append] using a
theorem intL_signs (n : Int) : (∀ c ∈ intL n, c = 43 ∨ c = 45 ∨ c = 46 ∨ (48 ≤ c ∧ c ≤ 57) ∨ c = 69 ∨ c = 101) ∧ isDig ((intL n).getLast?.getD 0) = true := by
  obtain ⟨a, b, _, c, hc, hd⟩ := natL_all n.natAbs
  have z : ∀ c ∈ natL n.natAbs, c = 43 ∨ c = 45 ∨ c = 46 ∨ (48 ≤ c ∧ c ≤ 57) ∨ c = 69 ∨ c = 101 := fun c hc => by have := isDig_iff.mp (a c hc); k_extra "a9"
  unfold intL
  split
  · refine ⟨fun c hc => ?_, ?_⟩
    · rcases List.mem_cons.mp hc with rfl | hc
      · k_extra "a9"
      · exact z c hc
    · rw [show (45 :: natL n.natAbs).getLast? = (natL n.natAbs).getLast? from last_ne b [45], hc]; exact hd
  · exact ⟨z, by rw [hc]; exact hd⟩
theorem one_div (d : Int) : fr d 1 = (d, 1) := by
  unfold fr
  simp
theorem fdiv_bd {a b B : Int} (hb : 0 < b) (h0 : -B ≤ a) (h1 : a ≤ B) (hB : 0 ≤ B) : -B - 1 ≤ Int.fdiv a b ∧ Int.fdiv a b ≤ B := by
  have e := Int.mul_fdiv_add_fmod a b
  have f0 := Int.fmod_nonneg_of_pos a hb
  have f1 := Int.fmod_lt_of_pos a hb
  generalize Int.fdiv a b = q at e ⊢
  generalize Int.fmod a b = r at e f0 f1
  constructor
  · by_cases hq : q ≤ 0
    · by_cases hh : -B - 1 ≤ q
      · exact hh
      · have : b * q ≤ 1 * q := Int.mul_le_mul_of_nonpos_right (by k_extra "a9") hq
        by_cases hb1 : b = 1
        · subst hb1; k_extra "a9"
        · have : b * (q + 1) ≤ 1 * (q + 1) := Int.mul_le_mul_of_nonpos_right (by k_extra "a9") (by k_extra "a9")
          rw [Int.mul_add] at this; k_extra "a9"
    · k_extra "a9"
  · by_cases hq : 0 ≤ q
    · have : 1 * q ≤ b * q := Int.mul_le_mul_of_nonneg_right (by k_extra "a9") hq
      k_extra "a9"
    · k_extra "a9"
theorem reads_font {d1 d2 : Int} (B : Int) (h0 : -B ≤ d1) (h1 : d1 ≤ B) (h2 : 0 < d2) (h3 : d2 ≤ B) (hB : B ≤ 1000000000000000000000) :
    Reads (fontText d1 d2) 16 1 16 1 (mill d1 d2).1 (mill d1 d2).2 ∧ -(3000000 * B) ≤ (mill d1 d2).1 ∧ (mill d1 d2).1 ≤ 3000000 * B ∧ 0 < (mill d1 d2).2 ∧ (mill d1 d2).2 ≤ 1000000 := by
  have b0 := B50_eq
  by_cases hd : d2 = 1
  · have e1 : fontText d1 d2 = intL d1 := if_pos hd
    have e2 : mill d1 d2 = (d1, d2) := if_pos hd
    rw [e1, e2]
    subst hd
    refine ⟨⟨intL d1, S [], d1, 1, num_plain (intL_signs d1).1 (intL_signs d1).2, (rd_int (by k_extra "a9") (by k_extra "a9")).1, ⟨by k_extra "a9", by k_extra "a9", by decide, by decide⟩, ?_, ?_, fun e => ?_⟩, by dsimp only; k_extra "a9", by dsimp only; k_extra "a9", (show (0 : Int) < 1 by decide), (show (1 : Int) ≤ 1000000 by decide)⟩
    · have := intL_len (n := d1) (by k_extra "a9") (by k_extra "a9"); k_extra "a9"
    · rw [← lit_empty, lengthF_e]
      unfold timesF
      dsimp only
      rw [Int.mul_one, Int.mul_one, one_div]
    · rw [lu_pct] at e; exact absurd (S_inj e) (by decide)
  · have e1 : fontText d1 d2 = intL (roundedF (timesF (d1, d2) (1000000, 1))) ++ [101, 45, 54] := if_neg hd
    have e2 : mill d1 d2 = fr (Int.fdiv (2 * d1 * 1000000 + d2) (2 * d2)) 1000000 := if_neg hd
    rw [e1, e2, rounded_mill h2]
    obtain ⟨q0, q1⟩ := fdiv_bd (a := 2 * d1 * 1000000 + d2) (b := 2 * d2) (B := 2000001 * B) (by k_extra "a9") (by k_extra "a9") (by k_extra "a9") (by k_extra "a9")
    generalize Int.fdiv (2 * d1 * 1000000 + d2) (2 * d2) = n at q0 q1
    obtain ⟨s1, s2⟩ := intL_signs n
    have ft := fr_le (x := n) (y := 1000000) (X := 2000001 * B + 1) (by decide) (by k_extra "a9") (by k_extra "a9")
    have fp := fr_pos (x := n) (y := 1000000) (by decide)
    refine ⟨⟨intL n ++ [101, 45, 54], S [], (fr n 1000000).1, (fr n 1000000).2, num_plain (fun c hc => ?_) ?_, (rd_int (by k_extra "a9") (by k_extra "a9")).2, ⟨by k_extra "a9", by k_extra "a9", fp.1, by k_extra "a9"⟩, ?_, ?_, fun e => ?_⟩, by k_extra "a9", by k_extra "a9", fp.1, fp.2⟩
    · rcases List.mem_append.mp hc with hc | hc
      · exact s1 c hc
      · simp only [List.mem_cons, List.not_mem_nil, or_false] at hc; k_extra "a9"
    · rw [last_ne (by decide)]; decide
    · have := intL_len (n := n) (by k_extra "a9") (by k_extra "a9")
      rw [List.length_append]; simp only [List.length_cons, List.length_nil]; k_extra "a9"
    · rw [← lit_empty, lengthF_e]
      rw [show ((fr n 1000000).1, (fr n 1000000).2) = fr n 1000000 from rfl, fr_times (by decide) (by decide)]
      unfold timesF
      dsimp only
      rw [Int.mul_one, Int.mul_one]
    · rw [lu_pct] at e; exact absurd (S_inj e) (by decide)
theorem lit_2em : Str.ofString "2em" = S [50, 101, 109] := by decide +kernel
theorem lit_50 : Str.ofString "50%" = S [53, 48, 37] := by decide +kernel
theorem reads_2em {f1 f2 : Int} : Reads [50, 101, 109] 1 1 f1 f2 (timesF (2, 1) (f1, f2)).1 (timesF (2, 1) (f1, f2)).2 := by
  refine ⟨[50], Str.ofString "em", 2, 1, by decide +kernel, by decide +kernel, by decide, by decide, ?_, fun e => absurd e (by decide +kernel)⟩
  unfold lengthF
  rw [if_neg (by decide +kernel), if_pos rfl]
theorem reads_50 {f1 f2 : Int} : Reads [53, 48, 37] 8 1 f1 f2 4 1 := by
  refine ⟨[53, 48], Str.ofString "%", 50, 1, by decide +kernel, by decide +kernel, by decide, by decide, ?_, fun _ => by decide +kernel⟩
  unfold lengthF
  rw [if_pos rfl]
  decide +kernel
end Mine
end
section --S1
namespace Mine
section
variable {prog : Program} {w : World} {A : Around} {E : Value → Shared → Prop} {s : Shared} {d : Addr} {o : Obj} {kvs : List (Str × Value)} {x : Str} {t : Tok} {v : Value} {Q : Value → Shared → Prop} {value slice : Expr}
theorem b_item_dict (N : s.heap.get? d = some o) (hd : o.IsDictOf (PySem.strKind prog w) kvs) (hv : valueAt kvs x = some v) (h : Q v { s with toks := s.toks + 1 })
    (hs : subscripted slice false (.ref d) (.str x t) = operate [.ref d, .str x t] (getItem (.ref d) (.str x t)) := by with_unfolding_all rfl) (hg : ∀ r, letTemporaryGo value (.ref d) r = pure () := by intro _; with_unfolding_all rfl) :
    wpAny (model prog w) A (subscriptTail value slice (.ref d) (.str x t)) Q E s :=
  have hD := Heap.dictOf_iff.mpr ⟨o, N, hd⟩
  subscriptTail_builtin hD.typeIs slot_dict_getitem.lookup (wpAny_getItem_of (strKind_is prog w x t) hD.mapOf hv h) hs hg
end
noncomputable abbrev lookD (dv : Addr) (hh : Int) (kk : Tok) : Obj := dictOf [⟨hh, .str (Str.ofString "values") kk, .ref dv⟩] 1
end Mine
end
section --S3
theorem Mine.lnRS3 : True := by
  k_with "b1" => ((show _ < 1000); (try simp only [depth_under_make, depth_under_kw, depth_in1, depth_deeper]); (try dsimp only); omega)
  trivial
set_option maxHeartbeats 1600000
namespace Mine
theorem make_look {w : World} {s : Shared} {h₀ base : Heap} {L dv : Addr} {m mg mb : Str → Option Value} {news : List (Addr × Obj)} {dp un : Nat} {outer : List Env} {p : Program} {loose : List Str} {mean : ExcName → Option Value} {env : Env} {Q E : Value → Shared → Prop}
    (F : Fr h₀ L s.heap m) (N : News h₀ L s.heap news) (B : Below (top dp outer un) base outer h₀) (X : (hd.heap_1 w.params).In h₀) (T : Top p loose mean mg mb h₀) (hDp : dp + 3 ≤ 900) (hUn : un + 30 ≤ 9000) (hf : env.frame = some L) (hk : env.scope.kind = .function)
    (h : ∀ x dx h' tk hh kk, Fr h₀ L h' m → News h₀ L h' ((x, instObj 328 dx) :: (dx, lookD dv hh kk) :: news) → (∀ p ∈ news, p.1 < dx) → dx < x → Q (.ref x) { s with heap := h', toks := tk }) :
    wpAny (model PySem.Challenge.rw_pf0197_01.row.prog w) ((top dp outer un).deeper env) (call (.ref 328) [.ref dv]) Q E s := by
  revert X; k_fill; intro X
  refine call_cls F X N (by k_is) (by k_is) (by k_is) ?_
  intro x dx h' F' N' l1 l2
  refine' code_def (A₀ := top dp outer un) (args := ⟨[.ref x, .ref dv], []⟩) (binds := [(Str.ofString "self", .ref x), (Str.ofString "values", .ref dv)]) B F' X N' T rfl hf hk ?ho ?hcd ?hroom ?hbind ?hloc ?h ?hco ?hgen ?hk2 ?hcell
  case ho => k_is
  case hcd => k_is
  case hroom => show _ < 1000; rw [depth_under_make]; show dp + 1 + 1 < 1000; omega
  case hbind => exact BindsTo.of_eq rfl
  case hloc => exact locs rfl
  case hcell => decide
  case hco => exact rfl
  case hgen => exact rfl
  case hk2 => exact rfl
  clear F N F' N'
  intro g L' h₁ FG F2 N2 B2 X2 T2
  (try dsimp only)
  k_steps
  (with_reducible rename Fr _ _ _ _ => Fz)
  (with_reducible rename News _ _ _ _ => Nz)
  exact h _ _ _ _ _ _ Fz Nz l1 l2
end Mine
end
section --S5
namespace Mine
section
variable {prog : Program} {w : World} {A : Around} {h₀ : Heap} {L : Addr} {m : Str → Option Value} {env : Env} {ct elt : Expr} {x : Str} {scope : Scope} {cl : List (Str × Addr)} {s : Shared} {S : List (Addr × Obj) → Prop} {P : Nat → Value → Prop} {Fin : List Value → List (Addr × Obj) → Prop} {n : Nat}
theorem rest_ind (Inv : Nat → List Value → List (Addr × Obj) → Prop)
    (step : ∀ i ys news, i < n → Inv i ys news → ∀ v I oI C oC D m₂ h tk (E' : Value → Shared → Prop), P i v → LCg.NsObj oC m₂ → m₂ x = some v → Fr h₀ L h m → News h₀ L h ((I, oI) :: (C, oC) :: (D, LCg.lst ys) :: news) → LCg.Off3 I C D news → ((@Ne Nat I C) ∧ (@Ne Nat I D) ∧ (@Ne Nat C D)) →
      wpAny (model prog w) A (eval elt (compEnvC scope cl C env)) (LCg.CompEnd h₀ L m { s with heap := h, toks := tk } I oI C oC D (LCg.lst ys) S (fun y news' => Inv (i + 1) (ys ++ [y]) news')) E' { s with heap := h, toks := tk })
    (fin : ∀ ys news, Inv n ys news → Fin ys news) (k i : Nat) (ys : List Value) (news : List (Addr × Obj)) (e : i + k = n) (h : Inv i ys news) : LCg.CompRest prog w A h₀ L m env elt x scope cl s S P Fin k i ys news := by
  induction k generalizing i ys news with
  | zero => exact fin ys news (by rw [← e]; exact h)
  | succ k ih =>
    exact fun v I oI C oC D m₂ h' tk E' hP hC hx F N off ne =>
    wpAny_mono (step i ys news (by omega) h v I oI C oC D m₂ h' tk E' hP hC hx F N off ne)
      (fun y s₂ q => by
        obtain ⟨h2, tk2, nw, e2, F2, N2, o2, s2, r2⟩ := q
        exact ⟨h2, tk2, nw, e2, F2, N2, o2, s2, ih (i + 1) _ nw (by omega) r2⟩) fun _ _ e => e
theorem restT_ind (Inv : Nat → List Value → List (Addr × Obj) → Prop)
    (step : ∀ i ys news, i < n → Inv i ys news → ∀ v I oI C oC D m₂ h tk (E' : Value → Shared → Prop), P i v → LCg.NsObj oC m₂ → m₂ x = some v → Fr h₀ L h m → News h₀ L h ((I, oI) :: (C, oC) :: (D, LCg.lst ys) :: news) → LCg.Off3 I C D news → ((@Ne Nat I C) ∧ (@Ne Nat I D) ∧ (@Ne Nat C D)) →
      wpAny (model prog w) A (isTrue ct (compEnvC scope cl C env) (eval ct (compEnvC scope cl C env))) (fun ok s' => ok = true ∧
        wpAny (model prog w) A (eval elt (compEnvC scope cl C env)) (LCg.CompEnd h₀ L m { s with heap := h, toks := tk } I oI C oC D (LCg.lst ys) S (fun y news' => Inv (i + 1) (ys ++ [y]) news')) E' s') E' { s with heap := h, toks := tk })
    (fin : ∀ ys news, Inv n ys news → Fin ys news) (k i : Nat) (ys : List Value) (news : List (Addr × Obj)) (e : i + k = n) (h : Inv i ys news) : LCt.CompRestT prog w A h₀ L m env ct elt x scope cl s S P Fin k i ys news := by
  induction k generalizing i ys news with
  | zero => exact fin ys news (by rw [← e]; exact h)
  | succ k ih =>
    exact fun v I oI C oC D m₂ h' tk E' hP hC hx F N off ne =>
    wpAny_mono (step i ys news (by omega) h v I oI C oC D m₂ h' tk E' hP hC hx F N off ne)
      (fun ok s₁ q1 => by
        obtain ⟨rfl, q1⟩ := q1
        rw [if_pos rfl]
        exact wpAny_mono q1 (fun y s₂ q => by
          obtain ⟨h2, tk2, nw, e2, F2, N2, o2, s2, r2⟩ := q
          exact ⟨h2, tk2, nw, e2, F2, N2, o2, s2, ih (i + 1) _ nw (by omega) r2⟩) fun _ _ e => e) fun _ _ e => e
end
inductive All2 {α β : Type} (R : α → β → Prop) : List α → List β → Prop
  | nil : All2 R [] []
  | cons {a b l m} : R a b → All2 R l m → All2 R (a :: l) (b :: m)
theorem All2.len {α β : Type} {R : α → β → Prop} {l : List α} {m : List β} (h : All2 R l m) : l.length = m.length := by
  induction h with
  | nil => rfl
  | cons _ _ ih => rw [List.length_cons, List.length_cons, ih]
theorem All2.snoc {α β : Type} {R : α → β → Prop} {a : α} {b : β} (h : R a b) : ∀ {l : List α} {m : List β}, All2 R l m → All2 R (l ++ [a]) (m ++ [b])
  | _, _, .nil => .cons h .nil
  | _, _, .cons x r => .cons x (r.snoc h)
theorem All2.mono {α β : Type} {R R' : α → β → Prop} (h : ∀ a b, R a b → R' a b) {l : List α} {m : List β} (k : All2 R l m) : All2 R' l m := by
  induction k with
  | nil => exact .nil
  | cons x _ ih => exact .cons (h _ _ x) ih
theorem All2.get {α β : Type} {R : α → β → Prop} {l : List α} {m : List β} {i : Nat} {a : α} {b : β} (h : All2 R l m) : l[i]? = some a → m[i]? = some b → R a b := by
  induction h generalizing i with
  | nil => exact fun h => nomatch h
  | cons x _ ih =>
    cases i with
    | zero => exact fun h1 h2 => Option.some.inj h1 ▸ Option.some.inj h2 ▸ x
    | succ i => exact fun h1 h2 => ih h1 h2
noncomputable abbrev tupR (rs : List Addr) : Obj := { cls := .type "tuple", data := .seq (rs.map Value.ref).toArray }
end Mine
end
section --N6
namespace Mine
noncomputable def subL (c : Nat) (z l : List Nat) : List Nat := l.flatMap fun d => if d = c then z else [d]
theorem subL_app (c : Nat) (z a b : List Nat) : subL c z (a ++ b) = subL c z a ++ subL c z b := by unfold subL; rw [List.flatMap_append]
theorem subL_free (c : Nat) (z : List Nat) : ∀ l : List Nat, c ∉ l → subL c z l = l
  | [], _ => rfl
  | k :: r, h => by
    have h1 : ¬ k = c := fun e => h (e ▸ List.mem_cons_self ..)
    have h2 := subL_free c z r fun m => h (List.mem_cons_of_mem _ m)
    unfold subL at h2 ⊢
    rw [List.flatMap_cons, if_neg h1, h2]; rfl
theorem subL_one (c : Nat) (z : List Nat) : subL c z [c] = z := by simp [subL]
theorem subL_join (c : Nat) (z : List Nat) : ∀ parts : List Str, (∀ p ∈ parts, c ∉ p.cps.toList) → subL c z (Str.join ⟨#[c]⟩ parts).cps.toList = (Str.join (S z) parts).cps.toList
  | [], _ => rfl
  | [p], h => subL_free c z _ (h p (List.mem_singleton.mpr rfl))
  | p :: q :: r, h => by
    have ih := subL_join c z (q :: r) fun a ha => h a (List.mem_cons_of_mem _ ha)
    show subL c z (p ++ ⟨#[c]⟩ ++ Str.join ⟨#[c]⟩ (q :: r)).cps.toList = (p ++ S z ++ Str.join (S z) (q :: r)).cps.toList
    simp only [Str.cps_append, Array.toList_append]
    rw [subL_app, subL_app, ih, subL_free c z _ (h p (List.mem_cons_self ..))]
    show p.cps.toList ++ subL c z [c] ++ _ = _
    rw [subL_one, S_list]
theorem replace_S (l z : List Nat) (c : Nat) : Txt.replace (S l) (S [c]) (S z) = S (subL c z l) := by
  have e : Txt.replace (S l) ⟨#[c]⟩ (S z) = S (subL c z l) := by
    rw [StrLaws.replace_one]
    apply Str.ext'
    apply Array.toList_inj.mp
    rw [← subL_join c z _ (StrLaws.split_free (S l) c), StrLaws.join_split, S_list]
    simp [S]
  exact e
noncomputable def glL (g : List Nat) : List (List Nat) → List Nat
  | [] => []
  | [w] => w
  | w :: r => w ++ g ++ glL g r
theorem join_S (g : List Nat) : ∀ ws : List (List Nat), Str.join (S g) (ws.map S) = S (glL g ws)
  | [] => rfl
  | [w] => rfl
  | w :: v :: r => by
    have ih := join_S g (v :: r)
    show S w ++ S g ++ Str.join (S g) ((v :: r).map S) = S (w ++ g ++ glL g (v :: r))
    rw [ih, S_app, S_app]
theorem subL_gl (c : Nat) (z g : List Nat) : ∀ ws : List (List Nat), (∀ w ∈ ws, c ∉ w) → subL c z (glL g ws) = glL (subL c z g) ws
  | [], _ => rfl
  | [w], h => subL_free c z w (h w (List.mem_singleton.mpr rfl))
  | w :: v :: r, h => by
    have ih := subL_gl c z g (v :: r) fun a ha => h a (List.mem_cons_of_mem _ ha)
    show subL c z (w ++ g ++ glL g (v :: r)) = w ++ subL c z g ++ glL (subL c z g) (v :: r)
    rw [subL_app, subL_app, ih, subL_free c z w (h w (List.mem_cons_self ..))]
section
theorem scan_S (l : List Nat) : KWd.scan (S l) = l.foldl KWd.step ([], Str.empty) := by unfold KWd.scan; rw [S_list]
theorem step_word {ws : List Str} : ∀ (w r : List Nat), (∀ c ∈ w, Unicode.isSpace c = false) → w.foldl KWd.step (ws, S r) = (ws, S (r ++ w))
  | [], r, _ => by rw [List.append_nil]; rfl
  | c :: w, r, h => by
    have e : KWd.step (ws, S r) c = (ws, S (r ++ [c])) := by
      unfold KWd.step
      rw [if_neg (by rw [h c (List.mem_cons_self ..)]; exact Bool.false_ne_true)]
      exact congrArg (fun x => (ws, x)) (S_app r [c])
    rw [List.foldl_cons, e, step_word w (r ++ [c]) fun d hd => h d (List.mem_cons_of_mem _ hd), List.append_assoc]; rfl
theorem step_blanks {ws : List Str} : ∀ k : Nat, (List.replicate k 32).foldl KWd.step (ws, S []) = (ws, S [])
  | 0 => rfl
  | k + 1 => by
    have e : KWd.step (ws, S []) 32 = (ws, S []) := by unfold KWd.step; rw [if_pos (by decide +kernel), if_pos (by rw [S_len]; rfl)]
    rw [List.replicate_succ, List.foldl_cons, e, step_blanks k]
theorem step_gap {ws : List Str} {r : List Nat} (hr : r ≠ []) (k : Nat) : (List.replicate (k + 1) 32).foldl KWd.step (ws, S r) = (ws ++ [S r], S []) := by
  have e : KWd.step (ws, S r) 32 = (ws ++ [S r], S []) := by
    unfold KWd.step
    rw [if_pos (by decide +kernel), if_neg (by rw [S_len]; exact fun q => hr (List.length_eq_zero_iff.mp q))]
    rfl
  rw [List.replicate_succ, List.foldl_cons, e, step_blanks k]
theorem step_gl {k : Nat} : ∀ (ws : List (List Nat)) (pre : List Str), ws ≠ [] → (∀ w ∈ ws, w ≠ [] ∧ ∀ c ∈ w, Unicode.isSpace c = false) → ∃ pre' r, (glL (List.replicate (k + 1) 32) ws).foldl KWd.step (pre, S []) = (pre', S r) ∧ r ≠ [] ∧ pre' ++ [S r] = pre ++ ws.map S
  | [], _, h, _ => absurd rfl h
  | [w], pre, _, h => ⟨pre, w, by
      have := step_word (ws := pre) w [] (h w (List.mem_singleton.mpr rfl)).2
      rw [List.nil_append] at this; exact this, (h w (List.mem_singleton.mpr rfl)).1, rfl⟩
  | w :: v :: r, pre, _, h => by
    have hw := h w (List.mem_cons_self ..)
    obtain ⟨pre', r', e1, e2, e3⟩ := step_gl (k := k) (v :: r) (pre ++ [S w]) (List.cons_ne_nil _ _) fun a ha => h a (List.mem_cons_of_mem _ ha)
    refine ⟨pre', r', ?_, e2, by rw [e3]; simp⟩
    show (w ++ List.replicate (k + 1) 32 ++ glL (List.replicate (k + 1) 32) (v :: r)).foldl KWd.step (pre, S []) = _
    rw [List.foldl_append, List.foldl_append]
    have hh := step_word (ws := pre) w [] hw.2
    rw [List.nil_append] at hh
    rw [hh, step_gap hw.1, e1]
theorem words_gl {k : Nat} {ws : List (List Nat)} (hn : ws ≠ []) (h : ∀ w ∈ ws, w ≠ [] ∧ ∀ c ∈ w, Unicode.isSpace c = false) : Txt.words (S (glL (List.replicate (k + 1) 32) ws)) = ws.map S := by
  obtain ⟨pre', r, e1, e2, e3⟩ := step_gl (k := k) ws [] hn h
  rw [KWd.words_scan, scan_S]
  have e0 : (([], Str.empty) : KWd.St) = ([], S []) := rfl
  rw [e0, e1]
  unfold KWd.fin
  rw [if_neg (by rw [S_len]; exact fun q => e2 (List.length_eq_zero_iff.mp q)), e3]; rfl
end
theorem glL_len {g : List Nat} {n : Nat} (hg : g.length ≤ 3) : ∀ ws : List (List Nat), (∀ w ∈ ws, w.length ≤ n) → (glL g ws).length ≤ ws.length * (n + 3)
  | [], _ => Nat.zero_le _
  | [w], h => by
    have := h w (List.mem_singleton.mpr rfl)
    show w.length ≤ _
    simp; k_extra "a9"
  | w :: v :: r, h => by
    have ih := glL_len (n := n) hg (v :: r) fun a ha => h a (List.mem_cons_of_mem _ ha)
    have h0 := h w (List.mem_cons_self ..)
    show (w ++ g ++ glL g (v :: r)).length ≤ _
    rw [List.length_append, List.length_append, List.length_cons]
    rw [Nat.succ_mul]; k_extra "a9"
section
variable {prog : Program} {w : World} {A : Around} {E : Value → Shared → Prop} {s : Shared} {h₀ : Heap} {L : Addr} {m : Str → Option Value} {news : List (Addr × Obj)} {l z : List Nat} {c : Nat} {t u v : Tok} {Q : Value → Shared → Prop}
theorem r_replace (hu : u ≠ 0) (hv : v ≠ 0) (huv : u ≠ v) (hz : z.length ≤ 3) (hl : l.length ≤ 1000) (hcz : [c] ≠ z) (h : ∀ t k, Q (.str (S (subL c z l)) t) { s with toks := k }) :
    wpAny (model prog w) A (call (.builtin "str.replace") [.str (S l) t, .str (S [c]) u, .str (S z) v]) Q E s :=
  SC.replaceW hu hv huv (by rw [beq_eq_false_iff_ne]; exact fun e => hcz (S_inj e)) (by rw [S_len]; k_extra "a9") (by rw [S_len]; k_extra "a9") fun t' k => by rw [replace_S]; exact h t' k
theorem texts_of : ∀ (ls : List (Str × Tok)) (ws : List (List Nat)), ls.map (·.1) = ws.map S → TextsAre (strValues ls) ws
  | [], [], _ => .nil
  | [], _ :: _, h => by cases h
  | _ :: _, [], h => by cases h
  | (x, t) :: ls, w :: ws, h => by
    simp only [List.map_cons, List.cons.injEq] at h
    obtain ⟨rfl, h⟩ := h
    exact .cons (texts_of ls ws h)
theorem r_split {ws : List (List Nat)} (Fz : Fr h₀ L s.heap m) (Nz : News h₀ L s.heap news) (hw : Txt.words (S l) = ws.map S) (hl : l.length ≤ 1000)
    (h : ∀ D vs h' tk, TextsAre vs ws → Fr h₀ L h' m → News h₀ L h' ((D, listOf vs.toArray 0) :: news) → (∀ p ∈ news, p.1 < D) → L < D → Q (.ref D) { s with heap := h', toks := tk }) :
    wpAny (model prog w) A (call (.builtin "str.split") [.str (S l) t]) Q E s := by
  have hx : (S l).length ≤ sizeLine := by rw [S_len, sizeLine_eq]; k_extra "a9"
  have hz : (Builtin.Str.spaceWords (S l) ((S l).length + 1)).length ≤ sizeLine := by
    have h1 := StrLaws.len_le_wsum (Builtin.Str.spaceWords (S l) ((S l).length + 1))
    have h2 := (StrLaws.sw_weight (S l)).1
    rw [S_len] at *
    rw [sizeLine_eq]; k_extra "a9"
  have fin : ∀ (tk : Nat) (ls : List (Str × Tok)), ls.map (·.1) = ws.map S → Q (.ref s.heap.objs.size) { s with toks := tk, heap := s.heap.push { cls := .type "list", data := .seq (strValues ls).toArray } } := fun tk ls e =>
    h _ _ _ _ (texts_of ls ws e) (Fz.push _) (Nz.push Fz _) (fun p hp => Heap.lt_size (Nz p hp).1) (by obtain ⟨oL, _, _, hL, _⟩ := Fz.ns; exact Heap.lt_size hL)
  refine call_meets PySem.F.slot_str_split (typeIs_str _ _ _) PySem.F.entry_str_split (PySem.F.args_str_split_1 _) (meets_str_split_space (S l) t hx hz) ?_
  cases hq : Builtin.Str.spaceWords (S l) ((S l).length + 1) == [(0, (S l).length)]
  · simp only [Bool.false_eq_true, if_false]
    rw [strsFrom_eq]
    refine fin _ (numbered s.toks (PySem.wordsOf (S l))) ?_
    rw [← hw]
    exact (numbered_texts _ _).trans (if_neg (ne_true_of_eq_false hq)).symm
  · simp only [if_true]
    refine fin _ [(S l, t)] ?_
    rw [← hw]
    exact (if_pos hq).symm
theorem r_comma (hu : u ≠ 0) (hv : v ≠ 0) (huv : u ≠ v) (hl : l.length ≤ 1000) (h : ∀ t k, Q (.str (S (subL 44 [32] l)) t) { s with toks := k }) :
    wpAny (model prog w) A (call (.builtin "str.replace") [.str (S l) t, .str (Str.ofString ",") u, .str (Str.ofString " ") v]) Q E s := by
  rw [lit_comma, lit_sp]; exact r_replace hu hv huv (by decide) hl (by decide) h
end
theorem subL_le (c : Nat) : ∀ l : List Nat, (subL c [] l).length ≤ l.length
  | [] => Nat.le_refl _
  | k :: r => by
    have ih := subL_le c r
    unfold subL at ih ⊢
    rw [List.flatMap_cons, List.length_append]
    split <;> simp only [List.length_nil, List.length_cons] <;> k_extra "a9"
theorem lit_three : Str.ofString "3" = S [51] := by decide +kernel
theorem lit_none : Str.ofString "none" = S [110, 111, 110, 101] := by decide +kernel
theorem texts_get {vs : List Value} {ws : List (List Nat)} {i : Nat} {v : Value} (h : TextsAre vs ws) : vs[i]? = some v → ∃ y t, v = .str (S y) t ∧ ws[i]? = some y := by
  induction h generalizing i with
  | nil => exact fun h => nomatch h
  | @cons l t _ _ r ih =>
    cases i with
    | zero => exact fun h => ⟨l, t, (Option.some.inj h).symm, rfl⟩
    | succ i => exact fun h => ih h
theorem subL_len (c d : Nat) : ∀ l : List Nat, (subL c [d] l).length = l.length
  | [] => rfl
  | k :: r => by
    have ih := subL_len c d r
    unfold subL at ih ⊢
    rw [List.flatMap_cons, List.length_append, ih]
    split <;> simp <;> k_extra "a9"
end Mine
end
section --S6
namespace Mine
structure El where
  r : Addr
  n : Addr
  l : List Nat
  p : Int
  q : Int
  t : Tok
  u : Tok
  v : Tok
noncomputable def El.objs (e : El) : List (Addr × Obj) := [(e.r, pairO e.l e.t e.n), (e.n, tup2 e.p e.q e.u e.v)]
noncomputable def objsE (es : List El) : List (Addr × Obj) := es.flatMap El.objs
theorem objsE_snoc (es : List El) (e : El) : objsE (es ++ [e]) = objsE es ++ e.objs := by unfold objsE; rw [List.flatMap_append]; simp
theorem objsE_r {es : List El} {e : El} (h : e ∈ es) : (e.r, pairO e.l e.t e.n) ∈ objsE es := List.mem_flatMap.mpr ⟨e, h, .head _⟩
theorem objsE_n {es : List El} {e : El} (h : e ∈ es) : (e.n, tup2 e.p e.q e.u e.v) ∈ objsE es := List.mem_flatMap.mpr ⟨e, h, .tail _ (.head _)⟩
theorem off3_app {I C D : Addr} : ∀ {a b : List (Addr × Obj)}, LCg.Off3 I C D a → LCg.Off3 I C D b → LCg.Off3 I C D (a ++ b)
  | [], _, _, h => h
  | _ :: _, _, h, h' => ⟨h.1, off3_app h.2 h'⟩
open SeqAt in
theorem eqAt_same {A : Around} {s : Shared} {a : Addr} : EqAt A s (.ref a) (.ref a) true := fun prog w E Q hq => by
  unfold eqBool
  refine wpAny_holding ?_
  refine wpAny_ite_split (fun _ => wpAny_bind (wpAny_rule (wpAny_pure hq))) (fun h => absurd (beq_self_eq_true _) h)
open SeqAt in
theorem eqAt_tup2 {A : Around} {s : Shared} {a b : Addr} {x y : Int} {t t' u u' : Tok} (ha : s.heap.get? a = some (tup2 x y t t')) (hb : s.heap.get? b = some (tup2 x y u u')) (hu : A.units < 9500) : EqAt A s (.ref a) (.ref b) true := by
  by_cases e : a = b
  · subst e; exact eqAt_same
  · refine EqAt.of_refs e ?_
    have h := RcAt.tuples (A := A) (items := #[.int x t, .int y t']) (items2 := #[.int x u, .int y u']) (e := fun _ => true) ⟨_, ha, rfl, _, rfl⟩ ⟨_, hb, rfl, _, rfl⟩ (Nat.lt_trans hu (by decide)) (fun j h1 h2 => by
      have h1' : j < 2 := h1
      rcases (by k_extra "a9" : j = 0 ∨ j = 1) with rfl | rfl
      · exact (beq_self_eq_true x) ▸ EqAt.int_int x t x u
      · exact (beq_self_eq_true y) ▸ EqAt.int_int y t' y u')
    exact h
open SeqAt in
theorem all_true (n : Nat) : (List.range n).all (fun _ => true) = true := by rw [List.all_eq_true]; intros; rfl
section
variable {prog : Program} {w : World} {A : Around} {E : Value → Shared → Prop} {s : Shared} {a b : Addr} {x y : Int} {t t' u u' : Tok} {rs ns : List Addr} {Q : Value → Shared → Prop}
open SeqAt in
theorem r_eq_tup2 (ha : s.heap.get? a = some (tup2 x y t t')) (hb : s.heap.get? b = some (tup2 x y u u')) (hu : A.units < 9000) (h : Q (.bool true) s) : wpAny (model prog w) A (compareOp .Eq (.ref a) (.ref b)) Q E s := by
  refine cmp_ofEq ?_
  have z := RcAt.tuples (A := A) (s := s) (l := a) (b := b) (items := #[.int x t, .int y t']) (items2 := #[.int x u, .int y u']) (e := fun _ => true) ⟨_, ha, rfl, _, rfl⟩ ⟨_, hb, rfl, _, rfl⟩ (Nat.lt_trans hu (by decide)) (fun j h1 h2 => by
      have h1' : j < 2 := h1
      rcases (by k_extra "a9" : j = 0 ∨ j = 1) with rfl | rfl
      · exact (beq_self_eq_true x) ▸ EqAt.int_int x t x u
      · exact (beq_self_eq_true y) ▸ EqAt.int_int y t' y u')
  exact z prog w E Q h
open SeqAt in
theorem r_ne_tup2 (ha : s.heap.get? a = some (tup2 x y t t')) (hb : s.heap.get? b = some (tup2 x y u u')) (hu : A.units < 9000) (h : Q (.bool false) s) : wpAny (model prog w) A (compareOp .NotEq (.ref a) (.ref b)) Q E s := by
  refine cmp_ofNotEq ?_
  have z := RcNeAt.tuples (A := A) (s := s) (l := a) (b := b) (items := #[.int x t, .int y t']) (items2 := #[.int x u, .int y u']) (e := fun _ => true) ⟨_, ha, rfl, _, rfl⟩ ⟨_, hb, rfl, _, rfl⟩ (Nat.lt_trans hu (by decide)) (fun j h1 h2 => by
      have h1' : j < 2 := h1
      rcases (by k_extra "a9" : j = 0 ∨ j = 1) with rfl | rfl
      · exact (beq_self_eq_true x) ▸ EqAt.int_int x t x u
      · exact (beq_self_eq_true y) ▸ EqAt.int_int y t' y u')
  exact z prog w E Q h
open SeqAt in
theorem r_eq_tupR (ha : s.heap.get? a = some (tupR rs)) (hb : s.heap.get? b = some (tupR ns)) (hl : rs.length = ns.length) (hall : ∀ (j : Nat) (r n : Addr), rs[j]? = some r → ns[j]? = some n → ∃ x y t t' u u', s.heap.get? r = some (tup2 x y t t') ∧ s.heap.get? n = some (tup2 x y u u'))
    (hu : A.units < 9000) (h : Q (.bool true) s) : wpAny (model prog w) A (compareOp .Eq (.ref a) (.ref b)) Q E s := by
  refine cmp_ofEq ?_
  have z := RcAt.tuples (A := A) (s := s) (l := a) (b := b) (items := (rs.map Value.ref).toArray) (items2 := (ns.map Value.ref).toArray) (e := fun _ => true) ⟨_, ha, rfl, _, rfl⟩ ⟨_, hb, rfl, _, rfl⟩ (Nat.lt_trans hu (by decide)) (fun j h1 h2 => by
      have h1' : j < rs.length := by simpa using h1
      have h2' : j < ns.length := by simpa using h2
      obtain ⟨x, y, t, t', u, u', e1, e2⟩ := hall j _ _ (List.getElem?_eq_getElem h1') (List.getElem?_eq_getElem h2')
      have q1 : (rs.map Value.ref).toArray[j] = .ref rs[j] := by simp
      have q2 : (ns.map Value.ref).toArray[j] = .ref ns[j] := by simp
      rw [q1, q2]
      exact eqAt_tup2 e1 e2 (by show A.units + 1 < 9500; k_extra "a9"))
  refine z prog w E Q ?_
  have e : ((List.range (min (rs.map Value.ref).toArray.size (ns.map Value.ref).toArray.size)).all (fun _ => true) && (rs.map Value.ref).toArray.size == (ns.map Value.ref).toArray.size) = true := by
    rw [all_true]; simp [hl]
  rw [e]; exact h
open SeqAt in
theorem r_ne_list {vs : List Value} {k : Nat} (ha : s.heap.get? a = some { cls := .type "list", data := .seq vs.toArray k }) (hb : s.heap.get? b = some (listOf #[] 0)) (hu : A.units < 9000) (h : Q (.bool (!vs.isEmpty)) s) : wpAny (model prog w) A (compareOp .NotEq (.ref a) (.ref b)) Q E s := by
  refine cmp_ofNotEq ?_
  cases vs with
  | nil => exact RcNeAt.lists (A := A) (s := s) (items := #[]) (items2 := #[]) (e := fun _ => true) ⟨_, ha, rfl, _, rfl⟩ ⟨_, hb, rfl, _, rfl⟩ rfl (Nat.lt_trans hu (by decide)) (fun j h1 h2 => absurd h1 (by simp)) prog w E Q h
  | cons v r => exact RcNeAt.lists_lengths (A := A) (s := s) (items2 := #[]) ⟨_, ha, rfl, _, rfl⟩ ⟨_, hb, rfl, _, rfl⟩ (by simp) (Nat.lt_trans hu (by decide)) prog w E Q h
end
section
variable {prog : Program} {w : World} {A : Around} {E : Value → Shared → Prop} {s : Shared} {a D : Addr} {l : List Nat} {t u : Tok} {n : Addr} {value slice : Expr} {Q : Value → Shared → Prop}
theorem const_litP {M : Model} {env : Env} {k pos} {x : String} (e : Str.ofString x = S l) (h : Q (.str (S l) s.toks) { s with toks := s.toks + 1 }) : wpAny M A (eval (.Constant (.str (Str.ofString x)) k pos) env) Q E s :=
  wpAny_Constant_str (by rw [e]; exact h)
theorem p_item0 (ha : s.heap.get? a = some (pairO l t n)) (h : Q (.str (S l) t) s)
    (hs : subscripted slice false (.ref a) (.int 0 u) = operate [.ref a, .int 0 u] (getItem (.ref a) (.int 0 u)) := by with_unfolding_all rfl) : wpAny (model prog w) A (subscriptTail value slice (.ref a) (.int 0 u)) Q E s :=
  item_tupleT (l := [.str (S l) t, .ref n]) (j := 0) ⟨_, ha, rfl, _, rfl⟩ (by decide) (by decide) rfl rfl h hs
theorem p_item1 (ha : s.heap.get? a = some (pairO l t n)) (h : Q (.ref n) s)
    (hs : subscripted slice false (.ref a) (.int 1 u) = operate [.ref a, .int 1 u] (getItem (.ref a) (.int 1 u)) := by with_unfolding_all rfl) : wpAny (model prog w) A (subscriptTail value slice (.ref a) (.int 1 u)) Q E s :=
  item_tupleT (l := [.str (S l) t, .ref n]) (j := 1) ⟨_, ha, rfl, _, rfl⟩ (by decide) (by decide) rfl rfl h hs
theorem texts_snoc {vs : List Value} {ls : List (List Nat)} {l : List Nat} {t : Tok} (h : TextsAre vs ls) : TextsAre (vs ++ [.str (S l) t]) (ls ++ [l]) := by
  induction h with
  | nil => exact .cons .nil
  | cons r ih => exact .cons ih
theorem texts_pairs : ∀ {vs : List Value} {ls : List (List Nat)}, TextsAre vs ls → ∃ ps : List (Str × Tok), vs = strValues ps ∧ ps.map (·.1) = ls.map S
  | _, _, .nil => ⟨[], rfl, rfl⟩
  | _, _, .cons (l := l) (t := t) r => by
    obtain ⟨ps, e1, e2⟩ := texts_pairs r
    exact ⟨(S l, t) :: ps, by rw [e1]; rfl, by rw [List.map_cons, e2]; rfl⟩
theorem fold_len {k n : Nat} : ∀ (ls : List (List Nat)) (a : Nat), (∀ l ∈ ls, l.length ≤ n) → (ls.map S).foldl (fun x y => x + y.length + k) a ≤ a + ls.length * (n + k)
  | [], a, _ => by simp
  | l :: r, a, h => by
    have h0 := h l (List.mem_cons_self ..)
    have ih := fold_len (k := k) (n := n) r (a + (S l).length + k) fun q hq => h q (List.mem_cons_of_mem _ hq)
    rw [List.map_cons, List.foldl_cons]
    rw [S_len] at ih ⊢
    rw [List.length_cons, Nat.succ_mul]; k_extra "a9"
theorem r_join {vs : List Value} {ws : List (List Nat)} (hl : s.heap.IsList D vs.toArray) (hT : TextsAre vs ws) (hn : ∀ y ∈ ws, y.length ≤ 1000) (hw : ws.length ≤ 3) (hz : l.length ≤ 3) (h : ∀ t k, Q (.str (S (glL l ws)) t) { s with toks := k }) :
    wpAny (model prog w) A (call (.builtin "str.join") [.str (S l) t, .ref D]) Q E s := by
  obtain ⟨ps, rfl, e⟩ := texts_pairs hT
  have hok : Builtin.Str.tooLong ((ps.map (·.1)).toArray.foldl (· + ·.length + (S l).length) 0) = false := by
    rw [e, List.foldl_toArray]
    have h1 := fold_len (k := (S l).length) ws 0 hn
    rw [S_len] at h1 ⊢
    have h2 : ws.length * (1000 + l.length) ≤ 3 * 1003 := Nat.mul_le_mul hw (by k_extra "a9")
    unfold Builtin.Str.tooLong
    rw [sizeLine_eq]
    exact decide_eq_false (by k_extra "a9")
  refine call_meets PySem.F.slot_str_join (typeIs_str _ _ _) PySem.F.entry_str_join (PySem.F.args_str_join_2 _ _) (meets_str_join_list (S l) t D ps hok) ⟨hl, ?_⟩
  have ej : Txt.join (S l) (ps.map (·.1)) = S (glL l ws) := by rw [e]; show Builtin.Str.glued _ _ = _; rw [StrLaws.glued_eq_join]; exact join_S l ws
  refine PySem.post_join ps ⟨PySem.joinFit_length hok, fun t' k => ?_⟩
  rw [ej]; exact h _ _
end
theorem range_small {v : Int} (h0 : 0 ≤ v) (h1 : v < 4) : Builtin.Range.small 0 v 1 = true ∧ Builtin.Range.rangeSize 0 v 1 = ((v.toNat : Nat) : Int) := by
  rcases (by k_extra "a9" : v = 0 ∨ v = 1 ∨ v = 2 ∨ v = 3) with rfl | rfl | rfl | rfl <;> decide
theorem subN {g h : Heap} {L : Addr} {l l' : List (Addr × Obj)} (N : News g L h l) (hs : ∀ q, q ∈ l' → q ∈ l) : News g L h l' := fun q hq => N q (hs q hq)
theorem consN {g h : Heap} {L : Addr} {p : Addr × Obj} {l r : List (Addr × Obj)} (N : News g L h l) (hm : p ∈ l) (N' : News g L h r) : News g L h (p :: r) := fun q hq => by
  rcases List.mem_cons.mp hq with rfl | hq
  · exact N _ hm
  · exact N' q hq
section
variable {prog : Program} {w : World} {A : Around} {E : Value → Shared → Prop} {s : Shared} {a b : Addr} {Q : Value → Shared → Prop}
theorem r_ne_list_nil {α : Type} {f : α → Value} (ha : s.heap.get? a = some (LCg.lst (List.map f []))) (hb : s.heap.get? b = some (listOf #[] 0)) (hu : A.units < 9000) (h : Q (.bool false) s) : wpAny (model prog w) A (compareOp .NotEq (.ref a) (.ref b)) Q E s :=
  r_ne_list (vs := []) (k := 0) ha hb hu h
theorem r_ne_list_cons {α : Type} {f : α → Value} {x : α} {r : List α} (ha : s.heap.get? a = some (LCg.lst (List.map f (x :: r)))) (hb : s.heap.get? b = some (listOf #[] 0)) (hu : A.units < 9000) (h : Q (.bool true) s) : wpAny (model prog w) A (compareOp .NotEq (.ref a) (.ref b)) Q E s :=
  r_ne_list (vs := List.map f (x :: r)) (k := (List.map f (x :: r)).length) ha hb hu h
end
end Mine
end
section --S7
namespace Mine
section
variable {prog : Program} {w : World} {A : Around} {E : Value → Shared → Prop} {s : Shared} {d : Addr} {o : Obj} {kvs : List (Str × Value)} {x : Str} {t : Tok} {v y : Value}
theorem b_getm {pl : Sem Bool} {Q : Value × List Value → Shared → Prop} (N : s.heap.get? d = some o) (hd : o.IsDictOf (PySem.strKind prog w) kvs) (h : Q (.builtin "dict.get", [.ref d]) s) : wpAny (model prog w) A (getMethod (.ref d) "get" pl) Q E s :=
  have hD := Heap.dictOf_iff.mpr ⟨o, N, hd⟩
  getMethod_builtin hD.typeIs PySem.F.plainAttrs_dict PySem.F.slot_dict_get PySem.F.type_dict_get hD.mapOf.noDict h
theorem b_get1 {Q : Value → Shared → Prop} (N : s.heap.get? d = some o) (hd : o.IsDictOf (PySem.strKind prog w) kvs) (lo : (d == sysModules) = false) (hv : valueAt kvs x = some v) (h : Q v { s with toks := s.toks + 1 }) :
    wpAny (model prog w) A (call (.builtin "dict.get") [.ref d, .str x t]) Q E s :=
  have hD := Heap.dictOf_iff.mpr ⟨o, N, hd⟩
  call_meetsIn PySem.F.slot_dict_get hD.typeIs PySem.F.entry_dict_get (PySem.F.args_dict_get_2 _ _) (meets_dict_get (PySem.strKind prog w) d (strKind_is prog w x t) lo) ⟨_, hD.mapOf, by rw [hv]; exact h⟩
theorem b_get0 {Q : Value → Shared → Prop} (N : s.heap.get? d = some o) (hd : o.IsDictOf (PySem.strKind prog w) kvs) (lo : (d == sysModules) = false) (hv : valueAt kvs x = none) (h : Q .none { s with toks := s.toks + 1 }) :
    wpAny (model prog w) A (call (.builtin "dict.get") [.ref d, .str x t]) Q E s :=
  have hD := Heap.dictOf_iff.mpr ⟨o, N, hd⟩
  call_meetsIn PySem.F.slot_dict_get hD.typeIs PySem.F.entry_dict_get (PySem.F.args_dict_get_2 _ _) (meets_dict_get (PySem.strKind prog w) d (strKind_is prog w x t) lo) ⟨_, hD.mapOf, by rw [hv]; exact h⟩
theorem b_get2 {Q : Value → Shared → Prop} (N : s.heap.get? d = some o) (hd : o.IsDictOf (PySem.strKind prog w) kvs) (lo : (d == sysModules) = false) (hv : (valueAt kvs x).getD y = v) (h : Q v { s with toks := s.toks + 1 }) :
    wpAny (model prog w) A (call (.builtin "dict.get") [.ref d, .str x t, y]) Q E s :=
  have hD := Heap.dictOf_iff.mpr ⟨o, N, hd⟩
  call_meetsIn PySem.F.slot_dict_get hD.typeIs PySem.F.entry_dict_get (PySem.F.args_dict_get_3 _ _ _) (meets_dict_get_default (PySem.strKind prog w) d (strKind_is prog w x t) lo y) ⟨_, hD.mapOf, by rw [hv]; exact h⟩
theorem in_tuple_b {a : Addr} {items : Array Value} {ys : List Str} {u : Tok} {b : Bool} {Q : Value → Shared → Prop} (ht : IsTup s.heap a items) (hi : StrsAre items.toList ys) (hb : ys.any (· == x) = b)
    (h : Q (.bool b) s) : wpAny (model prog w) A (compareOp .In (.str x u) (.ref a)) Q E s := in_tuple_strs ht hi (by rw [hb]; exact h)
end
noncomputable abbrev frameD (wa ha : Addr) (h1 h2 : Int) (k1 k2 : Tok) : Obj := dictOf [⟨h1, .str (Str.ofString "width") k1, .ref wa⟩, ⟨h2, .str (Str.ofString "height") k2, .ref ha⟩] 2
noncomputable abbrev elemD (nv : Value) (da ch : Addr) (tv : Value) (h1 h2 h3 h4 : Int) (k1 k2 k3 k4 : Tok) : Obj :=
  dictOf [⟨h1, .str (Str.ofString "name") k1, nv⟩, ⟨h2, .str (Str.ofString "attributes") k2, .ref da⟩, ⟨h3, .str (Str.ofString "children") k3, .ref ch⟩, ⟨h4, .str (Str.ofString "text") k4, tv⟩] 4
noncomputable abbrev downNames : List Str := [Str.ofString "y", Str.ofString "cy", Str.ofString "ry", Str.ofString "height", Str.ofString "y1", Str.ofString "y2", Str.ofString "fy"]
end Mine
end
section --S16
namespace Mine
theorem mem_frames {env : Env} {outer : List Env} {L b : Addr} (hf : env.frame = some L) (hm : b ∈ (env :: outer).filterMap (·.frame)) : b = L ∨ b ∈ outer.filterMap (·.frame) := by
  rw [List.filterMap_cons, hf] at hm
  exact List.mem_cons.mp hm
section
variable {M : Model} {E : Value → Shared → Prop} {s' : Shared} {base g h G : Heap} {outer : List Env} {env : Env} {L e C : Addr} {m : Str → Option Value} {c : Value} {Q : Unit → Shared → Prop} {dp un : Nat} {own own' : List (Addr × Obj)}
theorem leave_onE (hf : env.frame = some L) (B : Below (top dp outer un) base outer g) (F : Fr g L h m) (gG : g.StaysIn G) (f : Flown c (env :: outer) G own s'.heap e C) (hown : ∀ q ∈ own', (G.get? q.1 = some q.2 ∧ q.1 ≠ L ∨ q ∈ own) ∧ g.get? q.1 = none)
    (hQ : ∀ h', Flown c outer g own' h' e C → Q () { s' with heap := h' }) :
    wpAny M ((top dp outer un).deeper env) (leaving env (.ref e)) Q E s' := by
  obtain ⟨⟨D, hB, hl, fl⟩, up⟩ := f
  refine x_leave (Around.frames_deeper B.stack) hf fl fun h' f' u => hQ h' ⟨⟨D, fun b o q => hB b o ?_, fun q hq => ?_, f'⟩, ((Heap.UpToSlots.of_keeps gG).trans up).trans u⟩
  · have q' := of_hideAll _ q
    refine hideAll_get _ (gG b o q') fun hm => ?_
    rcases mem_frames hf hm with z | z
    · rw [z, kts_self F] at q'; cases q'
    · rw [hideAll_none _ z] at q; cases q
  · obtain ⟨y, z⟩ := hown q hq
    refine ⟨?_, z⟩
    rcases y with ⟨y1, y2⟩ | y
    · refine hB _ _ (hideAll_get _ y1 fun hm => ?_)
      rcases mem_frames hf hm with z' | z'
      · exact y2 z'
      · obtain ⟨o, ho, _⟩ := (B.frames.mem z').2
        rw [z] at ho; cases ho
    · exact (hl q y).1
end
theorem enterLam {prog : Program} {w : World} {K : Frag} {k : Nat} {A : Around} {g : Heap} {s : Shared} {news : List (Addr × Obj)} {Q E : Value → Shared → Prop}
    {name qual : Str} {params : Arguments} {body : PySem.Expr} {scope : Scope} {cl : List (Str × Addr)} {pm ctv : Value} {c' f : Addr}
    (R : RdX K k A g s) (foot : ∀ p ∈ news, s.heap.get? p.1 = some p.2 ∧ g.get? p.1 = none)
    (ho : g.get? f = some (kla_obj name qual params body scope cl pm c' ctv)) (hcd : g.CodeRec (.ref c') qual)
    (hbind : bindArgs (kla_fn name qual params body scope cl pm (.ref c') ctv) ⟨[], []⟩ = pure [])
    (h : ∀ (base : Heap) (dp un : Nat) (outer : List Env) (p : Program) (loose : List Str) (mean : ExcName → Option Value) (mg mb : Str → Option Value) (L : Addr) (h₁ : Heap),
      Fr g L h₁ (fun y => ([] : List (Str × Value)).reverse.lookup y) → News g L h₁ news → Below (top dp outer un) base outer g → K.In base → Top p loose mean mg mb base → K.In g → Top p loose mean mg mb g → dp + k ≤ 900 → un + 10 * k ≤ 9000 → (∀ p ∈ news, p.1 < L) → g.objs.size = L →
      A = top dp outer un →
      wpAny (model prog w) ((top dp outer un).deeper (envX qual scope L f (.ref c') cl)) (eval body (envX qual scope L f (.ref c') cl))
        (fun v s' => Q v s')
        (fun e s' => wpAny (model prog w) ((top dp outer un).deeper (envX qual scope L f (.ref c') cl)) (leaving (envX qual scope L f (.ref c') cl) e) (fun _ s'' => E e s'') (fun e' s'' => E e' s'') s')
        { s with heap := h₁, toks := s.toks + 0 })
    (hcell : ∀ x ∈ scope.names, x.2 ≠ .cell) (hco : scope.isCoroutine = false) (hgen : scope.isGenerator = false) (hk : scope.kind = .function) :
    wpAny (model prog w) A (call (.ref f) [] []) Q E s := by
  obtain ⟨hh, hg, hd, hu, ⟨base, outer, p, loose, mean, mg, mb, B, XB, TB⟩, st, sz⟩ := R
  obtain ⟨a1, dp, a2, a3, un⟩ := A
  have hst := B.stack
  dsimp only at hh hg hd hu hst
  subst hh hg hst
  have X := XB.keeps B.stays
  have T := TB.keeps B.stays
  have hcd' : s.heap.CodeRec (.ref c') qual := by
    obtain ⟨c, oc, vs, t, e1, e2, r⟩ := hcd
    exact ⟨c, oc, vs, t, e1, st _ _ e2, r⟩
  refine wpAny_call (kla_callFunE (by show dp < 1000; omega) (st _ _ ho) rfl hco hgen rfl hcd' ?_)
  rw [hbind]
  refine wpAny_pure (wpAny_newFunctionEnv hcell (fun _ hm => nomatch hm) (fun h₁ hns hsb => ⟨((T.nolimit).keeps st).fresh _ hsb, ?_⟩) hk)
  show codeAny _ _ (.expr body (envX qual scope s.heap.objs.size f (.ref c') cl)) _ _
  have hk₁ : ∀ b o, s.heap.get? b = some o → h₁.get? b = some o := fun b o e => hsb.extBut b o (Nat.ne_of_lt (Heap.lt_size e)) (Heap.get?_push_of_some _ e)
  refine kla_codeExpr (wpAny_mono (h base dp un outer p loose mean mg mb s.heap.objs.size h₁ ⟨hns, fun b o e => hk₁ b o (st _ _ e), Nat.le_of_eq sz⟩ (fun q hq => ⟨hk₁ _ _ (foot q hq).1, Nat.ne_of_lt (Heap.lt_size (foot q hq).1), (foot q hq).2⟩) B XB TB X T hd hu (fun q hq => Heap.lt_size (foot q hq).1) sz rfl) (fun v s' hl => ?_) fun _ _ y => y)
  exact hl
end Mine
end
section --S17
namespace Mine
theorem enterCX {prog : Program} {w : World} {K : Frag} {k : Nat} {A : Around} {g : Heap} {s : Shared} {news : List (Addr × Obj)} {Q E : Value → Shared → Prop}
    {name qual : Str} {params : Arguments} {body : List Stmt} {scope : Scope} {dV kV doc pm cdv ct oc : Value} {an od : Option Addr} {osl : Array (Option Value)} {f : Addr} {args : Args} {binds : List (Str × Value)}
    (R : RdX K k A g s) (foot : ∀ p ∈ news, s.heap.get? p.1 = some p.2 ∧ g.get? p.1 = none)
    (ho : K.lookup f = some ⟨oc, od, .func (fnOf name qual params body scope dV kV doc pm an cdv ct), osl⟩) (hcd : codeIn K cdv qual = true)
    (hbind : BindsTo s (fnOf name qual params body scope dV kV doc pm an cdv ct) args binds) (hkind : (binds.all fun y => scope.names.lookup y.1 == some .local || scope.names.lookup y.1 == some .cell) = true)
    (hnd : ((cellsFrom 0 scope.names []).map (·.1)).Nodup)
    (h : ∀ (base : Heap) (dp un : Nat) (outer : List Env) (p : Program) (loose : List Str) (mean : ExcName → Option Value) (mg mb : Str → Option Value) (L : Addr) (h₁ : Heap) (tk : Nat) (cells : List (Addr × Obj)),
      Fr g L h₁ (bindL (envOfC qual scope L f cdv).kindOf binds fun _ => none) → News g L h₁ (cells ++ news) → CellsAre (bindC (envOfC qual scope L f cdv).kindOf binds fun _ => none) (cellsFrom (L + 1) scope.names []) cells →
      Below (top dp outer un) base outer g → K.In base → Top p loose mean mg mb base → K.In g → Top p loose mean mg mb g → dp + k ≤ 900 → un + 10 * k ≤ 9000 → (∀ p ∈ news, p.1 < L) → g.objs.size = L → A = top dp outer un →
      wpAny (model prog w) ((top dp outer un).deeper (envOfC qual scope L f cdv)) (execs body (envOfC qual scope L f cdv))
        (fun fl s' => Q (match fl with | .ret v => v | _ => .none) s')
        (fun e s' => wpAny (model prog w) ((top dp outer un).deeper (envOfC qual scope L f cdv)) (leaving (envOfC qual scope L f cdv) e) (fun _ s'' => E e s'') (fun e' s'' => E e' s'') s')
        { s with heap := h₁, toks := tk })
    (hco : scope.isCoroutine = false) (hgen : scope.isGenerator = false) (hk : scope.kind = .function) :
    wpAny (model prog w) A (call (.ref f) args.pos args.kw) Q E s := by
  obtain ⟨hh, hg, hd, hu, ⟨base, outer, p, loose, mean, mg, mb, B, XB, TB⟩, st, sz⟩ := R
  obtain ⟨a1, dp, a2, a3, un⟩ := A
  have hst := B.stack
  dsimp only at hh hg hd hu hst
  subst hh hg hst
  have X := XB.keeps B.stays
  have T := TB.keeps B.stays
  refine wpAny_call ?_
  refine codeAny_call_function (fd := fnOf name qual params body scope dV kV doc pm an cdv ct) (by show dp < 1000; omega) (st _ _ (X _ _ ho)) rfl hco hgen rfl (codeRec_of (X.keeps st) hcd) (hbind _ _ _ _ ?_)
  refine wpAny_newFunctionEnv_cells hk (kindsX hkind _) fun env' he s' x => ?_
  subst he
  refine ⟨(T.nolimit.keeps st).keeps x.toInCall.keep, codeAny_func ?_⟩
  obtain ⟨h₁, tk, rfl, _⟩ := x.done
  have hk₁ := x.toInCall.keep
  obtain ⟨cells, NC, Y⟩ := Cl.news (h₀ := s.heap) (Nat.le_refl _) fun n c hm => ⟨x.cell n c (lookup_of_mem_nodup (cellsFrom_names scope.names 0 (s.heap.objs.size + 1) [] [] rfl ▸ hnd) hm), x.above n c hm⟩
  refine wpAny_mono (h base dp un outer p loose mean mg mb s.heap.objs.size h₁ tk cells ⟨x.toInCall.ns, fun b o e => hk₁ b o (st _ _ e), Nat.le_of_eq sz⟩ (fun q hq => ?_) Y B XB TB X T hd hu (fun q hq => Heap.lt_size (foot q hq).1) sz rfl) (fun fl s' hl => ?_) fun _ _ y => y
  · rcases List.mem_append.mp hq with hq | hq
    · refine ⟨(NC q hq).1, (NC q hq).2.1, ?_⟩
      cases e : g.get? q.1 with
      | none => rfl
      | some o => have := st _ _ e; rw [(NC q hq).2.2] at this; cases this
    · exact ⟨hk₁ _ _ (foot q hq).1, Nat.ne_of_lt (Heap.lt_size (foot q hq).1), (foot q hq).2⟩
  · exact hl
end Mine
end
section --S18
namespace Mine
inductive PairsAre : List (Str × Value) → List (Str × Str) → Prop
  | nil : PairsAre [] []
  | cons {x y : Str} {t : Tok} {r : List (Str × Value)} {ps : List (Str × Str)} : PairsAre r ps → PairsAre ((x, .str y t) :: r) ((x, y) :: ps)
theorem PairsAre.len {kvs : List (Str × Value)} {ps : List (Str × Str)} (h : PairsAre kvs ps) : kvs.length = ps.length := by
  induction h with
  | nil => rfl
  | cons _ ih => rw [List.length_cons, List.length_cons, ih]
theorem PairsAre.app {a b : List (Str × Value)} {ps qs : List (Str × Str)} (h : PairsAre a ps) (k : PairsAre b qs) : PairsAre (a ++ b) (ps ++ qs) := by
  induction h with
  | nil => exact k
  | cons _ ih => exact .cons ih
theorem PairsAre.keys {kvs : List (Str × Value)} {ps : List (Str × Str)} (h : PairsAre kvs ps) : kvs.map (·.1) = ps.map (·.1) := by
  induction h with
  | nil => rfl
  | cons _ ih => rw [List.map_cons, List.map_cons, ih]
theorem PairsAre.at {kvs : List (Str × Value)} {ps : List (Str × Str)} {i : Nat} {p : Str × Value} (h : PairsAre kvs ps) : kvs[i]? = some p → ∃ y t, p.2 = .str y t ∧ ps[i]? = some (p.1, y) := by
  induction h generalizing i with
  | nil => exact fun h => nomatch h
  | @cons x y t _ _ r ih =>
    cases i with
    | zero => exact fun h => ⟨y, t, (congrArg Prod.snd (Option.some.inj h)).symm, congrArg (fun q : Str × Value => some (q.1, y)) (Option.some.inj h)⟩
    | succ i => exact fun h => ih h
theorem PairsAre.find {k : Str} {kvs : List (Str × Value)} {ps : List (Str × Str)} (h : PairsAre kvs ps) : ((ps.find? fun p => p.1 = k) = none ∧ valueAt kvs k = none) ∨ ∃ y t, (ps.find? fun p => p.1 = k) = some (k, y) ∧ valueAt kvs k = some (.str y t) := by
  induction h with
  | nil => exact .inl ⟨rfl, rfl⟩
  | @cons x y t _ _ r ih =>
    by_cases e : x = k
    · subst e; exact .inr ⟨y, t, by simp, by simp [valueAt]⟩
    · rcases ih with ⟨a, b⟩ | ⟨y', t', a, b⟩
      · exact .inl ⟨by simp [e, a], by simp only [valueAt, List.find?_cons, e, decide_false] at b ⊢; exact b⟩
      · exact .inr ⟨y', t', by simp [e, a], by simp only [valueAt, List.find?_cons, e, decide_false] at b ⊢; exact b⟩
theorem valueAt_stored (kvs : List (Str × Value)) (k k' : Str) (v : Value) : valueAt (stored kvs k v) k' = if k' = k then some v else valueAt kvs k' := by
  by_cases ha : (kvs.any fun kv => kv.1 = k) = true
  · unfold stored
    rw [if_pos ha]
    have gen : ∀ l : List (Str × Value), valueAt (l.map fun kv => if kv.1 = k then (kv.1, v) else kv) k' = if k' = k then (valueAt l k).map (fun _ => v) else valueAt l k' := by
      intro l
      induction l with
      | nil => simp [valueAt]
      | cons p r ih =>
        by_cases e : p.1 = k
        · by_cases e' : k' = k
          · subst e'; simp [valueAt, e]
          · have e2 : ¬ p.1 = k' := fun q => e' (q.symm.trans e)
            have e3 : ¬ k = k' := fun q => e' q.symm
            simp only [valueAt, List.map_cons, e, if_true, List.find?_cons, e3, decide_false, e'] at ih ⊢
            simpa [e'] using ih
        · by_cases e' : k' = k
          · subst e'
            simp only [valueAt, List.map_cons, e, if_false, List.find?_cons, decide_false, if_true] at ih ⊢
            exact ih
          · simp only [valueAt, List.map_cons, e, if_false, List.find?_cons, e'] at ih ⊢
            by_cases e2 : p.1 = k'
            · simp [e2]
            · simp only [e2, decide_false]; exact ih
    rw [gen]
    have hs : (valueAt kvs k).isSome = true := by rw [valueAt_isSome_eq_any]; exact ha
    obtain ⟨x, hx⟩ := Option.isSome_iff_exists.mp hs
    rw [hx]; rfl
  · have hn : valueAt kvs k = none := by
      have := valueAt_isSome_eq_any kvs k
      rw [Bool.not_eq_true] at ha
      rw [ha] at this
      cases h : valueAt kvs k with
      | none => rfl
      | some _ => rw [h] at this; cases this
    rw [stored_absent hn]
    have app : ∀ l : List (Str × Value), valueAt (l ++ [(k, v)]) k' = match valueAt l k' with | some x => some x | none => if k' = k then some v else none := by
      intro l
      induction l with
      | nil =>
        by_cases e : k' = k
        · subst e; simp [valueAt]
        · have e3 : ¬ k = k' := fun q => e q.symm
          simp [valueAt, e, e3]
      | cons p r ih =>
        by_cases e2 : p.1 = k'
        · simp [valueAt, e2]
        · simp only [valueAt, List.cons_append, List.find?_cons, e2, decide_false] at ih ⊢
          exact ih
    rw [app]
    by_cases e : k' = k
    · subst e; rw [hn]
    · rw [if_neg e, if_neg e]; cases valueAt kvs k' <;> rfl
section
variable {prog : Program} {w : World} {A : Around} {E : Value → Shared → Prop} {s : Shared} {h₀ : Heap} {L d e : Addr} {m : Str → Option Value} {news : List (Addr × Obj)} {o oe : Obj} {kvs more : List (Str × Value)} {g : Obj → List (Addr × Obj)} {k : Str} {t : Tok} {v : Value}
theorem b_copy {Q : Value → Shared → Prop} (F : Fr h₀ L s.heap m) (N : News h₀ L s.heap news) (hbig : h₀.NoLimit) (hd : s.heap.get? e = some oe) (hdo : oe.IsDictOf (PySem.strKind prog w) more) (lo : (e == sysModules) = false) (hz : more.length ≤ 1000)
    (h : ∀ d h' o, Fr h₀ L h' m → News h₀ L h' ((d, o) :: news) → (∀ p ∈ news, p.1 < d) → L < d → (d == sysModules) = false → o.IsDictOf (PySem.strKind prog w) more → Q (.ref d) { s with heap := h' }) :
    wpAny (model prog w) A (call (.type "dict") [.ref e]) Q E s := by
  refine kt_call_dict lo (Heap.dictOf_iff.mpr ⟨oe, hd, hdo⟩) (by rw [sizeLine_eq]; omega) fun h' hm hs => ?_
  obtain ⟨o', ho', hd'⟩ := Heap.dictOf_iff.mp hm
  have N1 := News.push F N { cls := .type "dict", data := .dict #[] }
  exact h _ h' o' ((F.push _).change hs (N1 _ (.head _)).2.1 (N1.fresh (.head _))) (N1.setHead N.apart hs ho') (fun p hp => Heap.lt_size (N p hp).1) F.ns.lt (F.notModules (modules_low hbig)) hd'
theorem b_update {Q : Value → Shared → Prop} (F : Fr h₀ L s.heap m) (N : News h₀ L s.heap news) (U : UpdF d o news g) (hd : o.IsDictOf (PySem.strKind prog w) kvs) (he : s.heap.get? e = some oe) (heo : oe.IsDictOf (PySem.strKind prog w) more) (ne : d ≠ e) (lo : (e == sysModules) = false) (hz : kvs.length + more.length ≤ 1000)
    (h : ∀ h' o', Fr h₀ L h' m → News h₀ L h' (g o') → o'.IsDictOf (PySem.strKind prog w) (merged kvs more) → Q .none { s with heap := h' }) :
    wpAny (model prog w) A (call (.builtin "dict.update") [.ref d, .ref e]) Q E s := by
  obtain ⟨pre, post, rfl, hg, a, b⟩ := U.split
  have hm := N (d, o) (List.mem_append_right _ (.head _))
  have hD : s.heap.DictOf (PySem.strKind prog w) d kvs := Heap.dictOf_iff.mpr ⟨o, hm.1, hd⟩
  have hE : s.heap.DictOf (PySem.strKind prog w) e more := Heap.dictOf_iff.mpr ⟨oe, he, heo⟩
  refine call_meetsIn PySem.F.slot_dict_update hD.typeIs PySem.F.entry_dict_update (PySem.F.args_dict_update_2 _ _) (meets_dict_update _ d e ne lo)
    ⟨kvs, more, hD, hE, (by rw [sizeLine_eq]; omega), fun h' hmm _ hs => ?_⟩
  obtain ⟨o', ho', hd'⟩ := Heap.dictOf_iff.mp hmm
  exact h h' o' (F.change hs hm.2.1 hm.2.2) (hg o' ▸ N.setIn a b hs ho') hd'
theorem b_setItem {Q : Unit → Shared → Prop} (F : Fr h₀ L s.heap m) (N : News h₀ L s.heap news) (U : UpdF d o news g) (hd : o.IsDictOf (PySem.strKind prog w) kvs) (hz : kvs.length ≤ 1000)
    (h : ∀ h' o', Fr h₀ L h' m → News h₀ L h' (g o') → o'.IsDictOf (PySem.strKind prog w) (stored kvs k v) → Q () { s with heap := h', toks := s.toks + 1 }) : wpAny (model prog w) A (setItem (.ref d) (.str k t) v) Q E s :=
  kda_set F N U hd (strKind_is prog w k t) (by rw [sizeLine_eq]; omega) h
end
end Mine
end
section --S21
namespace Mine
theorem keys_turnsR {prog : Program} {w : World} {A : Around} {E : Value → Shared → Prop} {s : Shared} {env : Env} {h₀ : Heap} {x : Str} {body : List Stmt} {Q : Flow → Shared → Prop} {d : Addr} {o : Obj} {kvs : List (Str × Value)}
    {m₀ : Str → Option Value} {news : List (Addr × Obj)} (J : Nat → (Str → Option Value) → List (Addr × Obj) → Prop)
    (hh : A.handled = none) (F : Fr h₀ env.locals s.heap m₀) (N : News h₀ env.locals s.heap news) (hd : s.heap.get? d = some o) (hdo : o.IsDictOf (PySem.strKind prog w) kvs) (lo : (d == sysModules) = false) (hdL : d ≠ env.locals) (hj : J 0 m₀ news)
    (turn : ∀ i k v t m₁ news₁ h tk own, kvs[i]? = some (k, v) → news₁.map (·.1) = news.map (·.1) → (∀ b ∈ news.map (·.1), b ≠ d → ∀ p ∈ own, p.1 ≠ b) → J i m₁ news₁ → Fr h₀ env.locals h (fun y => if y = x then some (.str k t) else m₁ y) → News h₀ env.locals h (news₁ ++ own) →
      wpAny (model prog w) A (execs body env) (InvPostN h₀ env.locals (J (i + 1)) own (news.map (·.1)) { s with heap := h, toks := tk } Q) E { s with heap := h, toks := tk })
    (done : ∀ m₁ news₁ h tk, J kvs.length m₁ news₁ → Fr h₀ env.locals h m₁ → News h₀ env.locals h news₁ → Q .next { s with heap := h, toks := tk }) :
    wpAny (model prog w) A (pyIter (.ref d)) (fun it s₂ => LoopAtV prog w A h₀ env x body Q E it s₂) E s := by
  obtain ⟨es, ep, hex, hdt, hk, hp, hn⟩ := id hdo
  have D : s.heap.DictAt (PySem.strKind prog w) d kvs ep := ⟨o, es, hd, hex, hdt, hk, hp, hn⟩
  refine wpAny_pyIter_dict lo D ?_
  have ds : d < s.heap.objs.size := Heap.lt_size hd
  have pk : ∀ {b : Addr} {ob : Obj}, s.heap.get? b = some ob → (s.heap.push { cls := .type "dict_keyiterator", data := .fields #[.ref d, .int 0 0, .int kvs.length 0, .int ep 0] }).get? b = some ob := fun e => Heap.get?_push_of_some _ e
  have hnI : ∀ p ∈ news, p.1 ∉ [s.heap.objs.size] := fun p hp hI => absurd (Heap.lt_size (N p hp).1) ((List.mem_singleton.mp hI) ▸ Nat.lt_irrefl _)
  let J' : Nat → (Str → Option Value) → List (Addr × Obj) → Prop := fun i m₁ news₁ => news₁.map (·.1) = news.map (·.1) ∧ J i m₁ news₁
  refine ⟨_, _, _, kvs.length, _, _, m₀, news, J', rfl, Walks.dictKeys hh s.heap.objs.size d (Nat.ne_of_lt ds) kvs ep, ?_, ?_, hnI, ⟨⟨_, Heap.get?_push_at rfl rfl, rfl, rfl⟩, ⟨o, es, pk hd, hex, hdt, hk, hp, hn⟩⟩, F.push _, (fun p hp => ⟨pk (N p hp).1, (N p hp).2⟩), ⟨rfl, hj⟩, ?_, ?_⟩
  · intro hm
    rcases List.mem_cons.mp hm with z | z
    · exact Nat.lt_irrefl _ (z ▸ F.ns.lt)
    · rw [List.mem_singleton] at z; exact hdL z.symm
  · intro b hb
    rw [List.mem_singleton.mp hb]
    exact next_is_new F
  · rintro i v m₁ news₁ s₁ own ⟨hh', tk', rfl⟩ hin hP ⟨hadr, hJ⟩ hoff hown _ _ _ F₁ N₁
    obtain ⟨k, y, hkv, hkey⟩ := hP
    obtain ⟨t, rfl⟩ : ∃ t, v = .str k t := by
      cases v <;> simp [PySem.strKind, Value.isStrOf] at hkey
      subst hkey; exact ⟨_, rfl⟩
    have hsep : ∀ b ∈ news.map (·.1), b ≠ d → ∀ p ∈ own, p.1 ≠ b := by
      intro b hb hbd p hp e
      obtain ⟨q, hq, rfl⟩ := List.mem_map.mp hb
      rcases List.mem_cons.mp (hown p hp) with h1 | h1
      · exact hnI q hq (List.mem_singleton.mpr (e.symm.trans h1))
      · exact hbd (e.symm.trans (List.mem_singleton.mp h1))
    have N₂ : News h₀ env.locals hh' (news₁ ++ own) := fun p hp => N₁ p ((List.mem_append.mp hp).elim (fun h => List.mem_append.mpr (.inr h)) fun h => List.mem_append.mpr (.inl h))
    refine wpAny_mono (turn i k y t m₁ news₁ hh' tk' own hkv hadr hsep hJ F₁ N₂) (fun f s₂ p => ?_) fun _ _ e => e
    have fin : InvEndN h₀ env.locals (J (i + 1)) own (news.map (·.1)) { s with heap := hh', toks := tk' } s₂ → LoopStepU h₀ env.locals [s.heap.objs.size] own (J' (i + 1)) { s with heap := hh', toks := tk' } .next s₂ := by
      rintro ⟨h', tk, m', news', nx, e, F', N', hn, ho, ha, hm⟩
      refine ⟨rfl, h', tk, m', nx, e, F', fun p hp => N' p ((List.mem_append.mp hp).elim (ho p) (hn p)), fun p hp hq => ?_, ha, hm⟩
      have h1 : p.1 ∈ nx.map (·.1) := List.mem_map.mpr ⟨p, hp, rfl⟩
      rw [ha, ← hadr] at h1
      obtain ⟨q, hq1, hq2⟩ := List.mem_map.mp h1
      exact hoff q hq1 (by rw [hq2]; exact hq)
    cases f with
    | ret v => exact .ret p
    | brk => exact .brk p
    | next => exact .next (fin p)
    | cont => exact .cont (fin p)
  · rintro h' tk m' news' F' N' _ ⟨_, hJ⟩
    exact done m' news' h' tk hJ F' N'
theorem range_turns {prog : Program} {w : World} {A : Around} {E : Value → Shared → Prop} {s : Shared} {env : Env} {h₀ : Heap} {x : Str} {body : List Stmt} {Q : Flow → Shared → Prop} {r : Addr} {n : Nat} {t u v : Tok}
    {m₀ : Str → Option Value} {news : List (Addr × Obj)} (J : Nat → (Str → Option Value) → List (Addr × Obj) → Prop)
    (hh : A.handled = none) (F : Fr h₀ env.locals s.heap m₀) (N : News h₀ env.locals s.heap news) (hr : IsRange s.heap r 0 n 1 t u v) (hs : Builtin.Range.small 0 n 1 = true) (hz : Builtin.Range.rangeSize 0 n 1 = (n : Int)) (hj : J 0 m₀ news)
    (turn : ∀ i v m₁ news₁ h tk own, i < n → news₁.map (·.1) = news.map (·.1) → OwnOff own (news.map (·.1)) → J i m₁ news₁ → Fr h₀ env.locals h (fun y => if y = x then some v else m₁ y) → News h₀ env.locals h (news₁ ++ own) →
      wpAny (model prog w) A (execs body env) (InvPostN h₀ env.locals (J (i + 1)) own (news.map (·.1)) { s with heap := h, toks := tk } Q) E { s with heap := h, toks := tk })
    (done : ∀ m₁ news₁ h tk, J n m₁ news₁ → Fr h₀ env.locals h m₁ → News h₀ env.locals h news₁ → Q .next { s with heap := h, toks := tk }) :
    wpAny (model prog w) A (pyIter (.ref r)) (fun it s₂ => LoopAtV prog w A h₀ env x body Q E it s₂) E s := by
  refine wpAny_pyIter_range hr hs ?_
  refine loop_invN J (Walks.range hh s.heap.objs.size 0 1 n) ?_ ?_ ?_ ?_ ?_ (F.push _) (fun p hp => ⟨Heap.get?_push_of_some _ (N p hp).1, (N p hp).2⟩) hj ?_ ?_
  · intro hm
    exact absurd F.ns.lt ((List.mem_singleton.mp hm) ▸ Nat.lt_irrefl _)
  · intro b hb
    rw [List.mem_singleton.mp hb]
    exact next_is_new F
  · intro p hp hI
    exact absurd (Heap.lt_size (N p hp).1) ((List.mem_singleton.mp hI) ▸ Nat.lt_irrefl _)
  · intro p hp hI
    exact absurd (Heap.lt_size (N p hp).1) ((List.mem_singleton.mp hI) ▸ Nat.lt_irrefl _)
  · rw [hz]
    exact Heap.get?_push_at (by simp) rfl
  · rintro i v m₁ news₁ h tk own hi hv hmap hoff hJ F₁ N₁
    exact turn i v m₁ news₁ h tk own hi hmap hoff hJ F₁ N₁
  · intro m₁ news₁ h tk hJ F₁ N₁
    exact done m₁ news₁ h tk hJ F₁ N₁
end Mine
end
section --S19
namespace Mine
inductive Consts : List (Option Expr) → List Expr → List (Str × Str) → Prop
  | nil : Consts [] [] []
  | cons {a b : Str} {k k' p p'} {ks vs ps} : Consts ks vs ps → Consts (some (.Constant (.str a) k p) :: ks) (.Constant (.str b) k' p' :: vs) ((a, b) :: ps)
theorem Consts.all {ks vs ps} (h : Consts ks vs ps) : ks.all (·.isSome) = true ∧ ks.length = vs.length ∧ vs.length = ps.length := by
  induction h with
  | nil => exact ⟨rfl, rfl, rfl⟩
  | cons _ ih => exact ⟨ih.1, congrArg (· + 1) ih.2.1, congrArg (· + 1) ih.2.2⟩
theorem forIn_gather17 (f : (Option (Sem Value) × Sem Value) → (Option Addr × List (Sem Value × Sem Value)) → Sem (ForInStep (Option Addr × List (Sem Value × Sem Value))))
    (hf : ∀ (p : Sem Value × Sem Value) (run : List (Sem Value × Sem Value)), run.length + 1 < 17 → f (some p.1, p.2) (none, run) = pure (.yield (none, run ++ [p])))
    (hl : ∀ (p : Sem Value × Sem Value) (run : List (Sem Value × Sem Value)), run.length + 1 = 17 → f (some p.1, p.2) (none, run) = (do let d ← subDict (run ++ [p]); pure (.yield (some d, [])))) :
    ∀ (items run : List (Sem Value × Sem Value)), items ≠ [] → run.length + items.length = 17 → forIn (items.map fun p => (some p.1, p.2)) ((none : Option Addr), run) f = (do let d ← subDict (run ++ items); pure (some d, [])) := by
  intro items
  induction items with
  | nil => exact fun _ h => absurd rfl h
  | cons p tl ih =>
  cases tl with
  | nil =>
    intro run _ h
    rw [List.map_cons, List.forIn_cons, hl p run (by simpa using h)]
    simp
  | cons q rest =>
    intro run _ h
    rw [List.map_cons, List.forIn_cons, hf p run (by simp at h; omega), pure_bind]
    have := ih (run ++ [p]) (by simp) (by simp at h ⊢; omega)
    simpa using this
theorem dictDisplay_17 (pairs : List (Sem Value × Sem Value)) (hlen : pairs.length = 17) :
    dictDisplay (pairs.map fun p => (some p.1, p.2)) = (do let d ← subDict pairs; pure (.ref d)) := by
  unfold dictDisplay
  dsimp only
  have h0 : pairs ≠ [] := by rintro rfl; cases hlen
  rw [forIn_gather17 _ (fun p run h => by
    have hne : ((run ++ [(p.1, p.2)]).length == 17) = false := by simp; omega
    simp only [hne, Bool.false_eq_true, if_false]) (fun p run h => by
    have hne : ((run ++ [(p.1, p.2)]).length == 17) = true := by simp; omega
    have he : (run ++ [(p.1, p.2)]).isEmpty = false := by simp
    simp only [hne, he, if_true, Bool.false_eq_true, if_false, bind_assoc, pure_bind]) pairs [] h0 (by simpa using hlen)]
  simp
section
variable {prog : Program} {w : World} {A : Around} {E : Value → Shared → Prop}
theorem store_long {d : Addr} {env : Env} {pos : Pos} {ks : List (Option Expr)} {vs : List Expr} {ps : List (Str × Str)} (acc : List (Str × Value)) (accp : List (Str × Str)) (s : Shared) (Q : PUnit → Shared → Prop)
    (hc : Consts ks vs ps) : PairsAre acc accp → ((accp ++ ps).map (·.1)).Nodup → s.heap.DictOf (PySem.strKind prog w) d acc → acc.length + ps.length ≤ sizeLine →
    (∀ h' tk kvs, h'.DictOf (PySem.strKind prog w) d kvs → PairsAre kvs (accp ++ ps) → Heap.SameBut d s.heap h' → Q PUnit.unit { s with heap := h', toks := tk }) →
    wpAny (model prog w) A (forIn (pairTrees ks vs env pos) PUnit.unit fun (x : Sem Value × Sem Value) (_ : PUnit) => (do let kv ← x.1; let vv ← holding [kv] x.2; holding [kv, vv] (dictSet d kv vv); pure (ForInStep.yield PUnit.unit) : Sem (ForInStep PUnit))) Q E s := by
  induction hc generalizing acc accp s Q with
  | nil =>
    intro hp _ hd _ hQ
    show wpAny (model prog w) A (forIn ([] : List (Sem Value × Sem Value)) PUnit.unit _) Q E s
    rw [List.forIn_nil]
    exact wpAny_pure (hQ s.heap s.toks acc hd (by simpa using hp) (Heap.SameBut.refl _ _))
  | @cons a b _ _ _ _ _ _ ps r ih =>
    intro hp hn hd hsz hQ
    rw [pairTrees, List.forIn_cons]
    rw [List.length_cons] at hsz
    have hab : valueAt acc a = none := by
      rcases hp.find (k := a) with ⟨_, h⟩ | ⟨y, t, h, _⟩
      · exact h
      · have := List.mem_of_find?_eq_some h
        rw [List.map_append] at hn
        have hd := (List.nodup_append.mp hn).2.2 _ (List.mem_map_of_mem this) a (by simp)
        exact absurd rfl hd
    refine wpAny_bind (wpAny_bind ?_)
    dsimp only
    refine wpAny_Constant_str ?_
    refine wpAny_bind (wpAny_holding ?_)
    refine wpAny_bind (wpAny_Constant_str ?_)
    refine wpAny_bind (wpAny_standAt (wpAny_pure ?_))
    refine wpAny_bind (wpAny_holding ?_)
    refine wpAny_dictSet_pairs (hsz := by omega) (strKind_is prog w a _) hd fun h₁ hm₁ hs₁ => wpAny_pure ?_
    rw [stored_absent hab] at hm₁
    dsimp only
    refine ih _ (accp ++ [(a, b)]) _ Q (hp.app (.cons .nil)) (by simpa using hn) hm₁ (by simp; omega) fun h' tk kvs hd' hp' hs' => ?_
    have := hQ h' tk kvs hd' (by simpa using hp') (hs₁.trans hs')
    simpa using this
end
section
variable {prog : Program} {w : World} {A : Around} {E : Value → Shared → Prop} {s : Shared} {h₀ : Heap} {L : Addr} {m : Str → Option Value} {news : List (Addr × Obj)} {env : Env}
theorem dict17 {keys : List (Option Expr)} {values : List Expr} {pos : Pos} {ps : List (Str × Str)} {Q : Value → Shared → Prop} (hc : Consts keys values ps) (hlen : ps.length = 17) (hn : (ps.map (·.1)).Nodup) (F : Fr h₀ L s.heap m) (N : News h₀ L s.heap news) (hbig : h₀.NoLimit)
    (h : ∀ d h' tk o kvs, Fr h₀ L h' m → News h₀ L h' ((d, o) :: news) → (∀ p ∈ news, p.1 < d) → L < d → (d == sysModules) = false → o.IsDictOf (PySem.strKind prog w) kvs → PairsAre kvs ps → Q (.ref d) { s with heap := h', toks := tk }) :
    wpAny (model prog w) A (eval (.Dict keys values pos) env) Q E s := by
  obtain ⟨h1, h2, h3⟩ := hc.all
  have hl := pairTrees_length keys values env pos h1 h2
  rw [arm_eval_Dict, zip_pairTrees keys values env pos h1 h2, dictDisplay_17 _ (by rw [hl, h2, h3, hlen])]
  refine wpAny_bind (wpAny_standAt (wpAny_bind ?_))
  unfold subDict
  refine wpAny_bind (wpAny_alloc (wpAny_bind (wpAny_holding ?_)))
  rw [if_neg (by rw [hl, h2, h3, hlen]; decide)]
  refine wpAny_bind (wpAny_rule ?_)
  have N1 := News.push F N { cls := .type "dict", data := .dict #[] }
  have hd0 : (s.heap.push { cls := .type "dict", data := .dict #[] }).DictOf (PySem.strKind prog w) s.heap.objs.size [] := Heap.DictOf.new s.heap
  refine wpAny_bind (store_long [] [] _ _ hc .nil (by simpa using hn) hd0 (by rw [sizeLine_eq]; simp; omega) fun h' tk kvs hd' hp' hs' => ?_)
  refine wpAny_pure (wpAny_pure (wpAny_pure ?_))
  obtain ⟨o', ho', hd2⟩ := Heap.dictOf_iff.mp hd'
  exact h _ h' tk o' kvs ((F.push _).change hs' (N1 _ (.head _)).2.1 (N1.fresh (.head _))) (N1.setHead N.apart hs' ho') (fun p hp => Heap.lt_size (N p hp).1) F.ns.lt (F.notModules (modules_low hbig)) hd2 (by simpa using hp')
theorem b_get2s {Q : Value → Shared → Prop} {d : Addr} {o : Obj} {kvs : List (Str × Value)} {x : Str} {t : Tok} {v y : Value} (N : s.heap.get? d = some o) (hd : o.IsDictOf (PySem.strKind prog w) kvs) (lo : (d == sysModules) = false) (hv : valueAt kvs x = some v) (h : Q v { s with toks := s.toks + 1 }) :
    wpAny (model prog w) A (call (.builtin "dict.get") [.ref d, .str x t, y]) Q E s := b_get2 N hd lo (by rw [hv]; rfl) h
theorem b_get2n {Q : Value → Shared → Prop} {d : Addr} {o : Obj} {kvs : List (Str × Value)} {x : Str} {t : Tok} {y : Value} (N : s.heap.get? d = some o) (hd : o.IsDictOf (PySem.strKind prog w) kvs) (lo : (d == sysModules) = false) (hv : valueAt kvs x = none) (h : Q y { s with toks := s.toks + 1 }) :
    wpAny (model prog w) A (call (.builtin "dict.get") [.ref d, .str x t, y]) Q E s := b_get2 N hd lo (by rw [hv]; rfl) h
theorem eval_consts {pos : Pos} {ks : List (Option Expr)} {vs : List Expr} {ps : List (Str × Str)} (s : Shared) (Q : List (Value × Value) → Shared → Prop)
    (hc : Consts ks vs ps) : (∀ vs' kvs tk, Carries (PySem.strKind prog w) vs' kvs → PairsAre kvs ps → Q vs' { s with toks := tk }) → wpAny (model prog w) A (evalPairs (pairTrees ks vs env pos)) Q E s := by
  induction hc generalizing s Q with
  | nil =>
    intro h
    show wpAny (model prog w) A (evalPairs []) Q E s
    exact evalPairs_nil (h [] [] s.toks trivial .nil)
  | @cons a b _ _ _ _ _ _ _ r ih =>
    intro h
    rw [pairTrees]
    refine evalPairs_cons (wpAny_Constant_str (wpAny_bind (wpAny_Constant_str (wpAny_bind (wpAny_standAt (wpAny_pure ?_))))))
    refine ih _ _ fun vs' kvs tk hc hp => ?_
    exact h _ ((a, _) :: kvs) tk ⟨strKind_is prog w a _, rfl, hc⟩ (.cons hp)
theorem dict_few {keys : List (Option Expr)} {values : List Expr} {pos : Pos} {ps : List (Str × Str)} {Q : Value → Shared → Prop} (hc : Consts keys values ps) (h0 : keys ≠ []) (hlen : ps.length ≤ 15) (hn : (ps.map (·.1)).Nodup) (F : Fr h₀ L s.heap m) (N : News h₀ L s.heap news) (hbig : h₀.NoLimit)
    (h : ∀ d h' tk o kvs, Fr h₀ L h' m → News h₀ L h' ((d, o) :: news) → (∀ p ∈ news, p.1 < d) → L < d → (d == sysModules) = false → o.IsDictOf (PySem.strKind prog w) kvs → PairsAre kvs ps → Q (.ref d) { s with heap := h', toks := tk }) :
    wpAny (model prog w) A (eval (.Dict keys values pos) env) Q E s := by
  obtain ⟨h1, h2, h3⟩ := hc.all
  have hl := pairTrees_length keys values env pos h1 h2
  have N1 := News.push F N { cls := .type "dict", data := .dict #[] }
  have hp0 : pairTrees keys values env pos ≠ [] := by
    intro he
    rw [he] at hl
    exact h0 (List.length_eq_zero_iff.mp hl.symm)
  refine wpAny_Dict_pairs (knd := PySem.strKind prog w) (zip_pairTrees keys values env pos h1 h2) hp0 (by rw [hl, h2, h3]; exact hlen) ?_
  refine eval_consts _ _ hc fun vs' kvs tk hcr hp => ⟨kvs, hcr, Heap.DictOf.new s.heap, fun h' hm hs' => ?_⟩
  rw [merged_nil_of_nodup _ (by rw [hp.keys]; exact hn)] at hm
  obtain ⟨o', ho', hd2⟩ := Heap.dictOf_iff.mp hm
  exact h _ h' _ o' kvs ((F.push _).change hs' (N1 _ (.head _)).2.1 (N1.fresh (.head _))) (N1.setHead N.apart hs' ho') (fun p hp => Heap.lt_size (N p hp).1) F.ns.lt (F.notModules (modules_low hbig)) hd2 hp
theorem dict_none {pos : Pos} {Q : Value → Shared → Prop} (F : Fr h₀ L s.heap m) (N : News h₀ L s.heap news) (hbig : h₀.NoLimit)
    (h : ∀ d h' o, Fr h₀ L h' m → News h₀ L h' ((d, o) :: news) → (∀ p ∈ news, p.1 < d) → L < d → (d == sysModules) = false → o.IsDictOf (PySem.strKind prog w) [] → Q (.ref d) { s with heap := h' }) :
    wpAny (model prog w) A (eval (.Dict [] [] pos) env) Q E s := by
  rw [arm_eval_Dict]
  refine wpAny_bind (wpAny_standAt ?_)
  have N1 := News.push F N { cls := .type "dict", data := .dict #[] }
  obtain ⟨o', ho', hd2⟩ := Heap.dictOf_iff.mp (Heap.DictOf.new (knd := PySem.strKind prog w) s.heap)
  have e : o' = { cls := .type "dict", data := .dict #[] } := Option.some.inj (ho'.symm.trans (N1 _ (.head _)).1)
  subst e
  show wpAny (model prog w) A newDict Q E s
  unfold newDict
  exact wpAny_bind (wpAny_alloc (wpAny_pure (h _ _ _ (F.push _) N1 (fun p hp => Heap.lt_size (N p hp).1) F.ns.lt (F.notModules (modules_low hbig)) hd2)))
end
end Mine
end
section --C33
set_option maxHeartbeats 1600000
namespace Mine
noncomputable def handedL : List (Str × Str) := [(Str.ofString "fill", Str.ofString "black"), (Str.ofString "fill-rule", Str.ofString "nonzero"), (Str.ofString "fill-opacity", Str.ofString "1"), (Str.ofString "stroke", Str.ofString "none"), (Str.ofString "stroke-width", Str.ofString "1"), (Str.ofString "stroke-linecap", Str.ofString "butt"), (Str.ofString "stroke-linejoin", Str.ofString "miter"), (Str.ofString "stroke-miterlimit", Str.ofString "4"), (Str.ofString "stroke-dasharray", Str.ofString "none"), (Str.ofString "stroke-dashoffset", Str.ofString "0"), (Str.ofString "stroke-opacity", Str.ofString "1"), (Str.ofString "clip-rule", Str.ofString "nonzero"), (Str.ofString "color", Str.ofString "black"), (Str.ofString "font-size", Str.ofString "16"), (Str.ofString "font-family", Str.ofString ""), (Str.ofString "text-anchor", Str.ofString "start"), (Str.ofString "visibility", Str.ofString "visible")]
noncomputable def freshL : List (Str × Str) := [(Str.ofString "opacity", Str.ofString "1"), (Str.ofString "display", Str.ofString "inline"), (Str.ofString "clip-path", Str.ofString "none"), (Str.ofString "mask", Str.ofString "none"), (Str.ofString "stop-color", Str.ofString "black"), (Str.ofString "stop-opacity", Str.ofString "1"), (Str.ofString "mix-blend-mode", Str.ofString "normal")]
theorem lnC33a : True := by
  k_with_none
  k_with "a1" => (first | with_reducible assumption | ((with_reducible apply Mine.ltm); (with_reducible assumption); k_mem))
  k_with "a2" => (first | with_reducible exact Mine.lss | with_reducible exact Mine.ltp (by assumption) | with_reducible exact Mine.ltp (Mine.ltp (by assumption)) | with_reducible exact Mine.ltp (Mine.ltp (Mine.ltp (by assumption))) | ((with_reducible refine Mine.lts ?_); first | with_reducible exact Mine.lss | k_memK) | ((with_reducible refine Mine.lts (Mine.lts ?_)); first | with_reducible exact Mine.lss | k_memK) | ((with_reducible refine Mine.lts (Mine.lts (Mine.lts ?_))); k_memK))
  k_with "a3" => (first | k_cls | ((with_reducible apply Mine.ltr); (with_reducible assumption); first | k_memK | k_cls) | ((with_reducible apply Mine.ltr); (with_reducible exact Mine.ltp (by assumption)); first | k_memK | k_cls))
  k_with "a4" => (first | with_reducible exact Mine.neAll (by assumption) | with_reducible exact Mine.neNil | ((with_reducible refine Mine.neCons ?_ ?_); k_ne; k_all))
  k_with "a5" => (first | with_reducible exact Mine.subNil | with_reducible exact Mine.subSame | ((with_reducible refine Mine.subCons ?_ ?_); k_mem; k_subL) | ((with_reducible refine Mine.subApp ?_ ?_); k_subL; k_subL) | ((with_reducible refine Mine.subTail ?_); k_subL))
  k_with "a6" => (first | with_reducible assumption | ((with_reducible show @Ne Nat _ _); first | ((with_reducible refine Mine.nlt ?_); k_memK) | ((with_reducible refine Mine.ngt ?_); k_memK) | (with_reducible exact Ne.symm (by assumption)) | ((with_reducible refine Mine.nlt ?_); k_types) | ((with_reducible refine Mine.ngt ?_); k_types)) | ((with_reducible apply Mine.dq0); (with_reducible assumption); decide) | ((with_reducible apply Mine.dq1); (with_reducible assumption); decide) | ((with_reducible apply Mine.dq2); (with_reducible assumption); decide) | ((with_reducible apply Mine.dq3); (with_reducible assumption); decide) | ((with_reducible apply Mine.dq4); (with_reducible assumption); decide) | ((with_reducible first | apply Mine.il1 | apply Mine.il3); (with_reducible assumption); decide) | ((with_reducible first | apply Mine.il2 | apply Mine.il4); (with_reducible assumption); decide) | ((with_reducible first | apply Mine.iu1 | apply Mine.iu3); (with_reducible assumption); decide) | ((with_reducible first | apply Mine.iu2 | apply Mine.iu4); (with_reducible assumption); decide) | ((with_reducible first | apply Mine.nl3 | apply Mine.nl2); (with_reducible assumption); decide) | ((with_reducible first | apply Mine.nu1 | apply Mine.nu3); (with_reducible assumption); decide) | ((with_reducible first | apply Mine.nu2 | apply Mine.nu4); (with_reducible assumption); decide) | ((with_reducible show @LT.lt Nat _ _ _); first | k_memK | k_types) | decide)
  k_with "a7" => (repeat (rename ∀ _ ∈ (_ : List (Addr × Obj)), @LT.lt Nat _ _ _ => hrw; replace hrw := allLt_of hrw; dsimp only [AllLt] at hrw))
  k_with "a8" => (first | (k_whole; kc_bool) | omega +splitDisjunctions | (k_whole; k_units; omega +splitDisjunctions))
  k_with "a9" => (first | (k_whole; kc_bool) | lia | omega +splitDisjunctions)
  k_with "eval Call" => ((fail_if_success (fail_if_success k_fold)); refine foldL ?_; intro qk ek; walk1)
  k_with "eval BinOp" => ((fail_if_success (fail_if_success k_fold)); refine foldL ?_; intro qk ek; walk1)
  k_with "eval Tuple" => ((fail_if_success (fail_if_success k_fold)); refine foldL ?_; intro qk ek; walk1)
  k_with "isTrue Compare" => ((fail_if_success (fail_if_success k_fold)); refine foldL ?_; intro qk ek; walk1)
  k_with "eval Subscript" => ((fail_if_success (fail_if_success k_fold)); refine foldL ?_; intro qk ek; walk1)
  k_with "exec Assign" => ((fail_if_success (fail_if_success k_fold)); refine foldL ?_; intro qk ek; walk1)
  k_with "eval List" => ((fail_if_success (fail_if_success k_fold)); refine foldL ?_; intro qk ek; walk1)
  k_with "eval Attribute" => ((fail_if_success (fail_if_success k_fold)); refine foldL ?_; intro qk ek; walk1)
  k_with "eval UnaryOp" => ((fail_if_success (fail_if_success k_fold)); refine foldL ?_; intro qk ek; walk1)
  k_with "callWith ref" => ((fail_if_success (fail_if_success k_fold)); refine foldL ?_; intro qk ek; walk1)
  k_with "callWith" => ((fail_if_success (fail_if_success k_fold)); refine foldL ?_; intro qk ek; walk1)
  k_with "eval Dict" => (k_here; k_dflt (refine' dict17 ?c (ps := handedL) ?l17 ?n17 ?F ?N ?b ?_; (case c => unfold handedL; repeat constructor); (case l17 => rfl); (case n17 => decide +kernel); (case F => k_asm); (case N => first | k_asm | exact News.nil); (case b => exact Top.nolimit (by k_asm))); intro d' h' tk' o' kvs' F' N' l1 l2 lo' hd' hp'; (try k_lt2 l2))
  trivial
theorem handed_spec {w : World} {A : Around} {s : Shared}  {Q E : Value → Shared → Prop}
    (R : Rd (hd.heap_1 w.params) 2 A s.heap s) 
    (hret : ∀ r o kvs h' tk', s.heap.StaysIn h' → s.heap.objs.size ≤ r → (r == sysModules) = false → h'.get? r = some o → o.IsDictOf (PySem.strKind PySem.Challenge.rw_pf0197_01.row.prog w) kvs → PairsAre kvs handedL → Q (.ref r) { s with heap := h', toks := tk' }) :
    wpAny (model PySem.Challenge.rw_pf0197_01.row.prog w) A (call (.ref 194) [] []) Q E s := by
  revert R; k_fill; intro R
  refine' enter (news := []) (args := ⟨[], []⟩) (binds := []) R ?foot ?ho ?hcd ?hbind ?hloc ?h ?hcell ?hco ?hgen ?hk
  case foot => intro p hp; cases hp
  case ho => k_is
  case hcd => k_is
  case hbind => exact BindsTo.of_eq rfl
  case hloc => exact locs rfl
  case hcell => decide
  case hco => exact rfl
  case hgen => exact rfl
  case hk => exact rfl
  clear R
  intro base dp un outer p loose mean mg mb L h₁ F' N' B' X' T' hDp hUn hl hs hA
  clear hA
  (try dsimp only); (try k_fold)
  k_steps
  (with_reducible rename Fr _ _ _ _ => Fz)
  (with_reducible rename News _ _ _ _ => Nz)
  exact hret _ _ _ _ _ Fz.keep (under hs (by with_reducible assumption)) (by with_reducible assumption) (Nz.get (List.mem_cons_self ..)) (by with_reducible assumption) (by with_reducible assumption)
theorem lnC33b : True := by
  k_with "eval Dict" => (k_here; k_dflt (refine' dict_few ?c (ps := freshL) ?e17 ?l17 ?n17 ?F ?N ?b ?_; (case c => unfold freshL; repeat constructor); (case e17 => exact List.cons_ne_nil _ _); (case l17 => decide); (case n17 => decide +kernel); (case F => k_asm); (case N => first | k_asm | exact News.nil); (case b => exact Top.nolimit (by k_asm))); intro d' h' tk' o' kvs' F' N' l1 l2 lo' hd' hp'; (try k_lt2 l2))
  trivial
theorem fresh_spec {w : World} {A : Around} {s : Shared}  {Q E : Value → Shared → Prop}
    (R : Rd (hd.heap_1 w.params) 2 A s.heap s) 
    (hret : ∀ r o kvs h' tk', s.heap.StaysIn h' → s.heap.objs.size ≤ r → (r == sysModules) = false → h'.get? r = some o → o.IsDictOf (PySem.strKind PySem.Challenge.rw_pf0197_01.row.prog w) kvs → PairsAre kvs freshL → Q (.ref r) { s with heap := h', toks := tk' }) :
    wpAny (model PySem.Challenge.rw_pf0197_01.row.prog w) A (call (.ref 201) [] []) Q E s := by
  revert R; k_fill; intro R
  refine' enter (news := []) (args := ⟨[], []⟩) (binds := []) R ?foot ?ho ?hcd ?hbind ?hloc ?h ?hcell ?hco ?hgen ?hk
  case foot => intro p hp; cases hp
  case ho => k_is
  case hcd => k_is
  case hbind => exact BindsTo.of_eq rfl
  case hloc => exact locs rfl
  case hcell => decide
  case hco => exact rfl
  case hgen => exact rfl
  case hk => exact rfl
  clear R
  intro base dp un outer p loose mean mg mb L h₁ F' N' B' X' T' hDp hUn hl hs hA
  clear hA
  (try dsimp only); (try k_fold)
  k_steps
  (with_reducible rename Fr _ _ _ _ => Fz)
  (with_reducible rename News _ _ _ _ => Nz)
  exact hret _ _ _ _ _ Fz.keep (under hs (by with_reducible assumption)) (by with_reducible assumption) (Nz.get (List.mem_cons_self ..)) (by with_reducible assumption) (by with_reducible assumption)
theorem lnC33c : True := by
  k_with "subscriptTail Name Constant ref int" => (k_here; first | refine tup_item0 (by assumption) (by assumption) ?_ | refine tup_item1 (by assumption) (by assumption) ?_)
  k_with "exec While" => (k_here; refine Stop.go ?_)
  k_with "binaryOp FloorDiv int int" => (k_here; refine floordiv_int (by first | decide | omega) ?_ (Or.inl (noPyl (by first | decide | omega) (by first | decide | omega))))
  k_with "newTuple" => (k_here; k_dflt (refine' newTuple_mine ?k1 ?k2 ?_ ?k3; (case k1 => k_asm); (case k2 => k_asm); (case k3 => first | decide | (exact Nat.le_of_ble_eq_true rfl) | (simp only [sizeLine_eq]; simp))); intro D' h' F' N' l1 l2; (try k_lt l1); (try k_lt2 l2); (try k_sweep))
  k_with "binaryOp Mult int int" => (k_here; refine mul_int ?_ (by first | exact mulOk60 (by omega) (by omega) (by omega) (by omega) | mul_fits))
  k_with "call builtin:len" => (k_here; refine r_len (by first | omega | (simp only [List.length_append, List.length_cons, List.length_nil]; omega)) ?_; intro t9 k9)
  k_with "subscriptTail Attribute Attribute str int" => (k_here; (with_reducible show wpAny _ _ (subscriptTail _ _ (Value.str (S _) _) (Value.int _ _)) _ _ _); k_dflt (refine r_item (by omega) (by omega) (by omega) ?_); intro t9 k9)
  k_with "compareOp In str str" => (k_here; refine r_in ?_)
  k_with "subscriptTail Attribute Slice str ref" => (k_here; (with_reducible show wpAny _ _ (subscriptTail _ (Expr.Slice (some _) (some _) none _) (Value.str (S _) _) (Value.ref _)) _ _ _); (with_reducible rename Fr _ _ _ _ => Fz); (with_reducible rename News _ _ _ _ => Nz); k_dflt (refine r_slice (s := ⟨_, _, _, _, _⟩) Fz Nz (by omega) (by omega) (by omega) (by omega) ?_); intro h9 t9 k9 F9 N9; (try k_sweep))
  k_with "compareOp Eq str str" => (k_here; first | refine r_eq_f (by assumption) ?_ | refine r_eq_t (by assumption) ?_ | refine r_eq ?_)
  k_with "compareOp NotEq str str" => (k_here; first | refine r_ne_t (by assumption) ?_ | refine r_ne_f (by assumption) ?_ | refine r_ne ?_)
  k_with "getMethod ref" => (k_here; (with_reducible show wpAny _ _ (getMethod (Value.ref _) (Str.ofString "get") _) _ _ _); (with_reducible rename Fr _ _ _ _ => Fz); k_dflt (refine b_getm (Fz.keep _ _ (by with_reducible assumption)) (by with_reducible assumption) ?_))
  k_with "call builtin:dict.get" => (k_here; (with_reducible rename Fr _ _ _ _ => Fz); k_dflt (first | refine b_get1 (Fz.keep _ _ (by with_reducible assumption)) (by with_reducible assumption) (by with_reducible assumption) (by with_reducible assumption) ?_ | refine b_get0 (Fz.keep _ _ (by with_reducible assumption)) (by with_reducible assumption) (by with_reducible assumption) (by with_reducible assumption) ?_))
  k_with "call builtin:dict.get" => (k_here; (with_reducible rename Fr _ _ _ _ => Fz); k_dflt (first | refine b_get2s (Fz.keep _ _ (by with_reducible assumption)) (by with_reducible assumption) (by with_reducible assumption) (by with_reducible assumption) ?_ | refine b_get2n (Fz.keep _ _ (by with_reducible assumption)) (by with_reducible assumption) (by with_reducible assumption) (by with_reducible assumption) ?_))
  trivial
theorem get_some {w : World} {A : Around} {s : Shared} {ex dex da ch : Addr} {nv tv : Value} {o : Obj} {kvs : List (Str × Value)} {h3 h4 h5 h6 : Int} {k3 k4 k5 k6 : Tok} {nm : Str} {tn : Tok} {v : Value} {Q E : Value → Shared → Prop}
    (R : Rd (hd.heap_1 w.params) 4 A s.heap s) (hex : s.heap.get? ex = some (instObj 378 dex)) (hdex : s.heap.get? dex = some (elemD nv da ch tv h3 h4 h5 h6 k3 k4 k5 k6)) (hda : s.heap.get? da = some o) (hdo : o.IsDictOf (PySem.strKind PySem.Challenge.rw_pf0197_01.row.prog w) kvs) (hlo : (da == sysModules) = false) (hval : valueAt kvs nm = some v)
    (hret : ∀ h' tk', s.heap.StaysIn h' → Q (v) { s with heap := h', toks := tk' }) :
    wpAny (model PySem.Challenge.rw_pf0197_01.row.prog w) A (call (.ref 375) [.ref ex, .str nm tn] []) Q E s := by
  revert R; k_fill; intro R
  refine' enter (news := []) (args := ⟨[.ref ex, .str nm tn], []⟩) (binds := [(Str.ofString "self", .ref ex), (Str.ofString "name", .str nm tn), (Str.ofString "other", .none)]) R ?foot ?ho ?hcd ?hbind ?hloc ?h ?hcell ?hco ?hgen ?hk
  case foot => intro p hp; cases hp
  case ho => k_is
  case hcd => k_is
  case hbind => exact binds_K (R.X.keeps R.st) rfl (by k_is) rfl rfl rfl
  case hloc => exact locs rfl
  case hcell => decide
  case hco => exact rfl
  case hgen => exact rfl
  case hk => exact rfl
  clear R
  intro base dp un outer p loose mean mg mb L h₁ F' N' B' X' T' hDp hUn hl hs hA
  clear hA
  (try dsimp only); (try k_fold)
  k_steps
  (with_reducible rename Fr _ _ _ _ => Fz)
  exact hret _ _ Fz.keep
theorem get_none {w : World} {A : Around} {s : Shared} {ex dex da ch : Addr} {nv tv : Value} {o : Obj} {kvs : List (Str × Value)} {h3 h4 h5 h6 : Int} {k3 k4 k5 k6 : Tok} {nm : Str} {tn : Tok} {Q E : Value → Shared → Prop}
    (R : Rd (hd.heap_1 w.params) 4 A s.heap s) (hex : s.heap.get? ex = some (instObj 378 dex)) (hdex : s.heap.get? dex = some (elemD nv da ch tv h3 h4 h5 h6 k3 k4 k5 k6)) (hda : s.heap.get? da = some o) (hdo : o.IsDictOf (PySem.strKind PySem.Challenge.rw_pf0197_01.row.prog w) kvs) (hlo : (da == sysModules) = false) (hval : valueAt kvs nm = none)
    (hret : ∀ h' tk', s.heap.StaysIn h' → Q (.none) { s with heap := h', toks := tk' }) :
    wpAny (model PySem.Challenge.rw_pf0197_01.row.prog w) A (call (.ref 375) [.ref ex, .str nm tn] []) Q E s := by
  revert R; k_fill; intro R
  refine' enter (news := []) (args := ⟨[.ref ex, .str nm tn], []⟩) (binds := [(Str.ofString "self", .ref ex), (Str.ofString "name", .str nm tn), (Str.ofString "other", .none)]) R ?foot ?ho ?hcd ?hbind ?hloc ?h ?hcell ?hco ?hgen ?hk
  case foot => intro p hp; cases hp
  case ho => k_is
  case hcd => k_is
  case hbind => exact binds_K (R.X.keeps R.st) rfl (by k_is) rfl rfl rfl
  case hloc => exact locs rfl
  case hcell => decide
  case hco => exact rfl
  case hgen => exact rfl
  case hk => exact rfl
  clear R
  intro base dp un outer p loose mean mg mb L h₁ F' N' B' X' T' hDp hUn hl hs hA
  clear hA
  (try dsimp only); (try k_fold)
  k_steps
  (with_reducible rename Fr _ _ _ _ => Fz)
  exact hret _ _ Fz.keep
theorem get_else {w : World} {A : Around} {s : Shared} {ex dex da ch : Addr} {nv tv : Value} {o : Obj} {kvs : List (Str × Value)} {h3 h4 h5 h6 : Int} {k3 k4 k5 k6 : Tok} {nm : Str} {tn : Tok} {v : Value} {Q E : Value → Shared → Prop}
    (R : Rd (hd.heap_1 w.params) 4 A s.heap s) (hex : s.heap.get? ex = some (instObj 378 dex)) (hdex : s.heap.get? dex = some (elemD nv da ch tv h3 h4 h5 h6 k3 k4 k5 k6)) (hda : s.heap.get? da = some o) (hdo : o.IsDictOf (PySem.strKind PySem.Challenge.rw_pf0197_01.row.prog w) kvs) (hlo : (da == sysModules) = false) (hval : valueAt kvs nm = none)
    (hret : ∀ h' tk', s.heap.StaysIn h' → Q (v) { s with heap := h', toks := tk' }) :
    wpAny (model PySem.Challenge.rw_pf0197_01.row.prog w) A (call (.ref 375) [.ref ex, .str nm tn, v] []) Q E s := by
  revert R; k_fill; intro R
  refine' enter (news := []) (args := ⟨[.ref ex, .str nm tn, v], []⟩) (binds := [(Str.ofString "self", .ref ex), (Str.ofString "name", .str nm tn), (Str.ofString "other", v)]) R ?foot ?ho ?hcd ?hbind ?hloc ?h ?hcell ?hco ?hgen ?hk
  case foot => intro p hp; cases hp
  case ho => k_is
  case hcd => k_is
  case hbind => exact binds_K (R.X.keeps R.st) rfl (by k_is) rfl rfl rfl
  case hloc => exact locs rfl
  case hcell => decide
  case hco => exact rfl
  case hgen => exact rfl
  case hk => exact rfl
  clear R
  intro base dp un outer p loose mean mg mb L h₁ F' N' B' X' T' hDp hUn hl hs hA
  clear hA
  (try dsimp only); (try k_fold)
  k_steps
  (with_reducible rename Fr _ _ _ _ => Fz)
  exact hret _ _ Fz.keep
end Mine
end
section --S20
namespace Mine
noncomputable def gotL (as : List (Str × List Nat)) : List Str → List (Str × Str)
  | [] => []
  | k :: r => match as.find? (fun p => p.1 = k) with
    | some p => (k, S (stripL p.2)) :: gotL as r
    | none => gotL as r
theorem gotL_app (as : List (Str × List Nat)) : ∀ a b, gotL as (a ++ b) = gotL as a ++ gotL as b
  | [], b => rfl
  | k :: r, b => by
    simp only [List.cons_append, gotL]
    split <;> simp [gotL_app as r b]
theorem gotL_keys {as : List (Str × List Nat)} {x : Str} : ∀ {a}, x ∈ (gotL as a).map (·.1) → x ∈ a
  | [], h => h
  | k :: r, h => by
    simp only [gotL] at h
    split at h
    · rcases List.mem_cons.mp (by simpa using h : x ∈ k :: (gotL as r).map (·.1)) with e | e
      · exact e ▸ .head _
      · exact .tail _ (gotL_keys e)
    · exact .tail _ (gotL_keys h)
theorem PairsAre.absent {k : Str} {kvs : List (Str × Value)} {ps : List (Str × Str)} (h : PairsAre kvs ps) (hn : k ∉ ps.map (·.1)) : valueAt kvs k = none := by
  rcases h.find (k := k) with ⟨_, h⟩ | ⟨y, t, h, _⟩
  · exact h
  · exact absurd (List.mem_map_of_mem (f := (·.1)) (List.mem_of_find?_eq_some h)) hn
noncomputable def strOf (as : List (Str × List Nat)) : List (Str × Str) := as.map fun p => (p.1, S p.2)
theorem attr_of {k : Str} {kvs : List (Str × Value)} {as : List (Str × List Nat)} (h : PairsAre kvs (strOf as)) :
    (as.find? (fun p => p.1 = k) = none ∧ valueAt kvs k = none) ∨ ∃ l t, as.find? (fun p => p.1 = k) = some (k, l) ∧ (k, l) ∈ as ∧ valueAt kvs k = some (.str (S l) t) := by
  have e : (strOf as).find? (fun p => p.1 = k) = (as.find? (fun p => p.1 = k)).map fun p => (p.1, S p.2) := by
    unfold strOf
    rw [List.find?_map]
    rfl
  cases q : as.find? (fun p => p.1 = k) with
  | none =>
    rw [q] at e
    rcases h.find (k := k) with ⟨_, h⟩ | ⟨y, t, h', _⟩
    · exact .inl ⟨rfl, h⟩
    · rw [e] at h'; cases h'
  | some p =>
    obtain ⟨a, l⟩ := p
    have ha : a = k := by simpa using List.find?_some q
    subst ha
    rw [q] at e
    rcases h.find (k := a) with ⟨h', _⟩ | ⟨y, t, h', hv⟩
    · rw [e] at h'; cases h'
    · rw [e] at h'
      injection h' with h'
      injection h' with _ h'
      exact .inr ⟨l, t, rfl, List.mem_of_find?_eq_some q, h' ▸ hv⟩
theorem got_none {as : List (Str × List Nat)} {k : Str} {a : List Str} (h : as.find? (fun p => p.1 = k) = none) : gotL as (a ++ [k]) = gotL as a := by
  rw [gotL_app]; simp [gotL, h]
theorem got_some {as : List (Str × List Nat)} {k : Str} {a : List Str} {l : List Nat} (h : as.find? (fun p => p.1 = k) = some (k, l)) : gotL as (a ++ [k]) = gotL as a ++ [(k, S (stripL l))] := by
  rw [gotL_app]; simp [gotL, h]
noncomputable def atsL (l : List Nat) : List (Str × List Nat) := [(Str.ofString "font-size", l), (Str.ofString "stroke-width", [50, 101, 109]), (Str.ofString "stroke-dashoffset", [53, 48, 37])]
theorem got_all (l : List Nat) : gotL (atsL l) (handedL.map (·.1) ++ freshL.map (·.1)) = [(Str.ofString "stroke-width", S [50, 101, 109]), (Str.ofString "stroke-dashoffset", S [53, 48, 37]), (Str.ofString "font-size", S (stripL l))] := by
  have e : ∀ k : Str, (atsL l).find? (fun p => p.1 = k) = if Str.ofString "font-size" = k then some (Str.ofString "font-size", l) else if Str.ofString "stroke-width" = k then some (Str.ofString "stroke-width", [50, 101, 109]) else if Str.ofString "stroke-dashoffset" = k then some (Str.ofString "stroke-dashoffset", [53, 48, 37]) else none := by
    intro k
    simp only [atsL, List.find?_cons, List.find?_nil]
    by_cases h1 : Str.ofString "font-size" = k <;> simp [h1]
    by_cases h2 : Str.ofString "stroke-width" = k <;> simp [h2]
    by_cases h3 : Str.ofString "stroke-dashoffset" = k <;> simp [h3]
  have g : ∀ (k : Str) (r : List Str) (p : Option (Str × List Nat)), (atsL l).find? (fun p => p.1 = k) = p → gotL (atsL l) (k :: r) = match p with | some q => (k, S (stripL q.2)) :: gotL (atsL l) r | none => gotL (atsL l) r := by
    intro k r p h
    rw [gotL, h]
  have no : ∀ (k : Str) (r : List Str), Str.ofString "font-size" ≠ k → Str.ofString "stroke-width" ≠ k → Str.ofString "stroke-dashoffset" ≠ k → gotL (atsL l) (k :: r) = gotL (atsL l) r := by
    intro k r h1 h2 h3
    exact g k r none (by rw [e, if_neg h1, if_neg h2, if_neg h3])
  simp only [handedL, freshL, List.map_cons, List.map_nil, List.cons_append, List.nil_append]
  rw [no _ _ (by decide +kernel) (by decide +kernel) (by decide +kernel), no _ _ (by decide +kernel) (by decide +kernel) (by decide +kernel), no _ _ (by decide +kernel) (by decide +kernel) (by decide +kernel), no _ _ (by decide +kernel) (by decide +kernel) (by decide +kernel)]
  rw [g _ _ (some (Str.ofString "stroke-width", [50, 101, 109])) (by rw [e, if_neg (by decide +kernel), if_pos rfl])]
  dsimp only
  repeat rw [no _ _ (by decide +kernel) (by decide +kernel) (by decide +kernel)]
  rw [g _ _ (some (Str.ofString "stroke-dashoffset", [53, 48, 37])) (by rw [e, if_neg (by decide +kernel), if_neg (by decide +kernel), if_pos rfl])]
  dsimp only
  repeat rw [no _ _ (by decide +kernel) (by decide +kernel) (by decide +kernel)]
  rw [g _ _ (some (Str.ofString "font-size", l)) (by rw [e, if_pos rfl])]
  dsimp only
  repeat rw [no _ _ (by decide +kernel) (by decide +kernel) (by decide +kernel)]
  rfl
noncomputable def preL : Nat → List Str
  | 0 => []
  | 1 => handedL.map (·.1)
  | _ => handedL.map (·.1) ++ freshL.map (·.1)
theorem take_key {kd : List (Str × Value)} {ps : List (Str × Str)} {j : Nat} {k : Str} {v : Value} (h : PairsAre kd ps) (hk : kd[j]? = some (k, v)) : (ps.take (j + 1)).map (·.1) = (ps.take j).map (·.1) ++ [k] := by
  obtain ⟨y, t, _, hp⟩ := h.at hk
  rw [List.take_add_one, hp]
  simp
theorem key_new {pre : List Str} {kd : List (Str × Value)} {ps : List (Str × Str)} {j : Nat} {k : Str} {v : Value} (hn : (pre ++ ps.map (·.1)).Nodup) (h : PairsAre kd ps) (hk : kd[j]? = some (k, v)) : k ∉ pre ++ (ps.take j).map (·.1) := by
  have e := take_key h hk
  have hs : (pre ++ (ps.take (j + 1)).map (·.1)).Sublist (pre ++ ps.map (·.1)) := List.Sublist.append (List.Sublist.refl _) ((List.take_sublist _ _).map _)
  have hn' := hn.sublist hs
  rw [e, ← List.append_assoc] at hn'
  intro hm
  exact (List.nodup_append.mp hn').2.2 k hm k (by simp) rfl
theorem gotL_len (as : List (Str × List Nat)) : ∀ a, (gotL as a).length ≤ a.length
  | [] => Nat.le_refl _
  | k :: r => by
    have := gotL_len as r
    simp only [gotL]
    split <;> simp only [List.length_cons] <;> omega
theorem preL_len : ∀ i, (preL i).length ≤ 24
  | 0 => by decide
  | 1 => by decide
  | _ + 2 => by simp [preL, handedL, freshL]
theorem pre_nodup : (preL 2).Nodup := by decide +kernel
end Mine
end
section --S22
namespace Mine
noncomputable def AtS (kvs : List (Str × Value)) (x : Str) (l : List Nat) : Prop := ∃ t, valueAt kvs x = some (.str (S l) t)
theorem AtS.put {kvs : List (Str × Value)} {x : Str} {l : List Nat} {t : Tok} : AtS (stored kvs x (.str (S l) t)) x l := ⟨t, by rw [valueAt_stored, if_pos rfl]⟩
theorem AtS.keep {kvs : List (Str × Value)} {x y : Str} {l : List Nat} {v : Value} (h : AtS kvs x l) (ne : x ≠ y) : AtS (stored kvs y v) x l := by
  obtain ⟨t, h⟩ := h
  exact ⟨t, by rw [valueAt_stored, if_neg ne]; exact h⟩
theorem valueAt_merged {x : Str} {more : List (Str × Value)} {ps : List (Str × Str)} {kvs : List (Str × Value)} (hm : PairsAre more ps) : x ∉ ps.map (·.1) → valueAt (merged kvs more) x = valueAt kvs x := by
  induction hm generalizing kvs with
  | nil => exact fun _ => rfl
  | @cons a b t _ ps r ih =>
    intro h
    have h1 : x ≠ a := fun e => h (by simp [e])
    have h2 : x ∉ ps.map (·.1) := fun e => h (by rw [List.map_cons]; exact List.mem_cons_of_mem _ e)
    have := ih (kvs := stored kvs a (.str b t)) h2
    rw [valueAt_stored, if_neg h1] at this
    exact this
theorem PairsAre.has {kvs : List (Str × Value)} {ps : List (Str × Str)} {x : Str} {l : List Nat} (h : PairsAre kvs ps) (hf : (ps.find? fun p => p.1 = x) = some (x, S l)) : AtS kvs x l := by
  rcases h.find (k := x) with ⟨h', _⟩ | ⟨y, t, h', hv⟩
  · rw [hf] at h'; cases h'
  · rw [hf] at h'
    injection h' with h'
    injection h' with _ h'
    exact ⟨t, h' ▸ hv⟩
section
variable {prog : Program} {w : World} {A : Around} {E : Value → Shared → Prop} {s : Shared} {d : Addr} {o : Obj} {kvs : List (Str × Value)}
theorem b_updm {pl : Sem Bool} {Q : Value × List Value → Shared → Prop} (N : s.heap.get? d = some o) (hd : o.IsDictOf (PySem.strKind prog w) kvs) (h : Q (.builtin "dict.update", [.ref d]) s) : wpAny (model prog w) A (getMethod (.ref d) "update" pl) Q E s :=
  have hD := Heap.dictOf_iff.mpr ⟨o, N, hd⟩
  getMethod_builtin hD.typeIs PySem.F.plainAttrs_dict PySem.F.slot_dict_update PySem.F.type_dict_update hD.mapOf.noDict h
end
theorem Stop.out' {P : Prop} (h : Stop P) : P := h
theorem range_turnsR {prog : Program} {w : World} {A : Around} {E : Value → Shared → Prop} {s : Shared} {env : Env} {h₀ : Heap} {x : Str} {body : List Stmt} {Q : Flow → Shared → Prop} {r : Addr} {n : Nat} {t u v : Tok}
    {m₀ : Str → Option Value} {news : List (Addr × Obj)} (J : Nat → (Str → Option Value) → List (Addr × Obj) → Prop)
    (hh : A.handled = none) (F : Fr h₀ env.locals s.heap m₀) (N : News h₀ env.locals s.heap news) (hr : IsRange s.heap r 0 n 1 t u v) (hs : Builtin.Range.small 0 n 1 = true) (hz : Builtin.Range.rangeSize 0 n 1 = (n : Int)) (hj : J 0 m₀ news)
    (turn : ∀ i v m₁ news₁ h tk I oI, i < n → (∀ p ∈ news, p.1 < I) → (∀ p ∈ news₁, p.1 ≠ I) → @LT.lt Nat _ env.locals I → J i m₁ news₁ → Fr h₀ env.locals h (fun y => if y = x then some v else m₁ y) → News h₀ env.locals h (news₁ ++ [(I, oI)]) →
      wpAny (model prog w) A (execs body env) (fun f s₂ => Stop (f = .next ∧ ∃ h' tk' m' nx nw, s₂ = { s with heap := h', toks := tk' } ∧ Fr h₀ env.locals h' m' ∧ News h₀ env.locals h' nw ∧ (I, oI) ∈ nw ∧ (∀ p ∈ nx, p ∈ nw) ∧ (∀ p ∈ nx, p.1 ≠ I) ∧ J (i + 1) m' nx)) E { s with heap := h, toks := tk })
    (done : ∀ m₁ news₁ h tk, J n m₁ news₁ → Fr h₀ env.locals h m₁ → News h₀ env.locals h news₁ → Q .next { s with heap := h, toks := tk }) :
    wpAny (model prog w) A (pyIter (.ref r)) (fun it s₂ => LoopAtV prog w A h₀ env x body Q E it s₂) E s := by
  refine wpAny_pyIter_range hr hs ?_
  have hnI : ∀ p ∈ news, p.1 ∉ [s.heap.objs.size] := fun p hp hI => absurd (Heap.lt_size (N p hp).1) ((List.mem_singleton.mp hI) ▸ Nat.lt_irrefl _)
  have hnI2 : ∀ p ∈ news, p.1 < s.heap.objs.size := fun p hp => Heap.lt_size (N p hp).1
  have hLI := F.ns.lt
  have hIn : h₀.get? s.heap.objs.size = none := next_is_new F
  refine ⟨_, _, _, n, _, _, m₀, news, J, rfl, Walks.range hh s.heap.objs.size 0 1 n, ?_, ?_, hnI, ?_, F.push _, (fun p hp => ⟨Heap.get?_push_of_some _ (N p hp).1, (N p hp).2⟩), hj, ?_, ?_⟩
  · intro hm
    exact absurd F.ns.lt ((List.mem_singleton.mp hm) ▸ Nat.lt_irrefl _)
  · intro b hb
    rw [List.mem_singleton.mp hb]
    exact hIn
  · rw [hz]
    exact Heap.get?_push_at (by simp) rfl
  · rintro i v m₁ news₁ s₁ own ⟨hh', tk', rfl⟩ hin hP hJ hoff hown hget hall hst F₁ N₁
    have hoI : ∃ oI, hh'.get? s.heap.objs.size = some oI := ⟨_, hst⟩
    obtain ⟨oI, hoI⟩ := hoI
    clear hst
    have hIo : (s.heap.objs.size, oI) ∈ own := hall _ (by simp) hIn _ hoI
    have hone : ∀ p ∈ own, p = (s.heap.objs.size, oI) := by
      rintro ⟨a, b⟩ hp
      have e1 : a = s.heap.objs.size := List.mem_singleton.mp (hown _ hp)
      subst e1
      exact congrArg _ (Option.some.inj ((hget _ hp).symm.trans hoI))
    have N₂ : News h₀ env.locals hh' (news₁ ++ [(s.heap.objs.size, oI)]) := fun p hp => N₁ p (by
      rcases List.mem_append.mp hp with h | h
      · exact List.mem_append_right _ h
      · rw [List.mem_singleton.mp h]; exact List.mem_append_left _ hIo)
    refine wpAny_mono (turn i v m₁ news₁ hh' tk' _ oI hin hnI2 (fun p hp e => hoff p hp (List.mem_singleton.mpr e)) hLI hJ F₁ N₂) (fun f s₂ p => ?_) fun _ _ e => e
    obtain ⟨rfl, h', tk, m', nx, nw, rfl, F', N', hI', hsub, hne, hj'⟩ := Stop.out' p
    refine .next ⟨rfl, h', tk, m', nx, rfl, F', fun p hp => ?_, fun p hp hq => hne p hp (List.mem_singleton.mp hq), hj'⟩
    rcases List.mem_append.mp hp with h | h
    · rw [hone p h]; exact N' _ hI'
    · exact N' p (hsub p h)
  · rintro h' tk m' news' F' N' _ hJ
    exact done m' news' h' tk hJ F' N'
theorem lit_16 : Str.ofString "16" = S [49, 54] := by decide +kernel
end Mine
end
section --C30
end
section --S23
namespace Mine
noncomputable def badE (l : List Nat) (at' : Int) : Bool := match expL l at' with
  | none => true
  | some p => decide (p.2 < l.length)
noncomputable def badB (l : List Nat) : Bool :=
  (decide (skipL l ((skipAt l 0 (Str.ofString "+-")) + ((digL l (skipAt l 0 (Str.ofString "+-"))).length : Int)) (Str.ofString ".") = []) && (decide ((digL l (skipAt l 0 (Str.ofString "+-"))) ++ [] = []) || badE l (skipAt l ((skipAt l 0 (Str.ofString "+-")) + ((digL l (skipAt l 0 (Str.ofString "+-"))).length : Int)) (Str.ofString ".")))) ||
  (decide (skipL l ((skipAt l 0 (Str.ofString "+-")) + ((digL l (skipAt l 0 (Str.ofString "+-"))).length : Int)) (Str.ofString ".") ≠ []) && (decide ((digL l (skipAt l 0 (Str.ofString "+-"))) ++ (digL l (skipAt l ((skipAt l 0 (Str.ofString "+-")) + ((digL l (skipAt l 0 (Str.ofString "+-"))).length : Int)) (Str.ofString "."))) = []) || badE l ((skipAt l ((skipAt l 0 (Str.ofString "+-")) + ((digL l (skipAt l 0 (Str.ofString "+-"))).length : Int)) (Str.ofString ".")) + ((digL l (skipAt l ((skipAt l 0 (Str.ofString "+-")) + ((digL l (skipAt l 0 (Str.ofString "+-"))).length : Int)) (Str.ofString "."))).length : Int))))
theorem badE_of {l : List Nat} {a : Int} (h : badE l a = true) : expL l a = none ∨ ∃ e j, expL l a = some (e, j) ∧ j < l.length := by
  unfold badE at h
  cases he : expL l a with
  | none => exact .inl rfl
  | some p => rw [he] at h; exact .inr ⟨p.1, p.2, rfl, by simpa using h⟩
theorem bad_of {l : List Nat} (h : badB l = true) : badDec l := by
  unfold badB at h
  rw [Bool.or_eq_true, Bool.and_eq_true, Bool.and_eq_true, Bool.or_eq_true, Bool.or_eq_true] at h
  unfold badDec
  rcases h with ⟨hp, hq⟩ | ⟨hp, hq⟩
  · refine .inl ⟨of_decide_eq_true hp, ?_⟩
    by_cases hd : (digL l (skipAt l 0 (Str.ofString "+-"))) ++ [] = []
    · exact .inl hd
    · exact .inr ⟨hd, badE_of (hq.resolve_left fun x => hd (of_decide_eq_true x))⟩
  · refine .inr ⟨of_decide_eq_true hp, ?_⟩
    by_cases hd : (digL l (skipAt l 0 (Str.ofString "+-"))) ++ (digL l (skipAt l ((skipAt l 0 (Str.ofString "+-")) + ((digL l (skipAt l 0 (Str.ofString "+-"))).length : Int)) (Str.ofString "."))) = []
    · exact .inl hd
    · exact .inr ⟨hd, badE_of (hq.resolve_left fun x => hd (of_decide_eq_true x))⟩
noncomputable abbrev wrongL : List (List Nat) := [[], [112, 120], [49, 32, 50], [49, 113], [101, 109], [37], [49, 101], [97], [49, 46, 46, 50], [45, 45, 49], [49, 37, 37], [48, 120, 49], [49, 101, 51, 48, 49]]
theorem wrong_ok : ∀ l ∈ wrongL, l.length ≤ 20 ∧ (unitOf l).1.length ≤ 1000 ∧ badB (unitOf l).1 = true := by decide +kernel
theorem lit_px : Str.ofString "px" = S [112, 120] := by decide +kernel
theorem lit_1_2 : Str.ofString "1 2" = S [49, 32, 50] := by decide +kernel
theorem lit_1q : Str.ofString "1q" = S [49, 113] := by decide +kernel
theorem lit_em : Str.ofString "em" = S [101, 109] := by decide +kernel
theorem lit_1e : Str.ofString "1e" = S [49, 101] := by decide +kernel
theorem lit_a : Str.ofString "a" = S [97] := by decide +kernel
theorem lit_12 : Str.ofString "1..2" = S [49, 46, 46, 50] := by decide +kernel
theorem lit_m1 : Str.ofString "--1" = S [45, 45, 49] := by decide +kernel
theorem lit_1pp : Str.ofString "1%%" = S [49, 37, 37] := by decide +kernel
theorem lit_0x1 : Str.ofString "0x1" = S [48, 120, 49] := by decide +kernel
theorem lit_1e301 : Str.ofString "1e301" = S [49, 101, 51, 48, 49] := by decide +kernel
theorem lit_1pc : Str.ofString "1 pc" = S [49, 32, 112, 99] := by decide +kernel
theorem lit_mm : Str.ofString "-2.5mm" = S [45, 50, 46, 53, 109, 109] := by decide +kernel
theorem reads_1pc : Reads [49, 32, 112, 99] 1 1 16 1 16 1 := ⟨[49], Str.ofString "pc", 1, 1, by decide +kernel, by decide +kernel, by decide, by decide, by decide +kernel, fun e => absurd e (by decide +kernel)⟩
theorem reads_mm : Reads [45, 50, 46, 53, 109, 109] 1 1 16 1 (-1200) 127 := ⟨[45, 50, 46, 53], Str.ofString "mm", -5, 2, by decide +kernel, by decide +kernel, by decide, by decide, by decide +kernel, fun e => absurd e (by decide +kernel)⟩
theorem reads_half : Reads [53, 48, 37] 7 1 16 1 7 2 := ⟨[53, 48], Str.ofString "%", 50, 1, by decide +kernel, by decide +kernel, by decide, by decide, by decide +kernel, fun _ => by decide +kernel⟩
theorem reads_2em5 : Reads [50, 101, 109] 1 1 5 2 5 1 := ⟨[50], Str.ofString "em", 2, 1, by decide +kernel, by decide +kernel, by decide, by decide, by decide +kernel, fun e => absurd e (by decide +kernel)⟩
theorem plus_17 : plusF (7, 2) (5, 1) = (17, 2) := by decide +kernel
section
variable {prog : Program} {w : World} {A : Around} {E : Value → Shared → Prop} {s : Shared} {a b a1 a2 a3 b1 b2 b3 : Addr} {x1 y1 x2 y2 x3 y3 : Int} {t1 u1 t2 u2 t3 u3 t4 u4 t5 u5 t6 u6 : Tok} {Q : Value → Shared → Prop}
open SeqAt in
theorem r_ne_list3 (ha : s.heap.IsList a #[.ref a1, .ref a2, .ref a3]) (hb : s.heap.IsList b #[.ref b1, .ref b2, .ref b3]) (h1 : s.heap.get? a1 = some (tup2 x1 y1 t1 u1)) (h2 : s.heap.get? a2 = some (tup2 x2 y2 t2 u2)) (h3 : s.heap.get? a3 = some (tup2 x3 y3 t3 u3))
    (g1 : s.heap.get? b1 = some (tup2 x1 y1 t4 u4)) (g2 : s.heap.get? b2 = some (tup2 x2 y2 t5 u5)) (g3 : s.heap.get? b3 = some (tup2 x3 y3 t6 u6)) (hu : A.units < 9000) (h : Q (.bool false) s) : wpAny (model prog w) A (compareOp .NotEq (.ref a) (.ref b)) Q E s := by
  refine cmp_ofNotEq ?_
  have z := RcNeAt.lists (A := A) (s := s) (l := a) (b := b) (items := #[.ref a1, .ref a2, .ref a3]) (items2 := #[.ref b1, .ref b2, .ref b3]) (e := fun _ => true) ha hb rfl (Nat.lt_trans hu (by decide)) (fun j h1' h2' => by
      have h3' : j < 3 := h1'
      have hu' : A.in1.units < 9500 := by show A.units + _ < 9500; omega
      rcases (by omega : j = 0 ∨ j = 1 ∨ j = 2) with rfl | rfl | rfl
      · exact eqAt_tup2 h1 g1 hu'
      · exact eqAt_tup2 h2 g2 hu'
      · exact eqAt_tup2 h3 g3 hu')
  exact z prog w E Q h
end
end Mine
end
section --C13
set_option maxHeartbeats 0
namespace Mine
theorem lnC13a : True := by
  k_with_none
  k_with "a1" => (first | with_reducible assumption | ((with_reducible apply Mine.ltm); (with_reducible assumption); k_mem))
  k_with "a2" => (first | with_reducible exact Mine.lss | with_reducible exact Mine.ltp (by assumption) | with_reducible exact Mine.ltp (Mine.ltp (by assumption)) | with_reducible exact Mine.ltp (Mine.ltp (Mine.ltp (by assumption))) | ((with_reducible refine Mine.lts ?_); first | with_reducible exact Mine.lss | k_memK) | ((with_reducible refine Mine.lts (Mine.lts ?_)); first | with_reducible exact Mine.lss | k_memK) | ((with_reducible refine Mine.lts (Mine.lts (Mine.lts ?_))); k_memK))
  k_with "a3" => (first | k_cls | ((with_reducible apply Mine.ltr); (with_reducible assumption); first | k_memK | k_cls) | ((with_reducible apply Mine.ltr); (with_reducible exact Mine.ltp (by assumption)); first | k_memK | k_cls))
  k_with "a4" => (first | with_reducible exact Mine.neAll (by assumption) | with_reducible exact Mine.neNil | ((with_reducible refine Mine.neCons ?_ ?_); k_ne; k_all))
  k_with "a5" => (first | with_reducible exact Mine.subNil | with_reducible exact Mine.subSame | ((with_reducible refine Mine.subCons ?_ ?_); k_mem; k_subL) | ((with_reducible refine Mine.subApp ?_ ?_); k_subL; k_subL) | ((with_reducible refine Mine.subTail ?_); k_subL))
  k_with "a6" => (first | with_reducible assumption | ((with_reducible show @Ne Nat _ _); first | ((with_reducible refine Mine.nlt ?_); k_memK) | ((with_reducible refine Mine.ngt ?_); k_memK) | (with_reducible exact Ne.symm (by assumption)) | ((with_reducible refine Mine.nlt ?_); k_types) | ((with_reducible refine Mine.ngt ?_); k_types)) | ((with_reducible apply Mine.dq0); (with_reducible assumption); decide) | ((with_reducible apply Mine.dq1); (with_reducible assumption); decide) | ((with_reducible apply Mine.dq2); (with_reducible assumption); decide) | ((with_reducible apply Mine.dq3); (with_reducible assumption); decide) | ((with_reducible apply Mine.dq4); (with_reducible assumption); decide) | ((with_reducible first | apply Mine.il1 | apply Mine.il3); (with_reducible assumption); decide) | ((with_reducible first | apply Mine.il2 | apply Mine.il4); (with_reducible assumption); decide) | ((with_reducible first | apply Mine.iu1 | apply Mine.iu3); (with_reducible assumption); decide) | ((with_reducible first | apply Mine.iu2 | apply Mine.iu4); (with_reducible assumption); decide) | ((with_reducible first | apply Mine.nl3 | apply Mine.nl2); (with_reducible assumption); decide) | ((with_reducible first | apply Mine.nu1 | apply Mine.nu3); (with_reducible assumption); decide) | ((with_reducible first | apply Mine.nu2 | apply Mine.nu4); (with_reducible assumption); decide) | ((with_reducible show @LT.lt Nat _ _ _); first | k_memK | k_types) | decide)
  k_with "a7" => (repeat (rename ∀ _ ∈ (_ : List (Addr × Obj)), @LT.lt Nat _ _ _ => hrw; replace hrw := allLt_of hrw; dsimp only [AllLt] at hrw))
  k_with "a8" => (first | (k_whole; kc_bool) | omega +splitDisjunctions | (k_whole; k_units; omega +splitDisjunctions))
  k_with "a9" => (first | (k_whole; kc_bool) | lia | omega +splitDisjunctions)
  k_with "eval Call" => ((fail_if_success (fail_if_success k_fold)); refine foldL ?_; intro qk ek; walk1)
  k_with "eval BinOp" => ((fail_if_success (fail_if_success k_fold)); refine foldL ?_; intro qk ek; walk1)
  k_with "eval Tuple" => ((fail_if_success (fail_if_success k_fold)); refine foldL ?_; intro qk ek; walk1)
  k_with "isTrue Compare" => ((fail_if_success (fail_if_success k_fold)); refine foldL ?_; intro qk ek; walk1)
  k_with "eval Subscript" => ((fail_if_success (fail_if_success k_fold)); refine foldL ?_; intro qk ek; walk1)
  k_with "exec Assign" => ((fail_if_success (fail_if_success k_fold)); refine foldL ?_; intro qk ek; walk1)
  k_with "eval List" => ((fail_if_success (fail_if_success k_fold)); refine foldL ?_; intro qk ek; walk1)
  k_with "eval Attribute" => ((fail_if_success (fail_if_success k_fold)); refine foldL ?_; intro qk ek; walk1)
  k_with "eval UnaryOp" => ((fail_if_success (fail_if_success k_fold)); refine foldL ?_; intro qk ek; walk1)
  k_with "callWith ref" => ((fail_if_success (fail_if_success k_fold)); refine foldL ?_; intro qk ek; walk1)
  k_with "callWith" => ((fail_if_success (fail_if_success k_fold)); refine foldL ?_; intro qk ek; walk1)
  k_with "subscriptTail Name Constant ref int" => (k_here; first | refine tup_item0 (by assumption) (by assumption) ?_ | refine tup_item1 (by assumption) (by assumption) ?_)
  k_with "exec While" => (k_here; refine Stop.go ?_)
  k_with "binaryOp FloorDiv int int" => (k_here; refine floordiv_int (by first | decide | omega) ?_ (Or.inl (noPyl (by first | decide | omega) (by first | decide | omega))))
  k_with "newTuple" => (k_here; k_dflt (refine' newTuple_mine ?k1 ?k2 ?_ ?k3; (case k1 => k_asm); (case k2 => k_asm); (case k3 => first | decide | (exact Nat.le_of_ble_eq_true rfl) | (simp only [sizeLine_eq]; simp))); intro D' h' F' N' l1 l2; (try k_lt l1); (try k_lt2 l2); (try k_sweep))
  k_with "binaryOp Mult int int" => (k_here; refine mul_int ?_ (by first | exact mulOk60 (by omega) (by omega) (by omega) (by omega) | mul_fits))
  k_with "ite" => (first | refine if_f ?_ | refine if_t ?_)
  k_with "call ref" => (k_here; (with_reducible show wpAny _ _ (call (Value.ref 109) _ _) _ _ _); first | ((with_reducible rename Fr _ _ _ _ => Fz); (with_reducible rename News _ _ _ _ => Nz); (k_dflt (refine' sign_of_spec (rd_of ?B Fz ?X ?T rfl rfl ?d ?u) ?p0 ?_; (case B => assumption); (case X => assumption); (case T => assumption); (case d => (first | ((with_reducible apply dle); (with_reducible assumption); exact rfl) | omega)); (case u => (first | ((with_reducible apply ule); (with_reducible assumption); exact rfl) | omega)); (case p0 => (first | exact Nz.get (by k_mem) | exact Fz.keep _ _ (by with_reducible assumption) | exact Fz.keep _ _ (by assumption) | exact Fz.keep _ _ ((by assumption : Frag.In _ _) _ _ (by k_is)))); k_whole)); intro t9 h9 tk9 st9; k_dflt ((refine back_k Fz Nz st9 ?_; intro F9 N9)); clear Fz Nz st9; (try dsimp only); (try k_fold)) | refine Stop.go ?_)
  trivial
theorem compare_spec {w : World} {A : Around} {s : Shared} {a b : Addr} {a1 a2 b1 b2 : Int} {ta ta' tb tb' : Tok} {Q E : Value → Shared → Prop}
    (R : Rd (hd.heap_1 w.params) 2 A s.heap s) (ha : s.heap.get? a = some (tup2 a1 a2 ta ta')) (hb : s.heap.get? b = some (tup2 b1 b2 tb tb')) (hap : 0 < a2) (hab : a2 < 1000000000000000000000000000000) (hbp : 0 < b2) (hbb : b2 < 1000000000000000000000000000000) (hat0 : -1000000000000000000000000000000 < a1) (hat1 : a1 < 1000000000000000000000000000000) (hbt0 : -1000000000000000000000000000000 < b1) (hbt1 : b1 < 1000000000000000000000000000000)
    (hret : ∀ t h' tk', s.heap.StaysIn h' → Q (.int (signF (a1 * b2 - b1 * a2)) t) { s with heap := h', toks := tk' }) :
    wpAny (model PySem.Challenge.rw_pf0197_01.row.prog w) A (call (.ref 116) [.ref a, .ref b] []) Q E s := by
  revert R; k_fill; intro R
  refine' enter (news := []) (args := ⟨[.ref a, .ref b], []⟩) (binds := [(Str.ofString "a", .ref a), (Str.ofString "b", .ref b)]) R ?foot ?ho ?hcd ?hbind ?hloc ?h ?hcell ?hco ?hgen ?hk
  case foot => intro p hp; cases hp
  case ho => k_is
  case hcd => k_is
  case hbind => exact BindsTo.of_eq rfl
  case hloc => exact locs rfl
  case hcell => decide
  case hco => exact rfl
  case hgen => exact rfl
  case hk => exact rfl
  clear R
  intro base dp un outer p loose mean mg mb L h₁ F' N' B' X' T' hDp hUn hl hs hA
  clear hA
  (try dsimp only); (try k_fold)
  k_steps
  (with_reducible rename Fr _ _ _ _ => Fz)
  exact hret _ _ _ Fz.keep
theorem lnC13b : True := by
  k_with "call ref" => (k_here; (with_reducible show wpAny _ _ (call (Value.ref 116) _ _) _ _ _); first | ((with_reducible rename Fr _ _ _ _ => Fz); (with_reducible rename News _ _ _ _ => Nz); (k_dflt (refine' compare_spec (rd_of ?B Fz ?X ?T rfl rfl ?d ?u) ?p0 ?p1 ?p2 ?p3 ?p4 ?p5 ?p6 ?p7 ?p8 ?p9 ?_; (case B => assumption); (case X => assumption); (case T => assumption); (case d => (first | ((with_reducible apply dle); (with_reducible assumption); exact rfl) | omega)); (case u => (first | ((with_reducible apply ule); (with_reducible assumption); exact rfl) | omega)); (case p0 => (first | exact Nz.get (by k_mem) | exact Fz.keep _ _ (by with_reducible assumption) | exact Fz.keep _ _ (by assumption) | exact Fz.keep _ _ ((by assumption : Frag.In _ _) _ _ (by k_is)))); (case p1 => (first | exact Nz.get (by k_mem) | exact Fz.keep _ _ (by with_reducible assumption) | exact Fz.keep _ _ (by assumption) | exact Fz.keep _ _ ((by assumption : Frag.In _ _) _ _ (by k_is)))); (case p2 => (first | with_reducible assumption | omega)); (case p3 => (first | with_reducible assumption | omega)); (case p4 => (first | with_reducible assumption | omega)); (case p5 => (first | with_reducible assumption | omega)); (case p6 => (first | with_reducible assumption | omega)); (case p7 => (first | with_reducible assumption | omega)); (case p8 => (first | with_reducible assumption | omega)); (case p9 => (first | with_reducible assumption | omega)); k_whole)); intro t9 h9 tk9 st9; k_dflt ((refine back_k Fz Nz st9 ?_; intro F9 N9)); clear Fz Nz st9; (try dsimp only); (try k_fold)) | refine Stop.go ?_)
  trivial
theorem bounded_spec {w : World} {A : Around} {s : Shared} {a : Addr} {a1 a2 : Int} {ta ta' : Tok} {Q E : Value → Shared → Prop}
    (R : Rd (hd.heap_1 w.params) 3 A s.heap s) (ha : s.heap.get? a = some (tup2 a1 a2 ta ta')) (hap : 0 < a2) (hab : a2 < 1000000000000000000000000000000) (hat0 : -1000000000000000000000000000000 < a1) (hat1 : a1 < 1000000000000000000000000000000)
    (hret : ∀ v h' tk', s.heap.StaysIn h' → ((a1 < 0 ∧ v = .ref 66) ∨ (¬ a1 < 0 ∧ a1 > a2 ∧ ∃ r t t', v = .ref r ∧ s.heap.objs.size ≤ r ∧ h'.get? r = some (tup2 1 1 t t')) ∨ (¬ a1 < 0 ∧ ¬ a1 > a2 ∧ v = .ref a)) → Q v { s with heap := h', toks := tk' }) :
    wpAny (model PySem.Challenge.rw_pf0197_01.row.prog w) A (call (.ref 238) [.ref a] []) Q E s := by
  revert R; k_fill; intro R
  have R0 : s.heap.get? 66 = some (tup2 0 1 259 260) := R.st _ _ (R.X _ _ (by k_is))
  refine' enter (news := []) (args := ⟨[.ref a], []⟩) (binds := [(Str.ofString "number", .ref a)]) R ?foot ?ho ?hcd ?hbind ?hloc ?h ?hcell ?hco ?hgen ?hk
  case foot => intro p hp; cases hp
  case ho => k_is
  case hcd => k_is
  case hbind => exact BindsTo.of_eq rfl
  case hloc => exact locs rfl
  case hcell => decide
  case hco => exact rfl
  case hgen => exact rfl
  case hk => exact rfl
  clear R
  intro base dp un outer p loose mean mg mb L h₁ F' N' B' X' T' hDp hUn hl hs hA
  clear hA
  (try dsimp only); (try k_fold)
  have hz : s.heap.get? 66 = some (tup2 0 1 259 260) := R0
  have e0 : signF (a1 * 1 - 0 * a2) = signF a1 := by congr 1; omega
  have e1 : signF (a1 * 1 - 1 * a2) = signF (a1 - a2) := by congr 1; omega
  by_cases hn : a1 < 0
  · have q0 : signF (a1 * 1 - 0 * a2) < 0 := by rw [e0]; simp only [signF, gt_iff_lt]; split <;> (try split) <;> omega
    k_steps
    (with_reducible rename Fr _ _ _ _ => Fz)
    exact hret _ _ _ Fz.keep (.inl ⟨hn, rfl⟩)
  · have q0 : ¬ signF (a1 * 1 - 0 * a2) < 0 := by rw [e0]; simp only [signF, gt_iff_lt]; split <;> (try split) <;> omega
    by_cases hb : a1 > a2
    · have q1 : signF (a1 * 1 - 1 * a2) > 0 := by rw [e1]; simp only [signF, gt_iff_lt]; split <;> (try split) <;> omega
      k_steps
      (with_reducible rename Fr _ _ _ _ => Fz)
      (with_reducible rename News _ _ _ _ => Nz)
      exact hret _ _ _ Fz.keep (.inr (.inl ⟨hn, hb, _, _, _, rfl, under hs (by assumption), Nz.get (List.mem_cons_self ..)⟩))
    · have q1 : ¬ signF (a1 * 1 - 1 * a2) > 0 := by rw [e1]; simp only [signF, gt_iff_lt]; split <;> (try split) <;> omega
      k_steps
      (with_reducible rename Fr _ _ _ _ => Fz)
      exact hret _ _ _ Fz.keep (.inr (.inr ⟨hn, hb, rfl⟩))
end Mine
end
section --C20
set_option maxHeartbeats 1600000
namespace Mine
theorem lnC20a : True := by
  k_with_none
  k_with "a1" => (first | with_reducible assumption | ((with_reducible apply Mine.ltm); (with_reducible assumption); k_mem))
  k_with "a2" => (first | with_reducible exact Mine.lss | with_reducible exact Mine.ltp (by assumption) | with_reducible exact Mine.ltp (Mine.ltp (by assumption)) | with_reducible exact Mine.ltp (Mine.ltp (Mine.ltp (by assumption))) | ((with_reducible refine Mine.lts ?_); first | with_reducible exact Mine.lss | k_memK) | ((with_reducible refine Mine.lts (Mine.lts ?_)); first | with_reducible exact Mine.lss | k_memK) | ((with_reducible refine Mine.lts (Mine.lts (Mine.lts ?_))); k_memK))
  k_with "a3" => (first | k_cls | ((with_reducible apply Mine.ltr); (with_reducible assumption); first | k_memK | k_cls) | ((with_reducible apply Mine.ltr); (with_reducible exact Mine.ltp (by assumption)); first | k_memK | k_cls))
  k_with "a4" => (first | with_reducible exact Mine.neAll (by assumption) | with_reducible exact Mine.neNil | ((with_reducible refine Mine.neCons ?_ ?_); k_ne; k_all))
  k_with "a5" => (first | with_reducible exact Mine.subNil | with_reducible exact Mine.subSame | ((with_reducible refine Mine.subCons ?_ ?_); k_mem; k_subL) | ((with_reducible refine Mine.subApp ?_ ?_); k_subL; k_subL) | ((with_reducible refine Mine.subTail ?_); k_subL))
  k_with "a6" => (first | with_reducible assumption | ((with_reducible show @Ne Nat _ _); first | ((with_reducible refine Mine.nlt ?_); k_memK) | ((with_reducible refine Mine.ngt ?_); k_memK) | (with_reducible exact Ne.symm (by assumption)) | ((with_reducible refine Mine.nlt ?_); k_types) | ((with_reducible refine Mine.ngt ?_); k_types)) | ((with_reducible apply Mine.dq0); (with_reducible assumption); decide) | ((with_reducible apply Mine.dq1); (with_reducible assumption); decide) | ((with_reducible apply Mine.dq2); (with_reducible assumption); decide) | ((with_reducible apply Mine.dq3); (with_reducible assumption); decide) | ((with_reducible apply Mine.dq4); (with_reducible assumption); decide) | ((with_reducible first | apply Mine.il1 | apply Mine.il3); (with_reducible assumption); decide) | ((with_reducible first | apply Mine.il2 | apply Mine.il4); (with_reducible assumption); decide) | ((with_reducible first | apply Mine.iu1 | apply Mine.iu3); (with_reducible assumption); decide) | ((with_reducible first | apply Mine.iu2 | apply Mine.iu4); (with_reducible assumption); decide) | ((with_reducible first | apply Mine.nl3 | apply Mine.nl2); (with_reducible assumption); decide) | ((with_reducible first | apply Mine.nu1 | apply Mine.nu3); (with_reducible assumption); decide) | ((with_reducible first | apply Mine.nu2 | apply Mine.nu4); (with_reducible assumption); decide) | ((with_reducible show @LT.lt Nat _ _ _); first | k_memK | k_types) | decide)
  k_with "a7" => (repeat (rename ∀ _ ∈ (_ : List (Addr × Obj)), @LT.lt Nat _ _ _ => hrw; replace hrw := allLt_of hrw; dsimp only [AllLt] at hrw))
  k_with "a8" => (first | (k_whole; kc_bool) | omega +splitDisjunctions | (k_whole; k_units; omega +splitDisjunctions))
  k_with "a9" => (first | (k_whole; kc_bool) | lia | omega +splitDisjunctions)
  k_with "eval Call" => ((fail_if_success (fail_if_success k_fold)); refine foldL ?_; intro qk ek; walk1)
  k_with "eval BinOp" => ((fail_if_success (fail_if_success k_fold)); refine foldL ?_; intro qk ek; walk1)
  k_with "eval Tuple" => ((fail_if_success (fail_if_success k_fold)); refine foldL ?_; intro qk ek; walk1)
  k_with "isTrue Compare" => ((fail_if_success (fail_if_success k_fold)); refine foldL ?_; intro qk ek; walk1)
  k_with "eval Subscript" => ((fail_if_success (fail_if_success k_fold)); refine foldL ?_; intro qk ek; walk1)
  k_with "exec Assign" => ((fail_if_success (fail_if_success k_fold)); refine foldL ?_; intro qk ek; walk1)
  k_with "eval List" => ((fail_if_success (fail_if_success k_fold)); refine foldL ?_; intro qk ek; walk1)
  k_with "eval Attribute" => ((fail_if_success (fail_if_success k_fold)); refine foldL ?_; intro qk ek; walk1)
  k_with "eval UnaryOp" => ((fail_if_success (fail_if_success k_fold)); refine foldL ?_; intro qk ek; walk1)
  k_with "callWith ref" => ((fail_if_success (fail_if_success k_fold)); refine foldL ?_; intro qk ek; walk1)
  k_with "callWith" => ((fail_if_success (fail_if_success k_fold)); refine foldL ?_; intro qk ek; walk1)
  k_with "subscriptTail Name Constant ref int" => (k_here; first | refine tup_item0 (by assumption) (by assumption) ?_ | refine tup_item1 (by assumption) (by assumption) ?_)
  k_with "exec While" => (k_here; refine Stop.go ?_)
  k_with "binaryOp FloorDiv int int" => (k_here; refine floordiv_int (by first | decide | omega) ?_ (Or.inl (noPyl (by first | decide | omega) (by first | decide | omega))))
  k_with "newTuple" => (k_here; k_dflt (refine' newTuple_mine ?k1 ?k2 ?_ ?k3; (case k1 => k_asm); (case k2 => k_asm); (case k3 => first | decide | (exact Nat.le_of_ble_eq_true rfl) | (simp only [sizeLine_eq]; simp))); intro D' h' F' N' l1 l2; (try k_lt l1); (try k_lt2 l2); (try k_sweep))
  k_with "binaryOp Mult int int" => (k_here; refine mul_int ?_ (by first | exact mulOk60 (by omega) (by omega) (by omega) (by omega) | mul_fits))
  k_with "call builtin:len" => (k_here; refine r_len (by first | omega | (simp only [List.length_append, List.length_cons, List.length_nil]; omega)) ?_; intro t9 k9)
  k_with "subscriptTail Attribute Attribute str int" => (k_here; (with_reducible show wpAny _ _ (subscriptTail _ _ (Value.str (S _) _) (Value.int _ _)) _ _ _); k_dflt (refine r_item (by omega) (by omega) (by omega) ?_); intro t9 k9)
  k_with "compareOp In str str" => (k_here; refine r_in ?_)
  k_with "subscriptTail Attribute Slice str ref" => (k_here; (with_reducible show wpAny _ _ (subscriptTail _ (Expr.Slice (some _) (some _) none _) (Value.str (S _) _) (Value.ref _)) _ _ _); (with_reducible rename Fr _ _ _ _ => Fz); (with_reducible rename News _ _ _ _ => Nz); k_dflt (refine r_slice (s := ⟨_, _, _, _, _⟩) Fz Nz (by omega) (by omega) (by omega) (by omega) ?_); intro h9 t9 k9 F9 N9; (try k_sweep))
  k_with "compareOp Eq str str" => (k_here; first | refine r_eq_f (by assumption) ?_ | refine r_eq_t (by assumption) ?_ | refine r_eq ?_)
  k_with "compareOp NotEq str str" => (k_here; first | refine r_ne_t (by assumption) ?_ | refine r_ne_f (by assumption) ?_ | refine r_ne ?_)
  k_with "ite" => (first | refine if_f ?_ | refine if_t ?_)
  k_with "call ref" => (k_here; (with_reducible show wpAny _ _ (call (Value.ref 231) _ _) _ _ _); first | ((with_reducible rename Fr _ _ _ _ => Fz); (with_reducible rename News _ _ _ _ => Nz); (k_dflt (refine' length2_spec' (rd_of ?B Fz ?X ?T rfl rfl ?d ?u) ?p0 ?p1 ?p2 ?p3 ?p4 ?p5 ?_; (case B => assumption); (case X => assumption); (case T => assumption); (case d => (first | ((with_reducible apply dle); (with_reducible assumption); exact rfl) | omega)); (case u => (first | ((with_reducible apply ule); (with_reducible assumption); exact rfl) | omega)); (case p0 => (with_reducible assumption)); (case p1 => (first | exact Nz.get (by k_mem) | exact Fz.keep _ _ (by with_reducible assumption) | exact Fz.keep _ _ (by assumption) | exact Fz.keep _ _ ((by assumption : Frag.In _ _) _ _ (by k_is)))); (case p2 => (first | with_reducible assumption | omega)); (case p3 => (first | with_reducible assumption | omega)); (case p4 => (first | with_reducible assumption | omega)); (case p5 => (first | with_reducible assumption | omega)); k_whole)); intro r9 t9 u9 h9 tk9 st9 hl9 hr9; k_dflt ((refine back1_k Fz Nz st9 hl9 hr9 ?_; intro F9 N9 l9 m9)); clear Fz Nz st9 hl9 hr9; (try k_lt l9); (try k_lt2 m9); (try dsimp only); (try k_fold)) | refine Stop.go ?_)
  k_with "call ref" => (k_here; (with_reducible show wpAny _ _ (call (Value.ref 95) _ _) _ _ _); first | ((with_reducible rename Fr _ _ _ _ => Fz); (with_reducible rename News _ _ _ _ => Nz); (k_dflt (refine' times_spec (rd_of ?B Fz ?X ?T rfl rfl ?d ?u) ?p0 ?p1 ?p2 ?p3 ?p4 ?p5 ?p6 ?p7 ?p8 ?p9 ?_; (case B => assumption); (case X => assumption); (case T => assumption); (case d => (first | ((with_reducible apply dle); (with_reducible assumption); exact rfl) | omega)); (case u => (first | ((with_reducible apply ule); (with_reducible assumption); exact rfl) | omega)); (case p0 => (first | exact Nz.get (by k_mem) | exact Fz.keep _ _ (by with_reducible assumption) | exact Fz.keep _ _ (by assumption) | exact Fz.keep _ _ ((by assumption : Frag.In _ _) _ _ (by k_is)))); (case p1 => (first | exact Nz.get (by k_mem) | exact Fz.keep _ _ (by with_reducible assumption) | exact Fz.keep _ _ (by assumption) | exact Fz.keep _ _ ((by assumption : Frag.In _ _) _ _ (by k_is)))); (case p2 => (first | with_reducible assumption | omega)); (case p3 => (first | with_reducible assumption | omega)); (case p4 => (first | with_reducible assumption | omega)); (case p5 => (first | with_reducible assumption | omega)); (case p6 => (first | with_reducible assumption | omega)); (case p7 => (first | with_reducible assumption | omega)); (case p8 => (first | with_reducible assumption | omega)); (case p9 => (first | with_reducible assumption | omega)); k_whole)); intro r9 t9 u9 h9 tk9 st9 hl9 hr9; k_dflt ((refine back1_k Fz Nz st9 hl9 hr9 ?_; intro F9 N9 l9 m9)); clear Fz Nz st9 hl9 hr9; (try k_lt l9); (try k_lt2 m9); (try dsimp only); (try k_fold)) | refine Stop.go ?_)
  k_with "call ref" => (k_here; (with_reducible show wpAny _ _ (call (Value.ref 123) _ _) _ _ _); first | ((with_reducible rename Fr _ _ _ _ => Fz); (with_reducible rename News _ _ _ _ => Nz); (k_dflt (refine' rounded_spec (rd_of ?B Fz ?X ?T rfl rfl ?d ?u) ?p0 ?p1 ?p2 ?p3 ?p4 ?_; (case B => assumption); (case X => assumption); (case T => assumption); (case d => (first | ((with_reducible apply dle); (with_reducible assumption); exact rfl) | omega)); (case u => (first | ((with_reducible apply ule); (with_reducible assumption); exact rfl) | omega)); (case p0 => (first | exact Nz.get (by k_mem) | exact Fz.keep _ _ (by with_reducible assumption) | exact Fz.keep _ _ (by assumption) | exact Fz.keep _ _ ((by assumption : Frag.In _ _) _ _ (by k_is)))); (case p1 => (first | with_reducible assumption | omega)); (case p2 => (first | with_reducible assumption | omega)); (case p3 => (first | with_reducible assumption | omega)); (case p4 => (first | with_reducible assumption | omega)); k_whole)); intro t9 h9 tk9 st9; k_dflt ((refine back_k Fz Nz st9 ?_; intro F9 N9)); clear Fz Nz st9; (try dsimp only); (try k_fold)) | refine Stop.go ?_)
  k_with "call ref" => (k_here; (with_reducible show wpAny _ _ (call (Value.ref 238) _ _) _ _ _); first | ((with_reducible rename Fr _ _ _ _ => Fz); (with_reducible rename News _ _ _ _ => Nz); (k_dflt (refine' bounded_spec (rd_of ?B Fz ?X ?T rfl rfl ?d ?u) ?p0 ?p1 ?p2 ?p3 ?p4 ?_; (case B => assumption); (case X => assumption); (case T => assumption); (case d => (first | ((with_reducible apply dle); (with_reducible assumption); exact rfl) | omega)); (case u => (first | ((with_reducible apply ule); (with_reducible assumption); exact rfl) | omega)); (case p0 => (first | exact Nz.get (by k_mem) | exact Fz.keep _ _ (by with_reducible assumption) | exact Fz.keep _ _ (by assumption) | exact Fz.keep _ _ ((by assumption : Frag.In _ _) _ _ (by k_is)))); (case p1 => (first | with_reducible assumption | omega)); (case p2 => (first | with_reducible assumption | omega)); (case p3 => (first | with_reducible assumption | omega)); (case p4 => (first | with_reducible assumption | omega)); k_whole)); intro v9 h9 tk9 st9 hv9; refine Stop.go ?_; (try dsimp only); (try k_fold)) | refine Stop.go ?_)
  k_with "subscriptTail Name Name ref str" => (k_here; (with_reducible rename Fr _ _ _ _ => Fz); k_dflt (refine b_item_dict (Fz.keep _ _ (by with_reducible assumption)) (by with_reducible assumption) (by with_reducible assumption) ?_))
  k_with "subscriptTail Attribute Name ref str" => (k_here; (with_reducible rename Fr _ _ _ _ => Fz); k_dflt (refine b_item_dict (Fz.keep _ _ (by with_reducible assumption)) (by with_reducible assumption) (by with_reducible assumption) ?_))
  trivial
theorem opacity_spec {w : World} {A : Around} {s : Shared} {x dx dv : Addr} {o : Obj} {kvs : List (Str × Value)} {hh : Int} {kk : Tok} {nm : Str} {tn tl : Tok} {l : List Nat} {d1 d2 : Int} {Q E : Value → Shared → Prop}
    (R : Rd (hd.heap_1 w.params) 9 A s.heap s) (hx : s.heap.get? x = some (instObj 328 dx)) (hdx : s.heap.get? dx = some (lookD dv hh kk)) (hdv : s.heap.get? dv = some o) (hdo : o.IsDictOf (PySem.strKind PySem.Challenge.rw_pf0197_01.row.prog w) kvs) (hval : valueAt kvs nm = some (.str (S l) tl)) (hR : Reads l 1 1 16 1 d1 d2) (hd0 : -1000000 < d1) (hd1 : d1 < 1000000) (hd2 : 0 < d2) (hd3 : d2 < 1000000)
    (hret : ∀ t h' tk', s.heap.StaysIn h' → Q (.int (roundedF (timesF (boundF (d1, d2)) (255, 1))) t) { s with heap := h', toks := tk' }) :
    wpAny (model PySem.Challenge.rw_pf0197_01.row.prog w) A (call (.ref 296) [.ref x, .str nm tn] []) Q E s := by
  revert R; k_fill; intro R
  refine' enter (news := []) (args := ⟨[.ref x, .str nm tn], []⟩) (binds := [(Str.ofString "self", .ref x), (Str.ofString "name", .str nm tn)]) R ?foot ?ho ?hcd ?hbind ?hloc ?h ?hcell ?hco ?hgen ?hk
  case foot => intro p hp; cases hp
  case ho => k_is
  case hcd => k_is
  case hbind => exact BindsTo.of_eq rfl
  case hloc => exact locs rfl
  case hcell => decide
  case hco => exact rfl
  case hgen => exact rfl
  case hk => exact rfl
  clear R
  intro base dp un outer p loose mean mg mb L h₁ F' N' B' X' T' hDp hUn hl hs hA
  clear hA
  (try dsimp only); (try k_fold)
  k_steps
  refine Stop.out ?_
  (with_reducible rename Fr _ _ _ _ => Fz)
  (with_reducible rename News _ _ _ _ => Nz)
  rename Heap.StaysIn _ _ => st
  rename _ ∨ _ => hv
  rcases hv with ⟨hn, rfl⟩ | ⟨hn, hb, r, t, t', rfl, hlr, hr⟩ | ⟨hn, hb, rfl⟩
  · have hq : -1000000000000 < (timesF (0, 1) (255, 1)).1 ∧ (timesF (0, 1) (255, 1)).1 < 1000000000000 ∧ 0 < (timesF (0, 1) (255, 1)).2 ∧ (timesF (0, 1) (255, 1)).2 < 1000000000000 := by decide +kernel
    have hq1 := hq.1
    have hq2 := hq.2.1
    have hq3 := hq.2.2.1
    have hq4 := hq.2.2.2
    clear hq
    have e : boundF (d1, d2) = (0, 1) := by unfold boundF; rw [if_pos hn]
    rw [e] at hret
    (refine back_k Fz Nz st ?_; intro F9 N9)
    clear Fz Nz st
    (try dsimp only); (try k_fold)
    k_steps
    (with_reducible rename Fr _ _ _ _ => Fz)
    exact hret _ _ _ Fz.keep
  · have hq : -1000000000000 < (timesF (1, 1) (255, 1)).1 ∧ (timesF (1, 1) (255, 1)).1 < 1000000000000 ∧ 0 < (timesF (1, 1) (255, 1)).2 ∧ (timesF (1, 1) (255, 1)).2 < 1000000000000 := by decide +kernel
    have hq1 := hq.1
    have hq2 := hq.2.1
    have hq3 := hq.2.2.1
    have hq4 := hq.2.2.2
    clear hq
    have e : boundF (d1, d2) = (1, 1) := by unfold boundF; rw [if_neg hn, if_pos hb]
    rw [e] at hret
    (refine back1_k Fz Nz st hlr hr ?_; intro F9 N9 l9 m9)
    clear Fz Nz st hlr hr
    (try k_lt l9); (try k_lt2 m9)
    (try dsimp only); (try k_fold)
    k_steps
    (with_reducible rename Fr _ _ _ _ => Fz)
    exact hret _ _ _ Fz.keep
  · have hq := times_bd (p := d1) (q := d2) (x := 255) (y := 1) (by omega) (by omega)
    have hq1 := hq.1
    have hq3 := hq.2.1
    have hq4 := hq.2.2
    clear hq
    have hq5 : d1.natAbs * (255 : Int).natAbs ≤ 255000000 := Nat.mul_le_mul (show d1.natAbs ≤ 1000000 by omega) (show (255 : Int).natAbs ≤ 255 by decide)
    replace hq1 := Nat.le_trans hq1 hq5
    clear hq5
    have e : boundF (d1, d2) = (d1, d2) := by unfold boundF; rw [if_neg hn, if_neg hb]
    rw [e] at hret
    (refine back_k Fz Nz st ?_; intro F9 N9)
    clear Fz Nz st
    (try dsimp only); (try k_fold)
    k_steps
    (with_reducible rename Fr _ _ _ _ => Fz)
    exact hret _ _ _ Fz.keep
end Mine
end
section --C21
set_option maxHeartbeats 1600000
namespace Mine
theorem num_len {l : List Nat} {p q : Int} (h : NumOf l p q) : l.length ≤ 20 := (num_facts h).2.2.2.2.2.2.2
theorem lnC21a : True := by
  k_with_none
  k_with "a1" => (first | with_reducible assumption | ((with_reducible apply Mine.ltm); (with_reducible assumption); k_mem))
  k_with "a2" => (first | with_reducible exact Mine.lss | with_reducible exact Mine.ltp (by assumption) | with_reducible exact Mine.ltp (Mine.ltp (by assumption)) | with_reducible exact Mine.ltp (Mine.ltp (Mine.ltp (by assumption))) | ((with_reducible refine Mine.lts ?_); first | with_reducible exact Mine.lss | k_memK) | ((with_reducible refine Mine.lts (Mine.lts ?_)); first | with_reducible exact Mine.lss | k_memK) | ((with_reducible refine Mine.lts (Mine.lts (Mine.lts ?_))); k_memK))
  k_with "a3" => (first | k_cls | ((with_reducible apply Mine.ltr); (with_reducible assumption); first | k_memK | k_cls) | ((with_reducible apply Mine.ltr); (with_reducible exact Mine.ltp (by assumption)); first | k_memK | k_cls))
  k_with "a4" => (first | with_reducible exact Mine.neAll (by assumption) | with_reducible exact Mine.neNil | ((with_reducible refine Mine.neCons ?_ ?_); k_ne; k_all))
  k_with "a5" => (first | with_reducible exact Mine.subNil | with_reducible exact Mine.subSame | ((with_reducible refine Mine.subCons ?_ ?_); k_mem; k_subL) | ((with_reducible refine Mine.subApp ?_ ?_); k_subL; k_subL) | ((with_reducible refine Mine.subTail ?_); k_subL))
  k_with "a6" => (first | with_reducible assumption | ((with_reducible show @Ne Nat _ _); first | ((with_reducible refine Mine.nlt ?_); k_memK) | ((with_reducible refine Mine.ngt ?_); k_memK) | (with_reducible exact Ne.symm (by assumption)) | ((with_reducible refine Mine.nlt ?_); k_types) | ((with_reducible refine Mine.ngt ?_); k_types)) | ((with_reducible apply Mine.dq0); (with_reducible assumption); decide) | ((with_reducible apply Mine.dq1); (with_reducible assumption); decide) | ((with_reducible apply Mine.dq2); (with_reducible assumption); decide) | ((with_reducible apply Mine.dq3); (with_reducible assumption); decide) | ((with_reducible apply Mine.dq4); (with_reducible assumption); decide) | ((with_reducible first | apply Mine.il1 | apply Mine.il3); (with_reducible assumption); decide) | ((with_reducible first | apply Mine.il2 | apply Mine.il4); (with_reducible assumption); decide) | ((with_reducible first | apply Mine.iu1 | apply Mine.iu3); (with_reducible assumption); decide) | ((with_reducible first | apply Mine.iu2 | apply Mine.iu4); (with_reducible assumption); decide) | ((with_reducible first | apply Mine.nl3 | apply Mine.nl2); (with_reducible assumption); decide) | ((with_reducible first | apply Mine.nu1 | apply Mine.nu3); (with_reducible assumption); decide) | ((with_reducible first | apply Mine.nu2 | apply Mine.nu4); (with_reducible assumption); decide) | ((with_reducible show @LT.lt Nat _ _ _); first | k_memK | k_types) | decide)
  k_with "a7" => (repeat (rename ∀ _ ∈ (_ : List (Addr × Obj)), @LT.lt Nat _ _ _ => hrw; replace hrw := allLt_of hrw; dsimp only [AllLt] at hrw))
  k_with "a8" => (first | (k_whole; kc_bool) | omega +splitDisjunctions | (k_whole; k_units; omega +splitDisjunctions))
  k_with "a9" => (first | (k_whole; kc_bool) | lia | omega +splitDisjunctions)
  k_with "eval Call" => ((fail_if_success (fail_if_success k_fold)); refine foldL ?_; intro qk ek; walk1)
  k_with "eval BinOp" => ((fail_if_success (fail_if_success k_fold)); refine foldL ?_; intro qk ek; walk1)
  k_with "eval Tuple" => ((fail_if_success (fail_if_success k_fold)); refine foldL ?_; intro qk ek; walk1)
  k_with "isTrue Compare" => ((fail_if_success (fail_if_success k_fold)); refine foldL ?_; intro qk ek; walk1)
  k_with "eval Subscript" => ((fail_if_success (fail_if_success k_fold)); refine foldL ?_; intro qk ek; walk1)
  k_with "exec Assign" => ((fail_if_success (fail_if_success k_fold)); refine foldL ?_; intro qk ek; walk1)
  k_with "eval List" => ((fail_if_success (fail_if_success k_fold)); refine foldL ?_; intro qk ek; walk1)
  k_with "eval Attribute" => ((fail_if_success (fail_if_success k_fold)); refine foldL ?_; intro qk ek; walk1)
  k_with "eval UnaryOp" => ((fail_if_success (fail_if_success k_fold)); refine foldL ?_; intro qk ek; walk1)
  k_with "callWith ref" => ((fail_if_success (fail_if_success k_fold)); refine foldL ?_; intro qk ek; walk1)
  k_with "callWith" => ((fail_if_success (fail_if_success k_fold)); refine foldL ?_; intro qk ek; walk1)
  k_with "call ref" => (k_here; (with_reducible show wpAny _ _ (call (Value.ref 328) _ _) _ _ _); ((with_reducible rename Fr _ _ _ _ => Fz); (with_reducible rename News _ _ _ _ => Nz); (k_dflt (refine' make_look Fz Nz ?B ?X ?T ?d ?u rfl rfl ?_; (case B => assumption); (case X => assumption); (case T => assumption); (case d => (first | ((with_reducible apply dle); (with_reducible assumption); exact rfl) | omega)); (case u => (first | ((with_reducible apply ule); (with_reducible assumption); exact rfl) | omega)); k_whole)); clear Fz Nz; intro x9 dx9 h9 tk9 hh9 kk9 F9 N9 l9 l8; k_lt l9; k_lt2 l8; (try dsimp only); (try k_fold)))
  k_with "exec While" => (k_here; refine Stop.go ?_)
  k_with "binaryOp FloorDiv int int" => (k_here; refine floordiv_int (by first | decide | omega) ?_ (Or.inl (noPyl (by first | decide | omega) (by first | decide | omega))))
  k_with "newTuple" => (k_here; k_dflt (refine' newTuple_mine ?k1 ?k2 ?_ ?k3; (case k1 => k_asm); (case k2 => k_asm); (case k3 => first | decide | (exact Nat.le_of_ble_eq_true rfl) | (simp only [sizeLine_eq]; simp))); intro D' h' F' N' l1 l2; (try k_lt l1); (try k_lt2 l2); (try k_sweep))
  k_with "binaryOp Mult int int" => (k_here; refine mul_int ?_ (by first | exact mulOk60 (by omega) (by omega) (by omega) (by omega) | mul_fits))
  k_with "binaryOp Mod int int" => (k_here; refine mod_int' (by first | decide | omega) ?_)
  k_with "call builtin:len" => (k_here; refine r_len (by first | omega | (simp only [List.length_append, List.length_cons, List.length_nil]; omega)) ?_; intro t9 k9)
  k_with "subscriptTail Attribute Attribute str int" => (k_here; (with_reducible show wpAny _ _ (subscriptTail _ _ (Value.str (S _) _) (Value.int _ _)) _ _ _); k_dflt (refine r_item (by omega) (by omega) (by omega) ?_); intro t9 k9)
  k_with "compareOp In str str" => (k_here; refine r_in ?_)
  k_with "subscriptTail Attribute Slice str ref" => (k_here; (with_reducible show wpAny _ _ (subscriptTail _ (Expr.Slice (some _) (some _) none _) (Value.str (S _) _) (Value.ref _)) _ _ _); (with_reducible rename Fr _ _ _ _ => Fz); (with_reducible rename News _ _ _ _ => Nz); k_dflt (refine r_slice (s := ⟨_, _, _, _, _⟩) Fz Nz (by omega) (by omega) (by omega) (by omega) ?_); intro h9 t9 k9 F9 N9; (try k_sweep))
  k_with "compareOp Eq str str" => (k_here; first | refine r_eq_f (by assumption) ?_ | refine r_eq_t (by assumption) ?_ | refine r_eq ?_)
  k_with "compareOp NotEq str str" => (k_here; first | refine r_ne_t (by assumption) ?_ | refine r_ne_f (by assumption) ?_ | refine r_ne ?_)
  k_with "binaryOp Add str str" => (k_here; (with_reducible show wpAny _ _ (binaryOp _ (Value.str (S _) _) (Value.str (S _) _)) _ _ _); refine r_add (by first | omega | (have hq9 := num_len (by with_reducible assumption); simp only [List.length_append, List.length_cons, List.length_nil]; omega) | (simp only [List.length_append, List.length_cons, List.length_nil]; omega)) ?_; intro t9 k9)
  k_with "eval Constant str" => (k_here; (with_reducible show wpAny _ _ (eval (PySem.Expr.Constant (PySem.Const.str (Str.ofString _)) _ _) _) _ _ _); (refine' const_lit ?e ?_; (case e => first | with_reducible exact lit_empty | with_reducible exact lit_dot | with_reducible exact lit_5 | with_reducible exact lit_25 | with_reducible exact lit_125 | with_reducible exact lit_minus | with_reducible exact lit_plus | with_reducible exact lit_e1 | with_reducible exact lit_em1 | with_reducible exact lit_E2 | with_reducible exact lit_em6 | with_reducible exact lit_pct | with_reducible exact lit_sp | with_reducible exact lit_comma | with_reducible exact lit_spcomma)); intro t9 k9)
  k_with "subscriptTail Name Constant ref int" => (k_here; (with_reducible show wpAny _ _ (subscriptTail _ _ (Value.ref _) (Value.int 0 _)) _ _ _); (with_reducible rename Fr _ _ _ _ => Fz); first | (k_dflt (refine tup_item0 Fz (by with_reducible assumption) ?_)) | ((with_reducible rename News _ _ _ _ => Nz); (k_dflt (refine tupN_item0 Nz (by k_mem) ?_))))
  k_with "subscriptTail Name Constant ref int" => (k_here; (with_reducible show wpAny _ _ (subscriptTail _ _ (Value.ref _) (Value.int 1 _)) _ _ _); (with_reducible rename Fr _ _ _ _ => Fz); first | (k_dflt (refine tup_item1 Fz (by with_reducible assumption) ?_)) | ((with_reducible rename News _ _ _ _ => Nz); (k_dflt (refine tupN_item1 Nz (by k_mem) ?_))))
  k_with "newList" => (k_here; k_dflt (refine' newList_mine ?k1 ?k2 ?_ ?k3; (case k1 => k_asm); (case k2 => k_asm); (case k3 => first | decide | (exact Nat.le_of_ble_eq_true rfl) | (simp only [sizeLine_eq]; simp))); intro D' h' F' N' l1 l2; (try k_lt l1); (try k_lt2 l2); (try k_sweep))
  k_with "call ref" => (k_here; (with_reducible show wpAny _ _ (call (Value.ref 443) _ _) _ _ _); first | ((with_reducible rename Fr _ _ _ _ => Fz); (with_reducible rename News _ _ _ _ => Nz); (k_dflt (refine' take_spec (rd_hide ?B Fz Nz (sub1 ?M) ?X ?T rfl rfl ?d ?u) (foot1 Nz ?M2) ?p0 ?p1 ?p2 ?p3 ?p4 ?_; (case B => assumption); (case X => assumption); (case T => assumption); (case d => (first | ((with_reducible apply dle); (with_reducible assumption); exact rfl) | omega)); (case u => (first | ((with_reducible apply ule); (with_reducible assumption); exact rfl) | omega)); (case M => k_mem); (case M2 => k_mem); (case p0 => first | with_reducible assumption | omega); (case p1 => first | with_reducible assumption | omega); (case p2 => first | with_reducible assumption | omega); (case p3 => first | with_reducible assumption | omega); (case p4 => first | with_reducible assumption | omega); k_whole)); intro v9 tv9 a9 b9 ta9 tb9 h9 tk9 hv0 hv1 ha0 hb0 hb1 st9 hn9; k_dflt ((refine backU_k Fz Nz hn9 (by k_upd) st9 ?_; intro F9 N9)); clear Fz Nz st9 hn9; (try dsimp only); (try k_fold)) | refine Stop.go ?_)
  k_with "eval Dict" => (k_here; k_dflt (refine' kdn_str ?q ?F ?N ?b ?a ?l ?e ?n ?_; (case q => rfl); (case F => k_asm); (case N => k_asm); (case b => exact Top.nolimit (by k_asm)); (case a => rfl); (case l => rfl); (case e => exact List.cons_ne_nil _ _); (case n => exact Nat.le_of_ble_eq_true rfl)); intro d' h' o' F' N' l1 lo' hd'; (try k_lt l1); (try k_sweep))
  k_with "call ref" => (k_here; (with_reducible show wpAny _ _ (call (Value.ref 457) _ _) _ _ _); first | ((with_reducible rename Fr _ _ _ _ => Fz); (with_reducible rename News _ _ _ _ => Nz); (k_dflt (refine' number_spec (rd_hide ?B Fz Nz (sub1 ?M) ?X ?T rfl rfl ?d ?u) (foot1 Nz ?M2) ?p0 ?p1 ?p2 ?_; (case B => assumption); (case X => assumption); (case T => assumption); (case d => (first | ((with_reducible apply dle); (with_reducible assumption); exact rfl) | omega)); (case u => (first | ((with_reducible apply ule); (with_reducible assumption); exact rfl) | omega)); (case M => k_mem); (case M2 => k_mem); (case p0 => first | with_reducible assumption | omega); (case p1 => first | with_reducible assumption | omega); (case p2 => first | with_reducible assumption | omega); k_whole)); intro l9 p9 q9 t9 u9 u8 r9 r8 a9 b9 ta9 tb9 h9 tk9 g1 g2 hn9 ha0 hb0 hb1 st9 hN9 s1 s2 ne9; k_dflt ((refine back2U_k Fz Nz hn9 (by k_upd) st9 s1 s2 ne9 g1 g2 ?_; intro F9 N9 L1 L2 M1 M2)); clear Fz Nz st9 hn9 s1 s2 g1 g2; (try k_lt M1); (try k_lt M2); (try dsimp only); (try k_fold)) | refine Stop.go ?_)
  k_with "call ref" => (k_here; (with_reducible show wpAny _ _ (call (Value.ref 81) _ _) _ _ _); first | ((with_reducible rename Fr _ _ _ _ => Fz); (with_reducible rename News _ _ _ _ => Nz); (k_dflt (refine' fraction_spec (rd_of ?B Fz ?X ?T rfl rfl ?d ?u) ?p0 ?p1 ?_; (case B => assumption); (case X => assumption); (case T => assumption); (case d => (first | ((with_reducible apply dle); (with_reducible assumption); exact rfl) | omega)); (case u => (first | ((with_reducible apply ule); (with_reducible assumption); exact rfl) | omega)); (case p0 => (first | omega | (have hq9 := num_bd (by with_reducible assumption); omega))); (case p1 => (first | omega | (have hq9 := num_bd (by with_reducible assumption); omega))); k_whole)); intro r9 t9 u9 h9 tk9 st9 hl9 hr9; k_dflt ((refine back1_k Fz Nz st9 hl9 hr9 ?_; intro F9 N9 l9 m9)); clear Fz Nz st9 hl9 hr9; (try k_lt l9); (try k_lt2 m9); (try dsimp only); (try k_fold)) | refine Stop.go ?_)
  k_with "call ref" => (k_here; (with_reducible show wpAny _ _ (call (Value.ref 296) _ _) _ _ _); refine Stop.go ?_)
  k_with "eval IfExp" => (k_here; (with_reducible show wpAny _ _ (eval (Expr.IfExp (Expr.Name (Str.ofString "is_share") _) _ _ _) _) _ _ _); refine Stop.go ?_)
  trivial
noncomputable def pcL (b : Bool) : List Nat := if b then [37] else []
noncomputable def pcI (b : Bool) : Int := if b then 100 else 1
theorem pcL_len (b : Bool) : (pcL b).length ≤ 1 := by cases b <;> decide
theorem pcI_bd (b : Bool) : -1000 < pcI b ∧ pcI b < 1000 := by cases b <;> decide
theorem pcI_mul {q : Int} (b : Bool) (h0 : 0 < q) (h1 : q < 100) : 0 < q * pcI b ∧ q * pcI b < 10000 := by
  cases b
  · show 0 < q * 1 ∧ q * 1 < 10000; omega
  · show 0 < q * 100 ∧ q * 100 < 10000; omega
theorem pc_reads2 {l : List Nat} {p q d1 d2 : Int} (b : Bool) (hnum : NumOf l p q) (hd : fr p (q * pcI b) = (d1, d2)) : -1000000 < d1 ∧ d1 < 1000000 ∧ 0 < d2 ∧ d2 < 1000000 ∧ Reads (l ++ pcL b) 1 1 16 1 d1 d2 := by
  cases b
  · obtain ⟨y1, y2, _, hq, hr, h0, h1, h2, h3⟩ := num_reads hnum
    have hh := ((congrArg (fr p) (Int.mul_one q)).symm.trans hd).symm.trans hq
    cases hh
    exact ⟨h0, h1, h2, h3, (List.append_nil l).symm ▸ hr⟩
  · obtain ⟨y1, y2, hq, hr, h0, h1, h2, h3⟩ := pct_reads hnum
    have hh := hd.symm.trans hq
    cases hh
    exact ⟨h0, h1, h2, h3, hr⟩
theorem lawopacity_spec {w : World} {A : Around} {s : Shared} {x : Addr} {a b : Int} {ta tb : Tok} {g : Heap} {Q E : Value → Shared → Prop}
    (R : Rd (hd.heap_1 w.params) 10 A g s) (hfoot : ∀ p ∈ [(x, srcO a b ta tb)], s.heap.get? p.1 = some p.2 ∧ g.get? p.1 = none) (ha0 : 0 ≤ a) (hb0 : 0 ≤ b) (hb1 : b < 2147483647)
    (hret : ∀ c d tc td h' tk', h'.get? x = some (srcO c d tc td) → 0 ≤ c → 0 ≤ d → d < 2147483647 → g.StaysIn h' → Q (.bool true) {s with heap := h', toks := tk'}) :
    wpAny (model PySem.Challenge.rw_pf0197_01.row.prog w) A (call (.ref 497) [.ref x] []) Q E s := by
  revert R; k_fill; intro R
  have hsz := R.sz
  refine' enter (news := [(x, srcO a b ta tb)]) (args := ⟨[.ref x], []⟩) (binds := [(Str.ofString "source", .ref x)]) R ?foot ?ho ?hcd ?hbind ?hloc ?h ?hcell ?hco ?hgen ?hk
  case foot => exact hfoot
  case ho => k_is
  case hcd => k_is
  case hbind => exact BindsTo.of_eq rfl
  case hloc => exact locs rfl
  case hcell => decide
  case hco => exact rfl
  case hgen => exact rfl
  case hk => exact rfl
  clear R
  intro base dp un outer p loose mean mg mb L h₁ F' N' B' X' T' hDp hUn hl hs hA
  clear hA
  (try dsimp only); (try k_fold)
  refine cutK 2 (fun Ki => ∀ s' m l p q t u u' r a' b' ta' tb' b, Same s s' → Fr g L s'.heap m → News g L s'.heap [(r, tup2 p q u u'), (x, srcO a' b' ta' tb')] → m (Str.ofString "text") = some (.str (S l) t) → m (Str.ofString "number") = some (.ref r) → m (Str.ofString "is_share") = some (.bool b) → NumOf l p q → 0 ≤ a' → 0 ≤ b' → b' < 2147483647 → Ki s') ?_ ?_
  · intro Ic1 hIc1
    dsimp only [List.take]
    k_steps
    (with_reducible rename Fr _ _ _ _ => Fz)
    (with_reducible rename News _ _ _ _ => Nz)
    exact Stop.out ⟨rfl, hIc1 _ _ _ _ _ _ _ _ _ _ _ _ _ _ Same.mk Fz (pick2 Nz (by k_mem) (by k_mem)) rfl rfl rfl (by with_reducible assumption) (by with_reducible assumption) (by with_reducible assumption) (by with_reducible assumption)⟩
  intro s1 m l p q t u u' r a' b' ta' tb' b hS F1 N1 e1 e2 e3 hnum ha' hb' hb1'
  dsimp only [List.drop]
  refine cutK 1 (fun Ki => ∀ s' m d1 d2 t1 t2 r', Same s s' → Fr g L s'.heap m → News g L s'.heap [(r', tup2 d1 d2 t1 t2), (x, srcO a' b' ta' tb')] → m (Str.ofString "text") = some (.str (S l) t) → m (Str.ofString "share") = some (.ref r') → m (Str.ofString "is_share") = some (.bool b) → fr p (q * pcI b) = (d1, d2) → Ki s') ?_ ?_
  · intro Ic2 hIc2
    replace F1 := put3F F1 e1 e2 e3
    clear hret
    have hnb := num_bd hnum
    have hq5 := pcI_mul b hnb.2.2.1 hnb.2.2.2
    have hq6 := hq5.1
    have hq7 := hq5.2
    have hq8 := hnb.2.2.1
    have hq9 := hnb.2.2.2
    have hi5 := (pcI_bd b).1
    have hi6 := (pcI_bd b).2
    clear hnb hq5
    dsimp only [List.take]
    k_steps
    refine Stop.out ?_
    refine cutTok (fun t => .int (pcI b) t) ?_ ?_
    · intro Qc hq
      clear hIc2
      refine wpAny_IfExp ?_
      cases b
      all_goals k_steps
      all_goals exact hq _ _
    intro tq kq
    k_steps
    (with_reducible rename Fr _ _ _ _ => Fz)
    (with_reducible rename News _ _ _ _ => Nz)
    exact Stop.out ⟨rfl, hIc2 _ _ (fr p (q * pcI b)).1 (fr p (q * pcI b)).2 _ _ _ hS.on Fz (pick2 Nz (by k_mem) (by k_mem)) rfl rfl rfl rfl⟩
  clear hS F1 N1 e1 e2 e3
  intro s2 m d1 d2 t1 t2 r' hS2 F1 N1 e1 e2 e3 hd
  dsimp only [List.drop]
  have hdb := pc_reads2 b hnum hd
  have hd0 := hdb.1
  have hd1 := hdb.2.1
  have hd2 := hdb.2.2.1
  have hd3 := hdb.2.2.2.1
  have hR := hdb.2.2.2.2
  clear hdb hd
  have hv := opacity_due (s0 := d1) hd2
  generalize hdue : roundedF (timesF (boundF (d1, d2)) (255, 1)) = due at hv
  refine cutK 1 (fun Ki => ∀ s' m t', Same s s' → Fr g L s'.heap m → News g L s'.heap [(x, srcO a' b' ta' tb')] → m (Str.ofString "text") = some (.str (S l) t) → m (Str.ofString "is_share") = some (.bool b) → m (Str.ofString "due") = some (.int due t') → Ki s') ?_ ?_
  · intro Ic3 hIc3
    clear hret
    replace F1 := put3F F1 e1 e2 e3
    dsimp only [List.take]
    k_steps
    all_goals (with_reducible rename Fr _ _ _ _ => Fz)
    all_goals (with_reducible rename News _ _ _ _ => Nz)
    · rename d1 < 0 => h1
      rw [if_pos h1] at hv
      exact Stop.out ⟨rfl, hIc3 _ _ _ hS2.on Fz (pick1 Nz (by k_mem)) rfl rfl (by rw [hv]; rfl)⟩
    · rename ¬ d1 < 0 => h1
      rename d1 > d2 => h2
      rw [if_neg h1, if_pos h2] at hv
      exact Stop.out ⟨rfl, hIc3 _ _ _ hS2.on Fz (pick1 Nz (by k_mem)) rfl rfl (by rw [hv]; rfl)⟩
    · rename ¬ d1 < 0 => h1
      rename ¬ d1 > d2 => h2
      rw [if_neg h1, if_neg h2] at hv
      exact Stop.out ⟨rfl, hIc3 _ _ _ hS2.on Fz (pick1 Nz (by k_mem)) rfl rfl (by rw [hv]; rfl)⟩
  clear hS2 hv F1 N1 e1 e2 e3
  intro s3 m t' hS3 F1 N1 e1 e2 e3
  dsimp only [List.drop]
  replace F1 := put3F F1 e1 e2 e3
  clear e1 e2 e3
  have hl5 := num_len hnum
  have hl6 := pcL_len b
  k_steps
  refine Stop.out ?_
  refine cutTok (fun t => .str (S (pcL b)) t) ?_ ?_
  · intro Qc hq
    clear hret
    refine wpAny_IfExp ?_
    cases b
    all_goals k_steps
    all_goals exact hq _ _
  intro tq kq
  k_steps
  refine Stop.out ?_
  (with_reducible rename Fr _ _ _ _ => Fz)
  (with_reducible rename News _ _ _ _ => Nz)
  (with_reducible rename Obj.IsDictOf _ _ (strPairs _) => hdz)
  simp only [strPairs] at hdz
  (k_dflt (refine opacity_spec (rd_of B' Fz X' T' rfl rfl (by (first | ((with_reducible apply dle); (with_reducible assumption); exact rfl) | omega)) (by (first | ((with_reducible apply ule); (with_reducible assumption); exact rfl) | omega))) (Nz.get (List.mem_cons_self ..)) (Nz.get (by k_mem)) (Nz.get (by k_mem)) hdz rfl hR hd0 hd1 hd2 hd3 ?_); clear hdz)
  rw [hdue]
  (intro t9 h9 tk9 st9; k_dflt ((refine back_k Fz Nz st9 ?_; intro F9 N9)); clear Fz Nz st9; (try dsimp only); (try k_fold))
  k_steps
  (with_reducible rename Fr _ _ _ _ => Fz)
  (with_reducible rename News _ _ _ _ => Nz)
  rw [beq_self_eq_true]
  exact hS3.q (hret _ _ _ _ _ _ (Nz.get (by k_mem)) ha' hb' hb1' Fz.keep)
end Mine
end
section --C22
set_option maxHeartbeats 1600000
namespace Mine
theorem lnC22a : True := by
  k_with_none
  k_with "a1" => (first | with_reducible assumption | ((with_reducible apply Mine.ltm); (with_reducible assumption); k_mem))
  k_with "a2" => (first | with_reducible exact Mine.lss | with_reducible exact Mine.ltp (by assumption) | with_reducible exact Mine.ltp (Mine.ltp (by assumption)) | with_reducible exact Mine.ltp (Mine.ltp (Mine.ltp (by assumption))) | ((with_reducible refine Mine.lts ?_); first | with_reducible exact Mine.lss | k_memK) | ((with_reducible refine Mine.lts (Mine.lts ?_)); first | with_reducible exact Mine.lss | k_memK) | ((with_reducible refine Mine.lts (Mine.lts (Mine.lts ?_))); k_memK))
  k_with "a3" => (first | k_cls | ((with_reducible apply Mine.ltr); (with_reducible assumption); first | k_memK | k_cls) | ((with_reducible apply Mine.ltr); (with_reducible exact Mine.ltp (by assumption)); first | k_memK | k_cls))
  k_with "a4" => (first | with_reducible exact Mine.neAll (by assumption) | with_reducible exact Mine.neNil | ((with_reducible refine Mine.neCons ?_ ?_); k_ne; k_all))
  k_with "a5" => (first | with_reducible exact Mine.subNil | with_reducible exact Mine.subSame | ((with_reducible refine Mine.subCons ?_ ?_); k_mem; k_subL) | ((with_reducible refine Mine.subApp ?_ ?_); k_subL; k_subL) | ((with_reducible refine Mine.subTail ?_); k_subL))
  k_with "a6" => (first | with_reducible assumption | ((with_reducible show @Ne Nat _ _); first | ((with_reducible refine Mine.nlt ?_); k_memK) | ((with_reducible refine Mine.ngt ?_); k_memK) | (with_reducible exact Ne.symm (by assumption)) | ((with_reducible refine Mine.nlt ?_); k_types) | ((with_reducible refine Mine.ngt ?_); k_types)) | ((with_reducible apply Mine.dq0); (with_reducible assumption); decide) | ((with_reducible apply Mine.dq1); (with_reducible assumption); decide) | ((with_reducible apply Mine.dq2); (with_reducible assumption); decide) | ((with_reducible apply Mine.dq3); (with_reducible assumption); decide) | ((with_reducible apply Mine.dq4); (with_reducible assumption); decide) | ((with_reducible first | apply Mine.il1 | apply Mine.il3); (with_reducible assumption); decide) | ((with_reducible first | apply Mine.il2 | apply Mine.il4); (with_reducible assumption); decide) | ((with_reducible first | apply Mine.iu1 | apply Mine.iu3); (with_reducible assumption); decide) | ((with_reducible first | apply Mine.iu2 | apply Mine.iu4); (with_reducible assumption); decide) | ((with_reducible first | apply Mine.nl3 | apply Mine.nl2); (with_reducible assumption); decide) | ((with_reducible first | apply Mine.nu1 | apply Mine.nu3); (with_reducible assumption); decide) | ((with_reducible first | apply Mine.nu2 | apply Mine.nu4); (with_reducible assumption); decide) | ((with_reducible show @LT.lt Nat _ _ _); first | k_memK | k_types) | decide)
  k_with "a7" => (repeat (rename ∀ _ ∈ (_ : List (Addr × Obj)), @LT.lt Nat _ _ _ => hrw; replace hrw := allLt_of hrw; dsimp only [AllLt] at hrw))
  k_with "a8" => (first | (k_whole; kc_bool) | omega +splitDisjunctions | (k_whole; k_units; omega +splitDisjunctions))
  k_with "a9" => (first | (k_whole; kc_bool) | lia | omega +splitDisjunctions)
  k_with "eval Call" => ((fail_if_success (fail_if_success k_fold)); refine foldL ?_; intro qk ek; walk1)
  k_with "eval BinOp" => ((fail_if_success (fail_if_success k_fold)); refine foldL ?_; intro qk ek; walk1)
  k_with "eval Tuple" => ((fail_if_success (fail_if_success k_fold)); refine foldL ?_; intro qk ek; walk1)
  k_with "isTrue Compare" => ((fail_if_success (fail_if_success k_fold)); refine foldL ?_; intro qk ek; walk1)
  k_with "eval Subscript" => ((fail_if_success (fail_if_success k_fold)); refine foldL ?_; intro qk ek; walk1)
  k_with "exec Assign" => ((fail_if_success (fail_if_success k_fold)); refine foldL ?_; intro qk ek; walk1)
  k_with "eval List" => ((fail_if_success (fail_if_success k_fold)); refine foldL ?_; intro qk ek; walk1)
  k_with "eval Attribute" => ((fail_if_success (fail_if_success k_fold)); refine foldL ?_; intro qk ek; walk1)
  k_with "eval UnaryOp" => ((fail_if_success (fail_if_success k_fold)); refine foldL ?_; intro qk ek; walk1)
  k_with "callWith ref" => ((fail_if_success (fail_if_success k_fold)); refine foldL ?_; intro qk ek; walk1)
  k_with "callWith" => ((fail_if_success (fail_if_success k_fold)); refine foldL ?_; intro qk ek; walk1)
  k_with "subscriptTail Name Constant ref int" => (k_here; first | refine tup_item0 (by assumption) (by assumption) ?_ | refine tup_item1 (by assumption) (by assumption) ?_)
  k_with "exec While" => (k_here; refine Stop.go ?_)
  k_with "binaryOp FloorDiv int int" => (k_here; refine floordiv_int (by first | decide | omega) ?_ (Or.inl (noPyl (by first | decide | omega) (by first | decide | omega))))
  k_with "newTuple" => (k_here; k_dflt (refine' newTuple_mine ?k1 ?k2 ?_ ?k3; (case k1 => k_asm); (case k2 => k_asm); (case k3 => first | decide | (exact Nat.le_of_ble_eq_true rfl) | (simp only [sizeLine_eq]; simp))); intro D' h' F' N' l1 l2; (try k_lt l1); (try k_lt2 l2); (try k_sweep))
  k_with "binaryOp Mult int int" => (k_here; refine mul_int ?_ (by first | exact mulOk60 (by omega) (by omega) (by omega) (by omega) | mul_fits))
  k_with "call builtin:len" => (k_here; refine r_len (by first | omega | (simp only [List.length_append, List.length_cons, List.length_nil]; omega)) ?_; intro t9 k9)
  k_with "subscriptTail Attribute Attribute str int" => (k_here; (with_reducible show wpAny _ _ (subscriptTail _ _ (Value.str (S _) _) (Value.int _ _)) _ _ _); k_dflt (refine r_item (by omega) (by omega) (by omega) ?_); intro t9 k9)
  k_with "compareOp In str str" => (k_here; refine r_in ?_)
  k_with "subscriptTail Attribute Slice str ref" => (k_here; (with_reducible show wpAny _ _ (subscriptTail _ (Expr.Slice (some _) (some _) none _) (Value.str (S _) _) (Value.ref _)) _ _ _); (with_reducible rename Fr _ _ _ _ => Fz); (with_reducible rename News _ _ _ _ => Nz); k_dflt (refine r_slice (s := ⟨_, _, _, _, _⟩) Fz Nz (by omega) (by omega) (by omega) (by omega) ?_); intro h9 t9 k9 F9 N9; (try k_sweep))
  k_with "compareOp Eq str str" => (k_here; first | refine r_eq_f (by assumption) ?_ | refine r_eq_t (by assumption) ?_ | refine r_eq ?_)
  k_with "compareOp NotEq str str" => (k_here; first | refine r_ne_t (by assumption) ?_ | refine r_ne_f (by assumption) ?_ | refine r_ne ?_)
  k_with "ite" => (first | refine if_f ?_ | refine if_t ?_)
  k_with "call ref" => (k_here; (with_reducible show wpAny _ _ (call (Value.ref 231) _ _) _ _ _); first | ((with_reducible rename Fr _ _ _ _ => Fz); (with_reducible rename News _ _ _ _ => Nz); (k_dflt (refine' length2_spec' (rd_of ?B Fz ?X ?T rfl rfl ?d ?u) ?p0 ?p1 ?p2 ?p3 ?p4 ?p5 ?_; (case B => assumption); (case X => assumption); (case T => assumption); (case d => (first | ((with_reducible apply dle); (with_reducible assumption); exact rfl) | omega)); (case u => (first | ((with_reducible apply ule); (with_reducible assumption); exact rfl) | omega)); (case p0 => (with_reducible assumption)); (case p1 => (first | exact Nz.get (by k_mem) | exact Fz.keep _ _ (by with_reducible assumption) | exact Fz.keep _ _ (by assumption) | exact Fz.keep _ _ ((by assumption : Frag.In _ _) _ _ (by k_is)))); (case p2 => (first | with_reducible assumption | omega)); (case p3 => (first | with_reducible assumption | omega)); (case p4 => (first | with_reducible assumption | omega)); (case p5 => (first | with_reducible assumption | omega)); k_whole)); intro r9 t9 u9 h9 tk9 st9 hl9 hr9; k_dflt ((refine back1_k Fz Nz st9 hl9 hr9 ?_; intro F9 N9 l9 m9)); clear Fz Nz st9 hl9 hr9; (try k_lt l9); (try k_lt2 m9); (try dsimp only); (try k_fold)) | refine Stop.go ?_)
  k_with "subscriptTail Name Constant ref str" => (k_here; (with_reducible rename Fr _ _ _ _ => Fz); k_dflt (refine b_item_dict (Fz.keep _ _ (by with_reducible assumption)) (by with_reducible assumption) (by with_reducible assumption) ?_))
  k_with "subscriptTail Attribute Constant ref str" => (k_here; (with_reducible rename Fr _ _ _ _ => Fz); k_dflt (refine b_item_dict (Fz.keep _ _ (by with_reducible assumption)) (by with_reducible assumption) (by with_reducible assumption) ?_))
  trivial
theorem font_spec {w : World} {A : Around} {s : Shared} {x dx dv : Addr} {o : Obj} {kvs : List (Str × Value)} {hh : Int} {kk : Tok} {tl : Tok} {l : List Nat} {d1 d2 : Int} {Q E : Value → Shared → Prop}
    (R : Rd (hd.heap_1 w.params) 9 A s.heap s) (hx : s.heap.get? x = some (instObj 328 dx)) (hdx : s.heap.get? dx = some (lookD dv hh kk)) (hdv : s.heap.get? dv = some o) (hdo : o.IsDictOf (PySem.strKind PySem.Challenge.rw_pf0197_01.row.prog w) kvs) (hval : valueAt kvs (Str.ofString "font-size") = some (.str (S l) tl)) (hR : Reads l 16 1 16 1 d1 d2)
    (hret : ∀ r t t' h' tk', s.heap.StaysIn h' → s.heap.objs.size ≤ r → h'.get? r = some (tup2 d1 d2 t t') → Q (.ref r) { s with heap := h', toks := tk' }) :
    wpAny (model PySem.Challenge.rw_pf0197_01.row.prog w) A (call (.ref 266) [.ref x] []) Q E s := by
  revert R; k_fill; intro R
  refine' enter (news := []) (args := ⟨[.ref x], []⟩) (binds := [(Str.ofString "self", .ref x)]) R ?foot ?ho ?hcd ?hbind ?hloc ?h ?hcell ?hco ?hgen ?hk
  case foot => intro p hp; cases hp
  case ho => k_is
  case hcd => k_is
  case hbind => exact BindsTo.of_eq rfl
  case hloc => exact locs rfl
  case hcell => decide
  case hco => exact rfl
  case hgen => exact rfl
  case hk => exact rfl
  clear R
  intro base dp un outer p loose mean mg mb L h₁ F' N' B' X' T' hDp hUn hl hs hA
  clear hA
  (try dsimp only); (try k_fold)
  k_steps
  all_goals (with_reducible rename Fr _ _ _ _ => Fz)
  all_goals (with_reducible rename News _ _ _ _ => Nz)
  exact hret _ _ _ _ _ Fz.keep (under hs (by with_reducible assumption)) (Nz.get (List.mem_cons_self ..))
end Mine
end
section --C24
set_option maxHeartbeats 1600000
namespace Mine
theorem lnC24a : True := by
  k_with_none
  k_with "a1" => (first | with_reducible assumption | ((with_reducible apply Mine.ltm); (with_reducible assumption); k_mem))
  k_with "a2" => (first | with_reducible exact Mine.lss | with_reducible exact Mine.ltp (by assumption) | with_reducible exact Mine.ltp (Mine.ltp (by assumption)) | with_reducible exact Mine.ltp (Mine.ltp (Mine.ltp (by assumption))) | ((with_reducible refine Mine.lts ?_); first | with_reducible exact Mine.lss | k_memK) | ((with_reducible refine Mine.lts (Mine.lts ?_)); first | with_reducible exact Mine.lss | k_memK) | ((with_reducible refine Mine.lts (Mine.lts (Mine.lts ?_))); k_memK))
  k_with "a3" => (first | k_cls | ((with_reducible apply Mine.ltr); (with_reducible assumption); first | k_memK | k_cls) | ((with_reducible apply Mine.ltr); (with_reducible exact Mine.ltp (by assumption)); first | k_memK | k_cls))
  k_with "a4" => (first | with_reducible exact Mine.neAll (by assumption) | with_reducible exact Mine.neNil | ((with_reducible refine Mine.neCons ?_ ?_); k_ne; k_all))
  k_with "a5" => (first | with_reducible exact Mine.subNil | with_reducible exact Mine.subSame | ((with_reducible refine Mine.subCons ?_ ?_); k_mem; k_subL) | ((with_reducible refine Mine.subApp ?_ ?_); k_subL; k_subL) | ((with_reducible refine Mine.subTail ?_); k_subL))
  k_with "a6" => (first | with_reducible assumption | ((with_reducible show @Ne Nat _ _); first | ((with_reducible refine Mine.nlt ?_); k_memK) | ((with_reducible refine Mine.ngt ?_); k_memK) | (with_reducible exact Ne.symm (by assumption)) | ((with_reducible refine Mine.nlt ?_); k_types) | ((with_reducible refine Mine.ngt ?_); k_types)) | ((with_reducible apply Mine.dq0); (with_reducible assumption); decide) | ((with_reducible apply Mine.dq1); (with_reducible assumption); decide) | ((with_reducible apply Mine.dq2); (with_reducible assumption); decide) | ((with_reducible apply Mine.dq3); (with_reducible assumption); decide) | ((with_reducible apply Mine.dq4); (with_reducible assumption); decide) | ((with_reducible first | apply Mine.il1 | apply Mine.il3); (with_reducible assumption); decide) | ((with_reducible first | apply Mine.il2 | apply Mine.il4); (with_reducible assumption); decide) | ((with_reducible first | apply Mine.iu1 | apply Mine.iu3); (with_reducible assumption); decide) | ((with_reducible first | apply Mine.iu2 | apply Mine.iu4); (with_reducible assumption); decide) | ((with_reducible first | apply Mine.nl3 | apply Mine.nl2); (with_reducible assumption); decide) | ((with_reducible first | apply Mine.nu1 | apply Mine.nu3); (with_reducible assumption); decide) | ((with_reducible first | apply Mine.nu2 | apply Mine.nu4); (with_reducible assumption); decide) | ((with_reducible show @LT.lt Nat _ _ _); first | k_memK | k_types) | decide)
  k_with "a7" => (repeat (rename ∀ _ ∈ (_ : List (Addr × Obj)), @LT.lt Nat _ _ _ => hrw; replace hrw := allLt_of hrw; dsimp only [AllLt] at hrw))
  k_with "a8" => (first | (k_whole; kc_bool) | omega +splitDisjunctions | (k_whole; k_units; omega +splitDisjunctions))
  k_with "a9" => (first | (k_whole; kc_bool) | lia | omega +splitDisjunctions)
  k_with "eval Call" => ((fail_if_success (fail_if_success k_fold)); refine foldL ?_; intro qk ek; walk1)
  k_with "eval BinOp" => ((fail_if_success (fail_if_success k_fold)); refine foldL ?_; intro qk ek; walk1)
  k_with "eval Tuple" => ((fail_if_success (fail_if_success k_fold)); refine foldL ?_; intro qk ek; walk1)
  k_with "isTrue Compare" => ((fail_if_success (fail_if_success k_fold)); refine foldL ?_; intro qk ek; walk1)
  k_with "eval Subscript" => ((fail_if_success (fail_if_success k_fold)); refine foldL ?_; intro qk ek; walk1)
  k_with "exec Assign" => ((fail_if_success (fail_if_success k_fold)); refine foldL ?_; intro qk ek; walk1)
  k_with "eval List" => ((fail_if_success (fail_if_success k_fold)); refine foldL ?_; intro qk ek; walk1)
  k_with "eval Attribute" => ((fail_if_success (fail_if_success k_fold)); refine foldL ?_; intro qk ek; walk1)
  k_with "eval UnaryOp" => ((fail_if_success (fail_if_success k_fold)); refine foldL ?_; intro qk ek; walk1)
  k_with "callWith ref" => ((fail_if_success (fail_if_success k_fold)); refine foldL ?_; intro qk ek; walk1)
  k_with "callWith" => ((fail_if_success (fail_if_success k_fold)); refine foldL ?_; intro qk ek; walk1)
  k_with "exec Assign cons ListComp" => (k_here; lct_look; k_dflt (refine LCt.Assign_ListComp_T (F₀ := by k_asm) (by rfl) (by with_unfolding_all rfl) (by with_unfolding_all rfl) (by decide) (by rfl) (by decide) (by rfl) (by rfl) (by rfl) ?_))
  k_with "exec Assign cons ListComp" => (k_here; (fail_if_success lct_look); k_dflt (refine LCg.Assign_ListComp_U (F₀ := by k_asm) (by rfl) (by with_unfolding_all rfl) (by with_unfolding_all rfl) (by decide) (by rfl) (by decide) (by rfl) (by rfl) (by rfl) ?_))
  k_with "eval ListComp" => (k_here; (fail_if_success lct_look); k_dflt (refine LCg.ListComp_U (F₀ := by k_asm) (by with_unfolding_all rfl) (by decide) (by rfl) (by decide) (by rfl) ?_))
  k_with "CompSrcT" => (refine Stop.go ?_)
  k_with "CompSrc" => (refine Stop.go ?_)
  k_with "CompEnd" => (refine Stop.go ?_)
  k_with "call type:tuple" => (refine Stop.go ?_)
  k_with "subscriptTail Name Constant ref int" => (k_here; first | refine tup_item0 (by assumption) (by assumption) ?_ | refine tup_item1 (by assumption) (by assumption) ?_)
  k_with "exec While" => (k_here; refine Stop.go ?_)
  k_with "binaryOp FloorDiv int int" => (k_here; refine floordiv_int (by first | decide | omega) ?_ (Or.inl (noPyl (by first | decide | omega) (by first | decide | omega))))
  k_with "newTuple" => (k_here; k_dflt (refine' newTuple_mine ?k1 ?k2 ?_ ?k3; (case k1 => k_asm); (case k2 => k_asm); (case k3 => first | decide | (exact Nat.le_of_ble_eq_true rfl) | (simp only [sizeLine_eq]; simp))); intro D' h' F' N' l1 l2; (try k_lt l1); (try k_lt2 l2); (try k_sweep))
  k_with "binaryOp Mult int int" => (k_here; refine mul_int ?_ (by first | exact mulOk60 (by omega) (by omega) (by omega) (by omega) | mul_fits))
  k_with "call builtin:len" => (k_here; refine r_len (by first | omega | (simp only [List.length_append, List.length_cons, List.length_nil]; omega)) ?_; intro t9 k9)
  k_with "subscriptTail Attribute Attribute str int" => (k_here; (with_reducible show wpAny _ _ (subscriptTail _ _ (Value.str (S _) _) (Value.int _ _)) _ _ _); k_dflt (refine r_item (by omega) (by omega) (by omega) ?_); intro t9 k9)
  k_with "compareOp In str str" => (k_here; refine r_in ?_)
  k_with "subscriptTail Attribute Slice str ref" => (k_here; (with_reducible show wpAny _ _ (subscriptTail _ (Expr.Slice (some _) (some _) none _) (Value.str (S _) _) (Value.ref _)) _ _ _); (with_reducible rename Fr _ _ _ _ => Fz); (with_reducible rename News _ _ _ _ => Nz); k_dflt (refine r_slice (s := ⟨_, _, _, _, _⟩) Fz Nz (by omega) (by omega) (by omega) (by omega) ?_); intro h9 t9 k9 F9 N9; (try k_sweep))
  k_with "compareOp Eq str str" => (k_here; first | refine r_eq_f (by assumption) ?_ | refine r_eq_t (by assumption) ?_ | refine r_eq ?_)
  k_with "compareOp NotEq str str" => (k_here; first | refine r_ne_t (by assumption) ?_ | refine r_ne_f (by assumption) ?_ | refine r_ne ?_)
  k_with "compareOp Eq str str" => (k_here; first | refine r_eqx_f (by with_reducible assumption) ?_ | refine r_eqx_t (by with_reducible assumption) ?_)
  k_with "ite" => (first | refine if_f ?_ | refine if_t ?_)
  k_with "subscriptTail Name Constant ref str" => (k_here; (with_reducible rename Fr _ _ _ _ => Fz); k_dflt (refine b_item_dict (Fz.keep _ _ (by with_reducible assumption)) (by with_reducible assumption) (by with_reducible assumption) ?_))
  k_with "subscriptTail Attribute Constant ref str" => (k_here; (with_reducible rename Fr _ _ _ _ => Fz); k_dflt (refine b_item_dict (Fz.keep _ _ (by with_reducible assumption)) (by with_reducible assumption) (by with_reducible assumption) ?_))
  k_with "subscriptTail Name Name ref str" => (k_here; (with_reducible rename Fr _ _ _ _ => Fz); k_dflt (refine b_item_dict (Fz.keep _ _ (by with_reducible assumption)) (by with_reducible assumption) (by with_reducible assumption) ?_))
  k_with "subscriptTail Attribute Name ref str" => (k_here; (with_reducible rename Fr _ _ _ _ => Fz); k_dflt (refine b_item_dict (Fz.keep _ _ (by with_reducible assumption)) (by with_reducible assumption) (by with_reducible assumption) ?_))
  k_with "exec If" => (k_here; with_reducible refine wpAny_If ?_)
  k_with "execs nil" => (k_here; with_reducible refine wpAny_execs_nil ?_)
  k_with "call builtin:str.replace" => (k_here; refine r_comma (by first | omega | ((show @Ne Nat _ _); omega) | ((try dsimp only); omega)) (by first | omega | ((show @Ne Nat _ _); omega) | ((try dsimp only); omega)) (by first | omega | ((show @Ne Nat _ _); omega) | ((try dsimp only); omega)) (by omega) ?_; intro t9 k9)
  k_with "call builtin:str.split" => (k_here; (with_reducible rename Fr _ _ _ _ => Fz); (with_reducible rename News _ _ _ _ => Nz); (k_dflt (refine r_split Fz Nz (by with_reducible assumption) (by with_reducible assumption) ?_)); clear Fz Nz; intro D9 vs9 h9 tk9 hT9 F9 N9 l9 l8; k_lt l9; k_lt2 l8)
  k_with "call ref" => (k_here; (with_reducible show wpAny _ _ (call (Value.ref 231) _ _) _ _ _); first | ((with_reducible rename Fr _ _ _ _ => Fz); (with_reducible rename News _ _ _ _ => Nz); (k_dflt (refine' length_spec' (rd_of ?B Fz ?X ?T rfl rfl ?d ?u) ?p0 ?p1 ?p2 ?p3 ?p4 ?p5 ?p6 ?p7 ?p8 ?p9 ?p10 ?_; (case B => assumption); (case X => assumption); (case T => assumption); (case d => (first | ((with_reducible apply dle); (with_reducible assumption); exact rfl) | omega)); (case u => (first | ((with_reducible apply ule); (with_reducible assumption); exact rfl) | omega)); (case p0 => (with_reducible assumption)); (case p1 => (first | exact Nz.get (by k_mem) | exact Fz.keep _ _ (by with_reducible assumption) | exact Fz.keep _ _ (by assumption) | exact Fz.keep _ _ ((by assumption : Frag.In _ _) _ _ (by k_is)))); (case p2 => (first | exact Nz.get (by k_mem) | exact Fz.keep _ _ (by with_reducible assumption) | exact Fz.keep _ _ (by assumption) | exact Fz.keep _ _ ((by assumption : Frag.In _ _) _ _ (by k_is)))); (case p3 => (first | with_reducible assumption | omega)); (case p4 => (first | with_reducible assumption | omega)); (case p5 => (first | with_reducible assumption | omega)); (case p6 => (first | with_reducible assumption | omega)); (case p7 => (first | with_reducible assumption | omega)); (case p8 => (first | with_reducible assumption | omega)); (case p9 => (first | with_reducible assumption | omega)); (case p10 => (first | with_reducible assumption | omega)); k_whole)); intro r9 t9 u9 h9 tk9 st9 hl9 hr9; k_dflt ((refine back1_k Fz Nz st9 hl9 hr9 ?_; intro F9 N9 l9 m9)); clear Fz Nz st9 hl9 hr9; (try k_lt l9); (try k_lt2 m9); (try dsimp only); (try k_fold)) | refine Stop.go ?_)
  k_with "call ref" => (k_here; (with_reducible show wpAny _ _ (call (Value.ref 266) _ _) _ _ _); first | ((with_reducible rename Fr _ _ _ _ => Fz); (with_reducible rename News _ _ _ _ => Nz); (k_dflt (refine' font_spec (rd_of ?B Fz ?X ?T rfl rfl ?d ?u) ?p0 ?p1 ?p2 ?p3 ?p4 ?p5 ?_; (case B => assumption); (case X => assumption); (case T => assumption); (case d => (first | ((with_reducible apply dle); (with_reducible assumption); exact rfl) | omega)); (case u => (first | ((with_reducible apply ule); (with_reducible assumption); exact rfl) | omega)); (case p0 => (first | exact Nz.get (by k_mem) | exact Fz.keep _ _ (by with_reducible assumption) | exact Fz.keep _ _ (by assumption) | exact Fz.keep _ _ ((by assumption : Frag.In _ _) _ _ (by k_is)))); (case p1 => (first | exact Nz.get (by k_mem) | exact Fz.keep _ _ (by with_reducible assumption) | exact Fz.keep _ _ (by assumption) | exact Fz.keep _ _ ((by assumption : Frag.In _ _) _ _ (by k_is)))); (case p2 => (first | exact Nz.get (by k_mem) | exact Fz.keep _ _ (by with_reducible assumption) | exact Fz.keep _ _ (by assumption) | exact Fz.keep _ _ ((by assumption : Frag.In _ _) _ _ (by k_is)))); (case p3 => (with_reducible assumption)); (case p4 => (with_reducible assumption)); (case p5 => (with_reducible assumption)); k_whole)); intro r9 t9 u9 h9 tk9 st9 hl9 hr9; k_dflt ((refine back1_k Fz Nz st9 hl9 hr9 ?_; intro F9 N9 l9 m9)); clear Fz Nz st9 hl9 hr9; (try k_lt l9); (try k_lt2 m9); (try dsimp only); (try k_fold)) | refine Stop.go ?_)
  trivial
theorem lengths_spec {w : World} {A : Around} {s : Shared} {x dx dv : Addr} {o : Obj} {kvs : List (Str × Value)} {hh : Int} {kk : Tok} {nm : Str} {tn tl tf : Tok} {l lf : List Nat} {w1 w2 f1 f2 : Int} {wa : Addr} {tw tw' : Tok} {ws : List (List Nat)} {ds : List (Int × Int)} {Q E : Value → Shared → Prop}
    (R : Rd (hd.heap_1 w.params) 10 A s.heap s) (hx : s.heap.get? x = some (instObj 328 dx)) (hdx : s.heap.get? dx = some (lookD dv hh kk)) (hdv : s.heap.get? dv = some o) (hdo : o.IsDictOf (PySem.strKind PySem.Challenge.rw_pf0197_01.row.prog w) kvs) (hw : s.heap.get? wa = some (tup2 w1 w2 tw tw')) (hval : valueAt kvs nm = some (.str (S l) tl)) (hvalf : valueAt kvs (Str.ofString "font-size") = some (.str (S lf) tf)) (hRf : Reads lf 16 1 16 1 f1 f2) (hlen : l.length ≤ 900) (hlen2 : (subL 44 [32] l).length ≤ 1000) (hne1 : S l ≠ Str.ofString "none") (hne2 : S l ≠ Str.ofString "") (hws : Txt.words (S (subL 44 [32] l)) = ws.map S) (hws3 : ws.length ≤ 3) (hwsn : ∀ y ∈ ws, S y ≠ Str.ofString "") (hall : All2 (fun y d => Reads y w1 w2 f1 f2 d.1 d.2) ws ds) (hw10 : -1000000000000000000000000000000 < w1) (hw11 : w1 < 1000000000000000000000000000000) (hw20 : 0 < w2) (hw21 : w2 < 1000000000000000000000000000000) (hf10 : -1000000000000000000000000000000 < f1) (hf11 : f1 < 1000000000000000000000000000000) (hf20 : 0 < f2) (hf21 : f2 < 1000000000000000000000000000000)
    (hret : ∀ r rs h' tk', s.heap.StaysIn h' → s.heap.objs.size ≤ r → h'.get? r = some (tupR rs) → All2 (fun r d => s.heap.objs.size ≤ r ∧ ∃ t t', h'.get? r = some (tup2 d.1 d.2 t t')) rs ds → Q (.ref r) { s with heap := h', toks := tk' }) :
    wpAny (model PySem.Challenge.rw_pf0197_01.row.prog w) A (call (.ref 282) [.ref x, .str nm tn, .ref wa] []) Q E s := by
  revert R; k_fill; intro R
  have hsz := R.sz
  refine' enterC (news := []) (args := ⟨[.ref x, .str nm tn, .ref wa], []⟩) (binds := [(Str.ofString "self", .ref x), (Str.ofString "name", .str nm tn), (Str.ofString "whole", .ref wa)]) R ?foot ?ho ?hcd ?hbind ?hkind ?hnd ?h ?hco ?hgen ?hk
  case foot => intro p hp; cases hp
  case ho => k_is
  case hcd => k_is
  case hbind => exact binds_K (R.X.keeps R.st) rfl (by k_is) rfl rfl rfl
  case hkind => exact rfl
  case hnd => decide +kernel
  case hco => exact rfl
  case hgen => exact rfl
  case hk => exact rfl
  clear R
  intro base dp un outer p loose mean mg mb L h₁ tk0 cells F' N' Y' B' X' T' hDp hUn hl hs
  k_cells Y'
  (try k_lt hl)
  (try simp only [List.cons_append, List.nil_append] at N')
  (try dsimp only); (try k_fold)
  k_steps
  refine Stop.out ?_
  (with_reducible rename Fr _ _ _ _ => Fz)
  (with_reducible rename News _ _ _ _ => Nz)
  rename TextsAre _ _ => hT
  rename List Value => vs
  have hvl := texts_len hT
  refine LCt.CompSrcT.ledger rfl Fz Nz (List.mem_cons_self ..) (by rw [List.size_toArray, sizeLine_eq]; omega) ?_
  intro g'
  refine restT_ind (n := vs.length) (fun i ys nw => ys = vs.take i ∧ nw = _) ?_ ?_ _ 0 [] _ (by rw [List.size_toArray]; exact Nat.zero_add _) ⟨rfl, rfl⟩
  · rintro i ys nw hi ⟨rfl, rfl⟩ v I oI C oC D m₂ h tk E' hP hC hx F N off ne
    have hv : v ∈ vs := by rw [List.getElem?_toArray] at hP; exact List.mem_of_getElem? hP
    obtain ⟨y, ty, rfl, hy⟩ := texts_mem hT hv
    have hyn := hwsn y hy
    clear Fz Nz
    k_steps
    refine Stop.out ?_
    (with_reducible rename Fr _ _ _ _ => Fz)
    (with_reducible rename News _ _ _ _ => Nz)
    rw [List.getElem?_toArray] at hP
    exact LCg.CompEnd.intro Fz Nz _ (fun _ hp => hp) off (Or.inr ⟨_, List.mem_cons_self .., rfl, _, rfl⟩) ⟨by rw [List.take_add_one, hP]; rfl, rfl⟩
  · rintro ys nw ⟨rfl, rfl⟩
    unfold LCg.FinA
    intro D2 h2 tk2 F2 N2 o2
    rw [List.take_length] at N2
    clear Fz Nz
    (try dsimp only)
    k_steps
    refine Stop.out ?_
    (with_reducible rename Fr _ _ _ _ => Fz)
    (with_reducible rename News _ _ _ _ => Nz)
    refine LCg.CompSrc.ledger rfl Fz Nz (List.mem_cons_self ..) (by rw [List.size_toArray, sizeLine_eq]; omega) ?_
    intro g2
    have hdl := hall.len
    have hdl' : ds.take vs.length = ds := by rw [hvl, hdl, List.take_length]
    refine rest_ind (n := vs.length) (fun i ys nw => ∃ rs made, ys = rs.map Value.ref ∧ nw = _ :: _ :: _ :: _ :: made ∧ All2 (fun r d => s.heap.objs.size ≤ r ∧ ∃ t t', (r, tup2 d.1 d.2 t t') ∈ made) rs (ds.take i)) ?_ ?_ _ 0 [] _ (by rw [List.size_toArray]; exact Nat.zero_add _) ⟨[], [], rfl, rfl, .nil⟩
    · rintro i ys nw hi ⟨rs, made, rfl, rfl, hA⟩ v I oI C oC D m₂ h tk E' hP hC hx F N off ne
      rw [List.getElem?_toArray] at hP
      obtain ⟨y, ty, rfl, hy⟩ := texts_get hT hP
      have hi2 : i < ds.length := by omega
      have hd := List.getElem?_eq_getElem hi2
      have hR := hall.get hy hd
      generalize ds[i] = d at hR hd
      clear Fz Nz hall hT
      k_steps
      refine Stop.out ?_
      (with_reducible rename Fr _ _ _ _ => Fz)
      (with_reducible rename News _ _ _ _ => Nz)
      refine LCg.CompEnd.intro Fz Nz (_ :: _ :: _ :: _ :: (r9, tup2 d.1 d.2 t9 u9) :: made) ?_ ⟨off.1, off.2.1, off.2.2.1, off.2.2.2.1, ⟨by k_ne, by k_ne, by k_ne⟩, off.2.2.2.2⟩ (Or.inr ⟨_, List.mem_cons_self .., rfl, _, rfl⟩) ⟨rs ++ [r9], (r9, tup2 d.1 d.2 t9 u9) :: made, by rw [List.map_append]; rfl, rfl, ?_⟩
      · k_subL
      · rw [List.take_add_one, hd]
        exact (hA.mono fun r d ⟨h1, t, t', hm⟩ => ⟨h1, t, t', List.mem_cons_of_mem _ hm⟩).snoc ⟨under hs (by with_reducible assumption), _, _, List.mem_cons_self ..⟩
    · rintro ys nw ⟨rs, made, rfl, rfl, hA⟩
      unfold LCg.FinE
      intro D3 h3 tk3 F3 N3 o3
      rw [hdl'] at hA
      clear Fz Nz
      (try dsimp only)
      k_steps
      refine Stop.out ?_
      (with_reducible rename Fr _ _ _ _ => Fz)
      (with_reducible rename News _ _ _ _ => Nz)
      have hrl := hA.len
      refine kde_tupleOf Fz Nz ⟨_, (Nz _ (List.mem_cons_self ..)).1, rfl, _, rfl⟩ (by rw [List.size_toArray, List.length_map]; omega) rfl ?_
      intro Dt ht Ft Nt lt
      clear Fz Nz
      have hD0 : L + 1 < Dt := lt (L + 1, _) (by k_mem)
      have hDt : L < Dt := Nat.lt_of_succ_lt hD0
      exact hret _ _ _ _ Ft.keep (under hs hDt) (Nt.get (List.mem_cons_self ..)) (hA.mono fun r d ⟨h1, t, t', hm⟩ => ⟨h1, t, t', (Nt _ (.tail _ (.tail _ (.tail _ (.tail _ (.tail _ (.tail _ hm))))))).1⟩)
theorem lengths0_spec {w : World} {A : Around} {s : Shared} {x dx dv : Addr} {o : Obj} {kvs : List (Str × Value)} {hh : Int} {kk : Tok} {nm : Str} {tn tl : Tok} {l : List Nat} {wa : Addr} {Q E : Value → Shared → Prop}
    (R : Rd (hd.heap_1 w.params) 10 A s.heap s) (hx : s.heap.get? x = some (instObj 328 dx)) (hdx : s.heap.get? dx = some (lookD dv hh kk)) (hdv : s.heap.get? dv = some o) (hdo : o.IsDictOf (PySem.strKind PySem.Challenge.rw_pf0197_01.row.prog w) kvs) (hval : valueAt kvs nm = some (.str (S l) tl)) (h0 : S l = Str.ofString "none" ∨ S l = Str.ofString "")
    (hret : ∀ r h' tk', s.heap.StaysIn h' → s.heap.objs.size ≤ r → h'.get? r = some (tupR []) → Q (.ref r) { s with heap := h', toks := tk' }) :
    wpAny (model PySem.Challenge.rw_pf0197_01.row.prog w) A (call (.ref 282) [.ref x, .str nm tn, .ref wa] []) Q E s := by
  revert R; k_fill; intro R
  have hsz := R.sz
  refine' enterC (news := []) (args := ⟨[.ref x, .str nm tn, .ref wa], []⟩) (binds := [(Str.ofString "self", .ref x), (Str.ofString "name", .str nm tn), (Str.ofString "whole", .ref wa)]) R ?foot ?ho ?hcd ?hbind ?hkind ?hnd ?h ?hco ?hgen ?hk
  case foot => intro p hp; cases hp
  case ho => k_is
  case hcd => k_is
  case hbind => exact binds_K (R.X.keeps R.st) rfl (by k_is) rfl rfl rfl
  case hkind => exact rfl
  case hnd => decide +kernel
  case hco => exact rfl
  case hgen => exact rfl
  case hk => exact rfl
  clear R
  intro base dp un outer p loose mean mg mb L h₁ tk0 cells F' N' Y' B' X' T' hDp hUn hl hs
  k_cells Y'
  (try k_lt hl)
  (try simp only [List.cons_append, List.nil_append] at N')
  (try dsimp only); (try k_fold)
  rcases h0 with h1 | h1
  · k_steps
    (with_reducible rename Fr _ _ _ _ => Fz)
    (with_reducible rename News _ _ _ _ => Nz)
    exact hret _ _ _ Fz.keep (under hs (by with_reducible assumption)) (Nz.get (List.mem_cons_self ..))
  · have h2 : S l ≠ Str.ofString "none" := by rw [h1]; decide +kernel
    k_steps
    (with_reducible rename Fr _ _ _ _ => Fz)
    (with_reducible rename News _ _ _ _ => Nz)
    exact hret _ _ _ Fz.keep (under hs (by with_reducible assumption)) (Nz.get (List.mem_cons_self ..))
theorem lengths_all {w : World} {A : Around} {s : Shared} {x dx dv : Addr} {o : Obj} {kvs : List (Str × Value)} {hh : Int} {kk : Tok} {nm : Str} {tn tl tf : Tok} {l lf : List Nat} {w1 w2 f1 f2 : Int} {wa : Addr} {tw tw' : Tok} {ws : List (List Nat)} {ds : List (Int × Int)} {Q E : Value → Shared → Prop}
    (R : Rd (hd.heap_1 w.params) 10 A s.heap s) (hx : s.heap.get? x = some (instObj 328 dx)) (hdx : s.heap.get? dx = some (lookD dv hh kk)) (hdv : s.heap.get? dv = some o) (hdo : o.IsDictOf (PySem.strKind PySem.Challenge.rw_pf0197_01.row.prog w) kvs) (hw : s.heap.get? wa = some (tup2 w1 w2 tw tw')) (hval : valueAt kvs nm = some (.str (S l) tl)) (hvalf : valueAt kvs (Str.ofString "font-size") = some (.str (S lf) tf)) (hRf : Reads lf 16 1 16 1 f1 f2)
    (hc : (ds = [] ∧ (S l = Str.ofString "none" ∨ S l = Str.ofString "")) ∨ (l.length ≤ 900 ∧ (subL 44 [32] l).length ≤ 1000 ∧ S l ≠ Str.ofString "none" ∧ S l ≠ Str.ofString "" ∧ Txt.words (S (subL 44 [32] l)) = ws.map S ∧ ws.length ≤ 3 ∧ (∀ y ∈ ws, S y ≠ Str.ofString "") ∧ All2 (fun y d => Reads y w1 w2 f1 f2 d.1 d.2) ws ds)) (hw10 : -1000000000000000000000000000000 < w1) (hw11 : w1 < 1000000000000000000000000000000) (hw20 : 0 < w2) (hw21 : w2 < 1000000000000000000000000000000) (hf10 : -1000000000000000000000000000000 < f1) (hf11 : f1 < 1000000000000000000000000000000) (hf20 : 0 < f2) (hf21 : f2 < 1000000000000000000000000000000)
    (hret : ∀ r rs h' tk', s.heap.StaysIn h' → s.heap.objs.size ≤ r → h'.get? r = some (tupR rs) → All2 (fun r d => s.heap.objs.size ≤ r ∧ ∃ t t', h'.get? r = some (tup2 d.1 d.2 t t')) rs ds → Q (.ref r) { s with heap := h', toks := tk' }) :
    wpAny (model PySem.Challenge.rw_pf0197_01.row.prog w) A (call (.ref 282) [.ref x, .str nm tn, .ref wa] []) Q E s := by
  rcases hc with ⟨rfl, h0⟩ | ⟨h1, h2, h3, h4, h5, h6, h7, h8⟩
  · exact lengths0_spec R hx hdx hdv hdo hval h0 fun r h' tk' a b c => hret r [] h' tk' a b c .nil
  · exact lengths_spec R hx hdx hdv hdo hw hval hvalf hRf h1 h2 h3 h4 h5 h6 h7 h8 hw10 hw11 hw20 hw21 hf10 hf11 hf20 hf21 hret
end Mine
end
section --N7
namespace Mine
noncomputable def plainSign (c : Nat) : Prop := Unicode.isSpace c = false ∧ c ≠ 44 ∧ c ≠ 32
theorem num_sign {c : Nat} (h : c = 43 ∨ c = 45 ∨ c = 46 ∨ (48 ≤ c ∧ c ≤ 57) ∨ c = 69 ∨ c = 101) : plainSign c := ⟨num_nosp h, by k_extra "a9", by k_extra "a9"⟩
theorem unit_sign {ul : List Nat} {a b : Int} (h : (S ul, a, b) ∈ unitsT) : ∀ c ∈ ul, plainSign c := by
  have z : ∀ u ∈ ([[], [37], [112,120],[112,116],[112,99],[109,109],[99,109],[105,110],[101,109]] : List (List Nat)), ∀ c ∈ u, Unicode.isSpace c = false ∧ c ≠ 44 ∧ c ≠ 32 := by decide +kernel
  refine z ul ?_
  rcases units_cases h with e | e | e
  · rw [e]; simp
  · exact List.mem_cons_of_mem _ (List.mem_cons_of_mem _ e)
  · rw [e]; simp
theorem len_clean {l : List Nat} {w f d : Int × Int} (h : LenOf l w f d) : LenOf (subL 32 [] l) w f d ∧ subL 32 [] l ≠ [] ∧ (∀ c ∈ subL 32 [] l, plainSign c) ∧ (subL 32 [] l).head? ≠ some 110 := by
  obtain ⟨nl, p, q, pre, gap, ul, a, b, hn, hp, hg, hu, rfl, hd⟩ := h
  obtain ⟨h1, h2, h3, h4, h5, h6, h7, h8⟩ := num_facts hn
  have hnl : ∀ c ∈ nl, plainSign c := fun c hc => num_sign (h6 c hc)
  have hul := unit_sign hu
  have en : subL 32 [] nl = nl := subL_free 32 [] nl fun hm => (hnl 32 hm).2.2 rfl
  have eu : subL 32 [] ul = ul := subL_free 32 [] ul fun hm => (hul 32 hm).2.2 rfl
  have ep : subL 32 [] pre = [] := by
    simp only [List.mem_cons, List.not_mem_nil, or_false] at hp
    rcases hp with rfl | rfl <;> rfl
  have eg : subL 32 [] gap = [] := by
    simp only [List.mem_cons, List.not_mem_nil, or_false] at hg
    rcases hg with rfl | rfl | rfl <;> rfl
  have e : subL 32 [] (pre ++ nl ++ gap ++ ul ++ gap) = nl ++ ul := by simp only [subL_app, en, eu, ep, eg, List.nil_append, List.append_nil]
  have hne := (num_ends h6 h7).1
  rw [e]
  refine ⟨⟨nl, p, q, [], [], ul, a, b, hn, by simp, by simp, hu, by simp, hd⟩, fun q => hne (List.append_eq_nil_iff.mp q).1, fun c hc => ?_, ?_⟩
  · rcases List.mem_append.mp hc with hc | hc
    · exact hnl c hc
    · exact hul c hc
  · cases nl with
    | nil => exact absurd rfl hne
    | cons c r =>
      have := h6 c (List.mem_cons_self ..)
      simp only [List.cons_append, List.head?_cons, ne_eq, Option.some.injEq]
      k_extra "a9"
theorem gap_blanks {gl : List Nat} (h : gl ∈ ([[44], [32], [32, 44, 32]] : List (List Nat))) : (∃ k, subL 44 [32] gl = List.replicate (k + 1) 32) ∧ gl.length ≤ 3 := by
  simp only [List.mem_cons, List.not_mem_nil, or_false] at h
  rcases h with rfl | rfl | rfl
  · exact ⟨⟨0, rfl⟩, by decide⟩
  · exact ⟨⟨0, rfl⟩, by decide⟩
  · exact ⟨⟨2, rfl⟩, by decide⟩
theorem list_text {gl : List Nat} {ws : List (List Nat)} (hg : gl ∈ ([[44], [32], [32, 44, 32]] : List (List Nat))) (hn : ws ≠ []) (h3 : ws.length ≤ 3) (h25 : ∀ w ∈ ws, w.length ≤ 25)
    (h : ∀ w ∈ ws, w ≠ [] ∧ (∀ c ∈ w, plainSign c) ∧ w.head? ≠ some 110) :
    (glL gl ws).length ≤ 900 ∧ (subL 44 [32] (glL gl ws)).length ≤ 1000 ∧ S (glL gl ws) ≠ Str.ofString "none" ∧ S (glL gl ws) ≠ Str.ofString "" ∧
      Txt.words (S (subL 44 [32] (glL gl ws))) = ws.map S ∧ ∀ w ∈ ws, S w ≠ Str.ofString "" := by
  obtain ⟨⟨k, hk⟩, hgl⟩ := gap_blanks hg
  have hl := glL_len hgl ws h25
  have hl2 : ws.length * (25 + 3) ≤ 3 * 28 := Nat.mul_le_mul h3 (Nat.le_refl _)
  have hw : subL 44 [32] (glL gl ws) = glL (List.replicate (k + 1) 32) ws := by rw [subL_gl 44 [32] gl ws fun w hw hm => ((h w hw).2.1 44 hm).2.1 rfl, hk]
  have hhead : (glL gl ws).head? ≠ some 110 ∧ glL gl ws ≠ [] := by
    cases ws with
    | nil => exact absurd rfl hn
    | cons w r =>
      have hw0 := h w (List.mem_cons_self ..)
      cases w with
      | nil => exact absurd rfl hw0.1
      | cons c w' =>
        have hc := hw0.2.2
        cases r with
        | nil => exact ⟨hc, List.cons_ne_nil _ _⟩
        | cons v r' => exact ⟨hc, List.cons_ne_nil _ _⟩
  have en : Str.ofString "none" = S [110, 111, 110, 101] := by decide +kernel
  refine ⟨by k_extra "a9", by rw [subL_len]; k_extra "a9", fun e => ?_, fun e => ?_, by rw [hw]; exact words_gl hn fun w hw => ⟨(h w hw).1, fun c hc => ((h w hw).2.1 c hc).1⟩, fun w hw e => ?_⟩
  · rw [en] at e
    exact hhead.1 (by rw [S_inj e]; rfl)
  · rw [lit_empty] at e
    exact hhead.2 (S_inj e)
  · rw [lit_empty] at e
    exact (h w hw).1 (S_inj e)
end Mine
end
section --N8
namespace Mine
theorem reads_three : Reads [51] 16 1 16 1 3 1 := by
  refine ⟨[51], S [], 3, 1, by decide +kernel, by decide +kernel, by decide, by decide, by decide +kernel, fun _ => by decide +kernel⟩
theorem all2_map {α β γ : Type} {R : β → γ → Prop} {f : α → β} {k : α → γ} : ∀ {l : List α}, (∀ a ∈ l, R (f a) (k a)) → All2 R (l.map f) (l.map k)
  | [], _ => .nil
  | a :: r, h => .cons (h a (List.mem_cons_self ..)) (all2_map fun b hb => h b (List.mem_cons_of_mem _ hb))
theorem els_read {es : List El} {gl l : List Nat} (h3 : es.length ≤ 3) (hes : ∀ e ∈ es, LenOf e.l (10, 1) (3, 1) (e.p, e.q)) (hg : gl ∈ ([[44], [32], [32, 44, 32]] : List (List Nat)))
    (hc : (es = [] ∧ (S l = Str.ofString "none" ∨ S l = Str.ofString "")) ∨ (es ≠ [] ∧ l = glL gl (es.map fun e => subL 32 [] e.l))) :
    ((es.map fun e => (e.p, e.q)) = [] ∧ (S l = Str.ofString "none" ∨ S l = Str.ofString "")) ∨ (l.length ≤ 900 ∧ (subL 44 [32] l).length ≤ 1000 ∧ S l ≠ Str.ofString "none" ∧ S l ≠ Str.ofString "" ∧ Txt.words (S (subL 44 [32] l)) = (es.map fun e => subL 32 [] e.l).map S ∧ (es.map fun e => subL 32 [] e.l).length ≤ 3 ∧
      (∀ y ∈ (es.map fun e => subL 32 [] e.l), S y ≠ Str.ofString "") ∧ All2 (fun y d => Reads y 10 1 3 1 d.1 d.2) (es.map fun e => subL 32 [] e.l) (es.map fun e => (e.p, e.q))) := by
  rcases hc with ⟨rfl, h⟩ | ⟨hn, rfl⟩
  · exact Or.inl ⟨rfl, h⟩
  · have rd : ∀ e ∈ es, Reads (subL 32 [] e.l) 10 1 3 1 e.p e.q ∧ (subL 32 [] e.l).length ≤ 25 := fun e he => by
      have := len_reads (w1 := 10) (w2 := 1) (f1 := 3) (f2 := 1) 10000 1000 (len_clean (hes e he)).1 (by decide) (by decide) (by decide) (by decide) (by decide) (by decide) (by decide) (by decide) (by decide) (by decide) (by decide) (by decide)
      exact ⟨this.1, this.2.2.2.2.2⟩
    obtain ⟨a1, a2, a3, a4, a5, a6⟩ := list_text (gl := gl) (ws := es.map fun e => subL 32 [] e.l) hg (fun q => hn (List.map_eq_nil_iff.mp q)) (by rw [List.length_map]; exact h3)
      (fun w hw => by obtain ⟨e, he, rfl⟩ := List.mem_map.mp hw; exact (rd e he).2)
      (fun w hw => by obtain ⟨e, he, rfl⟩ := List.mem_map.mp hw; exact (len_clean (hes e he)).2)
    exact Or.inr ⟨a1, a2, a3, a4, a5, by rw [List.length_map]; exact h3, a6, all2_map fun e he => (rd e he).1⟩
theorem made_of {h : Heap} {n : Nat} {rs : List Addr} {ds : List (Int × Int)} (k : All2 (fun r d => n ≤ r ∧ ∃ t t', h.get? r = some (tup2 d.1 d.2 t t')) rs ds) :
    ∃ made : List (Addr × Obj), (∀ q ∈ made, h.get? q.1 = some q.2 ∧ n ≤ q.1) ∧ All2 (fun r d => ∃ t t', (r, tup2 d.1 d.2 t t') ∈ made) rs ds := by
  induction k with
  | nil => exact ⟨[], (fun q hq => absurd hq List.not_mem_nil), .nil⟩
  | @cons r d _ _ x _ ih =>
    obtain ⟨hn, t, t', e⟩ := x
    obtain ⟨made, h1, h2⟩ := ih
    refine ⟨(r, tup2 d.1 d.2 t t') :: made, fun q hq => ?_, .cons ⟨t, t', .head _⟩ (h2.mono fun a b x => x.elim fun t x => x.elim fun t' m => ⟨t, t', .tail _ m⟩)⟩
    rcases List.mem_cons.mp hq with rfl | hq
    · exact ⟨e, hn⟩
    · exact h1 q hq
theorem newsOf {h₀ h h' : Heap} {L : Addr} {m : Str → Option Value} {made news : List (Addr × Obj)} (F : Fr h₀ L h m) (N : News h₀ L h' news) (hm : ∀ q ∈ made, h'.get? q.1 = some q.2 ∧ h.objs.size ≤ q.1) : News h₀ L h' (news ++ made) := fun q hq => by
  rcases List.mem_append.mp hq with hq | hq
  · exact N q hq
  · obtain ⟨e, hl⟩ := hm q hq
    refine ⟨e, fun e' => ?_, ?_⟩
    · obtain ⟨oL, _, _, hL, _⟩ := F.ns
      exact Nat.lt_irrefl _ (Nat.lt_of_lt_of_le (Heap.lt_size hL) (Nat.le_trans hl (Nat.le_of_eq e')))
    · cases z : h₀.get? q.1 with
      | none => rfl
      | some o' => exact absurd (Nat.lt_of_lt_of_le (Heap.lt_size (F.keep _ _ z)) hl) (Nat.lt_irrefl _)
end Mine
end
section --C25
set_option maxHeartbeats 1600000
namespace Mine
theorem lnC25a : True := by
  k_with_none
  k_with "a1" => (first | with_reducible assumption | ((with_reducible apply Mine.ltm); (with_reducible assumption); k_mem))
  k_with "a2" => (first | with_reducible exact Mine.lss | with_reducible exact Mine.ltp (by assumption) | with_reducible exact Mine.ltp (Mine.ltp (by assumption)) | with_reducible exact Mine.ltp (Mine.ltp (Mine.ltp (by assumption))) | ((with_reducible refine Mine.lts ?_); first | with_reducible exact Mine.lss | k_memK) | ((with_reducible refine Mine.lts (Mine.lts ?_)); first | with_reducible exact Mine.lss | k_memK) | ((with_reducible refine Mine.lts (Mine.lts (Mine.lts ?_))); k_memK))
  k_with "a3" => (first | k_cls | ((with_reducible apply Mine.ltr); (with_reducible assumption); first | k_memK | k_cls) | ((with_reducible apply Mine.ltr); (with_reducible exact Mine.ltp (by assumption)); first | k_memK | k_cls))
  k_with "a4" => (first | with_reducible exact Mine.neAll (by assumption) | with_reducible exact Mine.neNil | ((with_reducible refine Mine.neCons ?_ ?_); k_ne; k_all))
  k_with "a5" => (first | with_reducible exact Mine.subNil | with_reducible exact Mine.subSame | ((with_reducible refine Mine.subCons ?_ ?_); k_mem; k_subL) | ((with_reducible refine Mine.subApp ?_ ?_); k_subL; k_subL) | ((with_reducible refine Mine.subTail ?_); k_subL))
  k_with "a6" => (first | with_reducible assumption | ((with_reducible show @Ne Nat _ _); first | ((with_reducible refine Mine.nlt ?_); k_memK) | ((with_reducible refine Mine.ngt ?_); k_memK) | (with_reducible exact Ne.symm (by assumption)) | ((with_reducible refine Mine.nlt ?_); k_types) | ((with_reducible refine Mine.ngt ?_); k_types)) | ((with_reducible apply Mine.dq0); (with_reducible assumption); decide) | ((with_reducible apply Mine.dq1); (with_reducible assumption); decide) | ((with_reducible apply Mine.dq2); (with_reducible assumption); decide) | ((with_reducible apply Mine.dq3); (with_reducible assumption); decide) | ((with_reducible apply Mine.dq4); (with_reducible assumption); decide) | ((with_reducible first | apply Mine.il1 | apply Mine.il3); (with_reducible assumption); decide) | ((with_reducible first | apply Mine.il2 | apply Mine.il4); (with_reducible assumption); decide) | ((with_reducible first | apply Mine.iu1 | apply Mine.iu3); (with_reducible assumption); decide) | ((with_reducible first | apply Mine.iu2 | apply Mine.iu4); (with_reducible assumption); decide) | ((with_reducible first | apply Mine.nl3 | apply Mine.nl2); (with_reducible assumption); decide) | ((with_reducible first | apply Mine.nu1 | apply Mine.nu3); (with_reducible assumption); decide) | ((with_reducible first | apply Mine.nu2 | apply Mine.nu4); (with_reducible assumption); decide) | ((with_reducible show @LT.lt Nat _ _ _); first | k_memK | k_types) | decide)
  k_with "a7" => (repeat (rename ∀ _ ∈ (_ : List (Addr × Obj)), @LT.lt Nat _ _ _ => hrw; replace hrw := allLt_of hrw; dsimp only [AllLt] at hrw))
  k_with "a8" => (first | (k_whole; kc_bool) | omega +splitDisjunctions | (k_whole; k_units; omega +splitDisjunctions))
  k_with "a9" => (first | (k_whole; kc_bool) | lia | omega +splitDisjunctions)
  k_with "eval Call" => ((fail_if_success (fail_if_success k_fold)); refine foldL ?_; intro qk ek; walk1)
  k_with "eval BinOp" => ((fail_if_success (fail_if_success k_fold)); refine foldL ?_; intro qk ek; walk1)
  k_with "eval Tuple" => ((fail_if_success (fail_if_success k_fold)); refine foldL ?_; intro qk ek; walk1)
  k_with "isTrue Compare" => ((fail_if_success (fail_if_success k_fold)); refine foldL ?_; intro qk ek; walk1)
  k_with "eval Subscript" => ((fail_if_success (fail_if_success k_fold)); refine foldL ?_; intro qk ek; walk1)
  k_with "exec Assign" => ((fail_if_success (fail_if_success k_fold)); refine foldL ?_; intro qk ek; walk1)
  k_with "eval List" => ((fail_if_success (fail_if_success k_fold)); refine foldL ?_; intro qk ek; walk1)
  k_with "eval Attribute" => ((fail_if_success (fail_if_success k_fold)); refine foldL ?_; intro qk ek; walk1)
  k_with "eval UnaryOp" => ((fail_if_success (fail_if_success k_fold)); refine foldL ?_; intro qk ek; walk1)
  k_with "callWith ref" => ((fail_if_success (fail_if_success k_fold)); refine foldL ?_; intro qk ek; walk1)
  k_with "callWith" => ((fail_if_success (fail_if_success k_fold)); refine foldL ?_; intro qk ek; walk1)
  k_with "eval Constant str" => (k_here; (with_reducible show wpAny _ _ (eval (PySem.Expr.Constant (PySem.Const.str (Str.ofString _)) _ _) _) _ _ _); (refine' const_litP ?eLP9 ?_; (case eLP9 => first | with_reducible exact lit_empty | with_reducible exact lit_none | with_reducible exact lit_three | with_reducible exact lit_dot | with_reducible exact lit_5 | with_reducible exact lit_25 | with_reducible exact lit_125 | with_reducible exact lit_minus | with_reducible exact lit_plus | with_reducible exact lit_e1 | with_reducible exact lit_em1 | with_reducible exact lit_E2 | with_reducible exact lit_em6 | with_reducible exact lit_pct | with_reducible exact lit_sp | with_reducible exact lit_comma | with_reducible exact lit_spcomma)))
  k_with "exec Assign cons ListComp" => (k_here; lct_look; k_dflt (refine LCt.Assign_ListComp_T (F₀ := by k_asm) (by rfl) (by with_unfolding_all rfl) (by with_unfolding_all rfl) (by decide) (by rfl) (by decide) (by rfl) (by rfl) (by rfl) ?_))
  k_with "exec Assign cons ListComp" => (k_here; (fail_if_success lct_look); k_dflt (refine LCg.Assign_ListComp_U (F₀ := by k_asm) (by rfl) (by with_unfolding_all rfl) (by with_unfolding_all rfl) (by decide) (by rfl) (by decide) (by rfl) (by rfl) (by rfl) ?_))
  k_with "eval ListComp" => (k_here; (fail_if_success lct_look); k_dflt (refine LCg.ListComp_U (F₀ := by k_asm) (by with_unfolding_all rfl) (by decide) (by rfl) (by decide) (by rfl) ?_))
  k_with "CompSrcT" => (refine Stop.go ?_)
  k_with "CompSrc" => (refine Stop.go ?_)
  k_with "CompEnd" => (refine Stop.go ?_)
  k_with "call ref" => (k_here; (with_reducible show wpAny _ _ (call (Value.ref 328) _ _) _ _ _); ((with_reducible rename Fr _ _ _ _ => Fz); (with_reducible rename News _ _ _ _ => Nz); (k_dflt (refine' make_look Fz Nz ?B ?X ?T ?d ?u rfl rfl ?_; (case B => assumption); (case X => assumption); (case T => assumption); (case d => (first | ((with_reducible apply dle); (with_reducible assumption); exact rfl) | omega)); (case u => (first | ((with_reducible apply ule); (with_reducible assumption); exact rfl) | omega)); k_whole)); clear Fz Nz; intro x9 dx9 h9 tk9 hh9 kk9 F9 N9 l9 l8; k_lt l9; k_lt2 l8; (try dsimp only); (try k_fold)))
  k_with "exec While" => (k_here; refine Stop.go ?_)
  k_with "newTuple" => (k_here; k_dflt (refine' newTuple_mine ?k1 ?k2 ?_ ?k3; (case k1 => k_asm); (case k2 => k_asm); (case k3 => first | decide | (exact Nat.le_of_ble_eq_true rfl) | (simp only [sizeLine_eq]; simp))); intro D' h' F' N' l1 l2; (try k_lt l1); (try k_lt2 l2); (try k_sweep))
  k_with "call builtin:len" => (k_here; refine r_len (by first | omega | (simp only [List.length_append, List.length_cons, List.length_nil]; omega)) ?_; intro t9 k9)
  k_with "subscriptTail Attribute Attribute str int" => (k_here; (with_reducible show wpAny _ _ (subscriptTail _ _ (Value.str (S _) _) (Value.int _ _)) _ _ _); k_dflt (refine r_item (by omega) (by omega) (by omega) ?_); intro t9 k9)
  k_with "compareOp In str str" => (k_here; refine r_in ?_)
  k_with "subscriptTail Attribute Slice str ref" => (k_here; (with_reducible show wpAny _ _ (subscriptTail _ (Expr.Slice (some _) (some _) none _) (Value.str (S _) _) (Value.ref _)) _ _ _); (with_reducible rename Fr _ _ _ _ => Fz); (with_reducible rename News _ _ _ _ => Nz); k_dflt (refine r_slice (s := ⟨_, _, _, _, _⟩) Fz Nz (by omega) (by omega) (by omega) (by omega) ?_); intro h9 t9 k9 F9 N9; (try k_sweep))
  k_with "compareOp Eq str str" => (k_here; first | refine r_eq_f (by assumption) ?_ | refine r_eq_t (by assumption) ?_ | refine r_eq ?_)
  k_with "compareOp NotEq str str" => (k_here; first | refine r_ne_t (by assumption) ?_ | refine r_ne_f (by assumption) ?_ | refine r_ne ?_)
  k_with "subscriptTail Name Constant ref int" => (k_here; (with_reducible show wpAny _ _ (subscriptTail _ _ (Value.ref _) (Value.int 0 _)) _ _ _); k_dflt (refine p_item0 (by with_reducible assumption) ?_))
  k_with "subscriptTail Name Constant ref int" => (k_here; (with_reducible show wpAny _ _ (subscriptTail _ _ (Value.ref _) (Value.int 1 _)) _ _ _); k_dflt (refine p_item1 (by with_reducible assumption) ?_))
  k_with "call builtin:str.replace" => (k_here; (refine r_replace (by first | omega | ((show @Ne Nat _ _); omega) | ((try dsimp only); omega)) (by first | omega | ((show @Ne Nat _ _); omega) | ((try dsimp only); omega)) (by first | omega | ((show @Ne Nat _ _); omega) | ((try dsimp only); omega)) (by decide) (by omega) (by decide) ?_); intro t9 k9)
  k_with "compareOp NotEq ref ref" => (refine Stop.go ?_)
  k_with "compareOp Eq ref ref" => (refine Stop.go ?_)
  k_with "call ref" => (k_here; (with_reducible show wpAny _ _ (call (Value.ref 282) _ _) _ _ _); refine Stop.go ?_)
  k_with "call builtin:str.join" => (refine Stop.go ?_)
  k_with "call type:tuple" => (refine Stop.go ?_)
  k_with "newList" => (k_here; k_dflt (refine' newList_mine ?k1 ?k2 ?_ ?k3; (case k1 => k_asm); (case k2 => k_asm); (case k3 => first | decide | (exact Nat.le_of_ble_eq_true rfl) | (simp only [sizeLine_eq]; simp))); intro D' h' F' N' l1 l2; (try k_lt l1); (try k_lt2 l2); (try k_sweep))
  k_with "call ref" => (k_here; (with_reducible show wpAny _ _ (call (Value.ref 443) _ _) _ _ _); first | ((with_reducible rename Fr _ _ _ _ => Fz); (with_reducible rename News _ _ _ _ => Nz); (k_dflt (refine' take_spec (rd_hide ?B Fz Nz (sub1 ?M) ?X ?T rfl rfl ?d ?u) (foot1 Nz ?M2) ?p0 ?p1 ?p2 ?p3 ?p4 ?_; (case B => assumption); (case X => assumption); (case T => assumption); (case d => (first | ((with_reducible apply dle); (with_reducible assumption); exact rfl) | omega)); (case u => (first | ((with_reducible apply ule); (with_reducible assumption); exact rfl) | omega)); (case M => k_mem); (case M2 => k_mem); (case p0 => first | with_reducible assumption | omega); (case p1 => first | with_reducible assumption | omega); (case p2 => first | with_reducible assumption | omega); (case p3 => first | with_reducible assumption | omega); (case p4 => first | with_reducible assumption | omega); k_whole)); intro v9 tv9 a9 b9 ta9 tb9 h9 tk9 hv0 hv1 ha0 hb0 hb1 st9 hn9; k_dflt ((refine backU_k Fz Nz hn9 (by first | k_upd | ((repeat (refine Upd.tail (by k_ne) ?_)); exact Upd.head (by with_reducible assumption))) st9 ?_; intro F9 N9)); clear Fz Nz st9 hn9; (try dsimp only); (try k_fold)) | refine Stop.go ?_)
  k_with "call ref" => (k_here; (with_reducible show wpAny _ _ (call (Value.ref 450) _ _) _ _ _); first | ((with_reducible rename Fr _ _ _ _ => Fz); (with_reducible rename News _ _ _ _ => Nz); (k_dflt (refine' oneT_spec (rd_hide ?B Fz Nz (sub1 ?M) ?X ?T rfl rfl ?d ?u) (hid1 (Nz.get ?M3) ?ne) (foot1 Nz ?M2) ?p0 ?p1 ?p2 ?tx ?p3 ?p4 ?p5 ?_; (case B => assumption); (case X => assumption); (case T => assumption); (case d => (first | ((with_reducible apply dle); (with_reducible assumption); exact rfl) | omega)); (case u => (first | ((with_reducible apply ule); (with_reducible assumption); exact rfl) | omega)); (case M => k_mem); (case M2 => k_mem); (case M3 => k_mem); (case ne => first | with_reducible assumption | k_ne); (case p0 => (first | with_reducible assumption | omega)); (case p1 => (first | with_reducible assumption | omega)); (case p2 => (first | with_reducible assumption | omega)); (case tx => repeat constructor); (case p3 => decide); (case p4 => decide); (case p5 => decide); k_whole)); intro l9 t9 a9 b9 ta9 tb9 h9 tk9 ha0 hb0 hb1 st9 hn9 hl9 hll9; k_dflt ((refine backU_k Fz Nz hn9 (by first | k_upd | ((repeat (refine Upd.tail (by k_ne) ?_)); exact Upd.head (by with_reducible assumption))) st9 ?_; intro F9 N9)); clear Fz Nz st9 hn9; (try dsimp only); (try k_fold)) | refine Stop.go ?_)
  k_with "eval Dict" => (k_here; k_dflt (refine' kdn_str ?q ?F ?N ?b ?a ?l ?e ?n ?_; (case q => rfl); (case F => k_asm); (case N => k_asm); (case b => exact Top.nolimit (by k_asm)); (case a => rfl); (case l => rfl); (case e => exact List.cons_ne_nil _ _); (case n => exact Nat.le_of_ble_eq_true rfl)); intro d' h' o' F' N' l1 lo' hd'; (try k_lt l1); (try k_sweep))
  k_with "call ref" => (k_here; (with_reducible show wpAny _ _ (call (Value.ref 464) _ _) _ _ _); first | ((with_reducible rename Fr _ _ _ _ => Fz); (with_reducible rename News _ _ _ _ => Nz); (k_dflt (refine' lawlength_spec (rd_hide ?B Fz Nz (sub1 ?M) ?X ?T rfl rfl ?d ?u) ?hw ?hf (foot1 Nz ?M2) ?p0 ?p1 ?p2 ?q0 ?q1 ?q2 ?q3 ?q4 ?q5 ?q6 ?q7 ?_; (case B => assumption); (case X => assumption); (case T => assumption); (case d => (first | ((with_reducible apply dle); (with_reducible assumption); exact rfl) | omega)); (case u => (first | ((with_reducible apply ule); (with_reducible assumption); exact rfl) | omega)); (case M => k_mem); (case M2 => k_mem); (case hw => first | exact hid1 (Nz.get (by k_mem)) (by first | with_reducible assumption | k_ne) | exact hid1 (Fz.keep _ _ (by with_reducible assumption)) (by first | with_reducible assumption | k_ne)); (case hf => first | exact hid1 (Nz.get (by k_mem)) (by first | with_reducible assumption | k_ne) | exact hid1 (Fz.keep _ _ (by with_reducible assumption)) (by first | with_reducible assumption | k_ne)); (case p0 => first | with_reducible assumption | omega); (case p1 => first | with_reducible assumption | omega); (case p2 => first | with_reducible assumption | omega); (case q0 => first | with_reducible assumption | omega); (case q1 => first | with_reducible assumption | omega); (case q2 => first | with_reducible assumption | omega); (case q3 => first | with_reducible assumption | omega); (case q4 => first | with_reducible assumption | omega); (case q5 => first | with_reducible assumption | omega); (case q6 => first | with_reducible assumption | omega); (case q7 => first | with_reducible assumption | omega); k_whole)); intro l9 p9 q9 t9 u9 u8 r9 r8 a9 b9 ta9 tb9 h9 tk9 g1 g2 hn9 ha0 hb0 hb1 st9 hN9 s1 s2 ne9; k_dflt ((refine back2U_k Fz Nz hn9 (by first | k_upd | ((repeat (refine Upd.tail (by k_ne) ?_)); exact Upd.head (by with_reducible assumption))) st9 s1 s2 ne9 g1 g2 ?_; intro F9 N9 L1 L2 M1 M2)); clear Fz Nz st9 hn9 s1 s2 g1 g2; (try k_lt M1); (try k_lt M2); (try dsimp only); (try k_fold)) | refine Stop.go ?_)
  trivial
theorem lawlist_spec {w : World} {A : Around} {s : Shared} {x : Addr} {a b : Int} {ta tb : Tok} {g : Heap} {Q E : Value → Shared → Prop}
    (R : Rd (hd.heap_1 w.params) 12 A g s) (hfoot : ∀ p ∈ [(x, srcO a b ta tb)], s.heap.get? p.1 = some p.2 ∧ g.get? p.1 = none) (ha0 : 0 ≤ a) (hb0 : 0 ≤ b) (hb1 : b < 2147483647)
    (hret : ∀ c d tc td h' tk', h'.get? x = some (srcO c d tc td) → 0 ≤ c → 0 ≤ d → d < 2147483647 → g.StaysIn h' → Q (.bool true) {s with heap := h', toks := tk'}) :
    wpAny (model PySem.Challenge.rw_pf0197_01.row.prog w) A (call (.ref 490) [.ref x] []) Q E s := by
  revert R; k_fill; intro R
  have hsz := R.sz
  refine' enterC (news := [(x, srcO a b ta tb)]) (args := ⟨[.ref x], []⟩) (binds := [(Str.ofString "source", .ref x)]) R ?foot ?ho ?hcd ?hbind ?hkind ?hnd ?h ?hco ?hgen ?hk
  case foot => exact hfoot
  case ho => k_is
  case hcd => k_is
  case hbind => exact BindsTo.of_eq rfl
  case hkind => exact rfl
  case hnd => decide +kernel
  case hco => exact rfl
  case hgen => exact rfl
  case hk => exact rfl
  clear R
  intro base dp un outer p loose mean mg mb L h₁ tk0 cells F' N' Y' B' X' T' hDp hUn hl hs
  k_cells Y'
  (try k_lt hl)
  (try simp only [List.cons_append, List.nil_append] at N')
  (try dsimp only); (try k_fold)
  rename Obj => oc
  k_steps
  refine Stop.out ?_
  (with_reducible rename Fr _ _ _ _ => Fz)
  (with_reducible rename News _ _ _ _ => Nz)
  rename IsRange _ _ _ _ _ _ _ _ => hr
  rename _ < 4 => hv1
  rename 0 ≤ _ => hb9
  have hsm := range_small (by with_reducible assumption) hv1
  refine LCg.CompSrc.range rfl Fz Nz hr hsm.1 hsm.2 (by rw [sizeLine_eq]; omega) ?_
  intro g'
  refine rest_ind (n := _) (fun i ys nw => ∃ es a b ta tb, ys = es.map (fun e : El => Value.ref e.r) ∧ es.length = i ∧ nw = _ :: (x, srcO a b ta tb) :: objsE es ∧ 0 ≤ a ∧ 0 ≤ b ∧ b < 2147483647 ∧ (∀ p ∈ objsE es, p.1 ≠ x) ∧ ∀ e ∈ es, LenOf e.l (10, 1) (3, 1) (e.p, e.q)) ?_ ?_ _ 0 [] _ (Nat.zero_add _) ⟨[], _, _, _, _, rfl, rfl, rfl, by with_reducible assumption, by with_reducible assumption, by with_reducible assumption, (fun p hp => nomatch hp), (fun e he => nomatch he)⟩
  · rintro i ys nw hi ⟨es, a2, b2, ta2, tb2, rfl, hel, rfl, ha2, hb2, hb2', hxe, hes⟩ v I oI C oC D m₂ h tk E' hP hC hx F N off ne
    clear Fz Nz hr
    obtain ⟨tv, rfl⟩ := hP
    k_steps
    refine Stop.out ?_
    (with_reducible rename Fr _ _ _ _ => Fz)
    (with_reducible rename News _ _ _ _ => Nz)
    refine lawlength_spec (rd_hide B' Fz Nz (sub1 (o := srcO a2 b2 ta2 tb2) (by k_mem)) X' T' rfl rfl (by (first | ((with_reducible apply dle); (with_reducible assumption); exact rfl) | omega)) (by (first | ((with_reducible apply ule); (with_reducible assumption); exact rfl) | omega))) (hid1 (Nz.get (by k_mem)) (by k_ne)) (hid1 (Nz.get (by k_mem)) (by k_ne)) (foot1 Nz (by k_mem)) ha2 hb2 hb2' (by decide) (by decide) (by decide) (by decide) (by decide) (by decide) (by decide) (by decide) ?_
    intro l9 p9 q9 t9 u9 u8 r9 r8 a9 b9 ta9 tb9 h9 tk9 g1 g2 hn9 ha0 hb0 hb1 st9 hN9 s1 s2 ne9
    have oI1 : @Ne Nat x I := off.2.1.1
    have oC1 : @Ne Nat x C := off.2.1.2.1
    have oD1 : @Ne Nat x D := off.2.1.2.2
    (refine back2U_k Fz Nz hn9 (Upd.tail (by k_ne) (Upd.tail (by k_ne) (Upd.tail (by k_ne) (Upd.tail (by k_ne) (Upd.tail (by k_ne) (Upd.tail (by k_ne) (Upd.head hxe))))))) st9 s1 s2 ne9 g1 g2 ?_; intro F9 N9 L1 L2 M1 M2)
    clear Fz Nz st9 hn9 s1 s2 g1 g2
    (try k_lt M1); (try k_lt M2)
    refine LCg.CompEnd.intro F9 N9 ((L + 1, _) :: (x, srcO a9 b9 ta9 tb9) :: objsE (es ++ [⟨r9, r8, l9, p9, q9, t9, u9, u8⟩])) ?_ ?_ trivial ⟨es ++ [⟨r9, r8, l9, p9, q9, t9, u9, u8⟩], a9, b9, ta9, tb9, by rw [List.map_append]; rfl, by rw [List.length_append, hel]; rfl, rfl, ha0, hb0, hb1, ?_, ?_⟩
    · rw [objsE_snoc]; dsimp only [El.objs]
      k_subL
    · rw [objsE_snoc]
      exact ⟨off.1, off.2.1, off3_app off.2.2 ⟨⟨by k_ne, by k_ne, by k_ne⟩, ⟨by k_ne, by k_ne, by k_ne⟩, trivial⟩⟩
    · intro p hp
      rw [objsE_snoc] at hp
      rcases List.mem_append.mp hp with h | h
      · exact hxe p h
      · rcases List.mem_cons.mp h with rfl | h
        · show @Ne Nat r9 x; k_ne
        · rcases List.mem_singleton.mp h with rfl
          show @Ne Nat r8 x; k_ne
    · intro e he
      rcases List.mem_append.mp he with h | h
      · exact hes e h
      · rcases List.mem_singleton.mp h with rfl
        exact hN9
  · rintro ys nw ⟨es, a2, b2, ta2, tb2, rfl, hel, rfl, ha2, hb2, hb2', hxe, hes⟩
    unfold LCg.FinA
    intro D2 h2 tk2 F2 N2 o2
    clear Fz Nz hr
    (try dsimp only)
    refine cutK 1 (fun Ki => ∀ s' m gl a b ta tb t, Same s s' → Fr g L s'.heap m → News g L s'.heap ((D2, LCg.lst (es.map fun e => Value.ref e.r)) :: (L + 1, oc) :: (x, srcO a b ta tb) :: objsE es) → m (Str.ofString "some") = some (.ref D2) → m (Str.ofString "text") = some (.str (S (glL gl (es.map fun e => subL 32 [] e.l))) t) → gl ∈ [[44], [32], [32, 44, 32]] → 0 ≤ a → 0 ≤ b → b < 2147483647 → Ki s') ?_ ?_
    · intro Ic1 hIc1
      dsimp only [List.take]
      k_steps
      refine Stop.out ?_
      (with_reducible rename Fr _ _ _ _ => Fz)
      (with_reducible rename News _ _ _ _ => Nz)
      refine oneT_spec (rd_hide B' Fz Nz (sub1 (o := srcO a2 b2 ta2 tb2) (by k_mem)) X' T' rfl rfl (by (first | ((with_reducible apply dle); (with_reducible assumption); exact rfl) | omega)) (by (first | ((with_reducible apply ule); (with_reducible assumption); exact rfl) | omega))) (hid1 (Nz.get (List.mem_cons_self ..)) (by k_ne)) (foot1 Nz (by k_mem)) ha2 hb2 hb2' (ls := [[44], [32], [32, 44, 32]]) (by repeat constructor) (by decide) (by decide) (by decide) ?_
      intro gl tg a9 b9 ta9 tb9 h9 tk9 ha0 hb0 hb1 st9 hn9 hgl hgl2
      have oxD : @Ne Nat x D2 := o2.2.1
      (refine backU_k Fz Nz hn9 (Upd.tail (by k_ne) (Upd.tail (by k_ne) (Upd.tail (by k_ne) (Upd.head hxe)))) st9 ?_; intro F9 N9)
      clear Fz Nz st9 hn9
      replace N9 := ntail N9
      (try dsimp only)
      k_steps
      refine Stop.out ?_
      (with_reducible rename Fr _ _ _ _ => Fz)
      (with_reducible rename News _ _ _ _ => Nz)
      have hes3 : es.length ≤ 3 := by omega
      have hes25 : ∀ e ∈ es, e.l.length ≤ 25 := fun e he => (len_reads (w1 := 10) (w2 := 1) (f1 := 3) (f2 := 1) 10000 1000 (hes e he) (by decide) (by decide) (by decide) (by decide) (by decide) (by decide) (by decide) (by decide) (by decide) (by decide) (by decide) (by decide)).2.2.2.2.2
      refine LCg.CompSrc.ledger rfl Fz Nz (List.mem_cons_self ..) (by rw [List.size_toArray, sizeLine_eq, List.length_map]; omega) ?_
      intro g2
      refine rest_ind (n := es.length) (fun i ys nw => nw = _ ∧ TextsAre ys ((es.take i).map fun e => subL 32 [] e.l)) ?_ ?_ _ 0 [] _ (by rw [List.size_toArray, List.length_map]; exact Nat.zero_add _) ⟨rfl, .nil⟩
      · rintro i ys nw hi ⟨rfl, hT⟩ v I oI C oC D m₂ h tk E' hP hC hx F N off ne
        rw [List.getElem?_toArray, List.getElem?_map] at hP
        obtain ⟨e, he, rfl⟩ := Option.map_eq_some_iff.mp hP
        have hem := List.mem_of_getElem? he
        have hg := (N _ (.tail _ (.tail _ (.tail _ (.tail _ (.tail _ (.tail _ (objsE_r hem)))))))).1
        have hel25 := hes25 e hem
        clear Fz Nz
        k_steps
        refine Stop.out ?_
        (with_reducible rename Fr _ _ _ _ => Fz)
        (with_reducible rename News _ _ _ _ => Nz)
        exact LCg.CompEnd.intro Fz Nz _ (fun _ hp => hp) off (Or.inr ⟨_, List.mem_cons_self .., rfl, _, rfl⟩) ⟨rfl, by rw [List.take_add_one, he, List.map_append]; exact texts_snoc hT⟩
      · rintro ys nw ⟨rfl, hT⟩
        unfold LCg.FinE
        intro D3 h3 tk3 F3 N3 o3
        rw [List.take_length] at hT
        clear Fz Nz
        (try dsimp only)
        k_steps
        refine Stop.out ?_
        (with_reducible rename Fr _ _ _ _ => Fz)
        (with_reducible rename News _ _ _ _ => Nz)
        refine r_join ⟨_, (Nz _ (List.mem_cons_self ..)).1, rfl, _, rfl⟩ hT (fun y hy => ?_) (by rw [List.length_map]; exact hes3) (by simp only [List.mem_cons, List.not_mem_nil, or_false] at hgl; rcases hgl with rfl | rfl | rfl <;> decide) ?_
        · obtain ⟨e, he, rfl⟩ := List.mem_map.mp hy
          exact Nat.le_trans (subL_le 32 e.l) (Nat.le_trans (hes25 e he) (by decide))
        intro t8 k8
        k_steps
        (with_reducible rename Fr _ _ _ _ => Fz)
        (with_reducible rename News _ _ _ _ => Nz)
        exact Stop.out ⟨rfl, hIc1 _ _ gl a9 b9 ta9 tb9 t8 Same.mk Fz (ntail Nz) rfl rfl hgl ha0 hb0 hb1⟩
    rintro s2 m gl a3 b3 ta3 tb3 t3 hS2 F3 N3 e1 e2 hgl ha3 hb3 hb3'
    dsimp only [List.drop]
    clear F2 N2
    replace F3 := put2F F3 e1 e2
    refine cutK 1 (fun Ki => ∀ s' m l a b ta tb t t' lx ldx dv hh kk o, Same s s' → Fr g L s'.heap m → News g L s'.heap ((lx, instObj 328 ldx) :: (ldx, lookD dv hh kk) :: (dv, o) :: (D2, LCg.lst (es.map fun e => Value.ref e.r)) :: (L + 1, oc) :: (x, srcO a b ta tb) :: objsE es) → m (Str.ofString "some") = some (.ref D2) → m (Str.ofString "look") = some (.ref lx) → o.IsDictOf (PySem.strKind PySem.Challenge.rw_pf0197_01.row.prog w) [(Str.ofString "stroke-dasharray", .str (S l) t), (Str.ofString "font-size", .str (S [51]) t')] → ((es = [] ∧ (S l = Str.ofString "none" ∨ S l = Str.ofString "")) ∨ (es ≠ [] ∧ l = glL gl (es.map fun e => subL 32 [] e.l))) → 0 ≤ a → 0 ≤ b → b < 2147483647 → Ki s') ?_ ?_
    · intro Ic2 hIc2
      dsimp only [List.take]
      have oxD : @Ne Nat x D2 := o2.2.1
      rcases es with _ | ⟨e0, er⟩
      · k_steps
        refine Stop.out ?_
        (with_reducible rename Fr _ _ _ _ => Fz)
        (with_reducible rename News _ _ _ _ => Nz)
        refine r_ne_list_nil (f := fun e : El => Value.ref e.r) (Nz.get (.tail _ (.tail _ (List.mem_cons_self ..)))) (Nz.get (List.mem_cons_self ..)) (by show un + 3 < 9000; omega) ?_
        k_steps
        refine Stop.out ?_
        (with_reducible rename Fr _ _ _ _ => Fz)
        (with_reducible rename News _ _ _ _ => Nz)
        (with_reducible rename Obj.IsDictOf _ _ (strPairs _) => hdz)
        (with_reducible rename _ ∈ [[110, 111, 110, 101], []] => hlz)
        have Nq := consN Nz (List.mem_cons_self ..) (consN Nz (List.mem_cons_of_mem _ (List.mem_cons_self ..)) (ntail (ntail (ntail (ntail Nz)))))
        refine ⟨rfl, hIc2 _ _ _ _ _ _ _ _ _ _ _ _ _ _ _ hS2.on Fz Nq rfl rfl hdz (Or.inl ⟨rfl, ?_⟩) (by with_reducible assumption) (by with_reducible assumption) (by with_reducible assumption)⟩
        simp only [List.mem_cons, List.not_mem_nil, or_false] at hlz
        rcases hlz with h | h
        · exact Or.inl (by rw [h]; exact lit_none.symm)
        · exact Or.inr (by rw [h]; exact lit_empty.symm)
      · k_steps
        refine Stop.out ?_
        (with_reducible rename Fr _ _ _ _ => Fz)
        (with_reducible rename News _ _ _ _ => Nz)
        refine r_ne_list_cons (f := fun e : El => Value.ref e.r) (Nz.get (.tail _ (.tail _ (List.mem_cons_self ..)))) (Nz.get (List.mem_cons_self ..)) (by show un + 3 < 9000; omega) ?_
        k_steps
        refine Stop.out ?_
        (with_reducible rename Fr _ _ _ _ => Fz)
        (with_reducible rename News _ _ _ _ => Nz)
        (with_reducible rename Obj.IsDictOf _ _ (strPairs _) => hdz)
        have Nq := consN Nz (List.mem_cons_self ..) (consN Nz (List.mem_cons_of_mem _ (List.mem_cons_self ..)) (ntail (ntail (ntail Nz))))
        exact ⟨rfl, hIc2 _ _ _ _ _ _ _ _ _ _ _ _ _ _ _ hS2.on Fz Nq rfl rfl hdz (Or.inr ⟨List.cons_ne_nil _ _, rfl⟩) (by with_reducible assumption) (by with_reducible assumption) (by with_reducible assumption)⟩
    clear hS2 e1 e2 F3 N3 ha3 hb3 hb3'
    rintro s3 m l a4 b4 ta4 tb4 tl tf lx ldx dv hh kk od hS3 F3 N3 e1 e2 hdo hc ha4 hb4 hb4'
    dsimp only [List.drop]
    replace F3 := put2F F3 e1 e2
    clear hxe
    obtain ⟨rest, hrest⟩ : ∃ r, r = objsE es := ⟨_, rfl⟩
    rw [← hrest] at N3
    k_steps
    refine Stop.out ?_
    (with_reducible rename Fr _ _ _ _ => Fz)
    (with_reducible rename News _ _ _ _ => Nz)
    have hes3 : es.length ≤ 3 := by omega
    refine lengths_all (rd_of B' Fz X' T' rfl rfl (by (first | ((with_reducible apply dle); (with_reducible assumption); exact rfl) | omega)) (by (first | ((with_reducible apply ule); (with_reducible assumption); exact rfl) | omega))) (Nz.get (by k_mem)) (Nz.get (by k_mem)) (Nz.get (by k_mem)) hdo (Nz.get (List.mem_cons_self ..)) rfl rfl reads_three (els_read hes3 hes hgl hc) (by decide) (by decide) (by decide) (by decide) (by decide) (by decide) (by decide) (by decide) ?_
    intro r rs hr tkr str hlr hgr hAr
    obtain ⟨made, hm1, hm2⟩ := made_of hAr
    (refine back1_k Fz Nz str hlr hgr ?_; intro F9 N9 l9 m9)
    have N10 := newsOf Fz N9 hm1
    simp only [List.cons_append] at N10
    obtain ⟨rest2, hrest2⟩ : ∃ q, q = rest ++ made := ⟨_, rfl⟩
    rw [← hrest2] at N10
    clear Fz Nz N9 str hlr hgr hAr hm1
    k_lt l9; k_lt2 m9
    (try dsimp only); (try k_fold)
    k_steps
    refine Stop.out ?_
    (with_reducible rename Fr _ _ _ _ => Fz)
    (with_reducible rename News _ _ _ _ => Nz)
    refine LCg.CompSrc.ledger rfl Fz Nz (by k_mem) (by rw [List.size_toArray, sizeLine_eq, List.length_map]; omega) ?_
    intro g2
    refine rest_ind (n := es.length) (fun i ys nw => nw = _ ∧ ys = (es.take i).map fun e => Value.ref e.n) ?_ ?_ _ 0 [] _ (by rw [List.size_toArray, List.length_map]; exact Nat.zero_add _) ⟨rfl, rfl⟩
    · rintro i ys nw hi ⟨rfl, rfl⟩ v I oI C oC D m₂ h tk E' hP hC hx F N off ne
      rw [List.getElem?_toArray, List.getElem?_map] at hP
      obtain ⟨e, he, rfl⟩ := Option.map_eq_some_iff.mp hP
      have hem := List.mem_of_getElem? he
      have hmm : (e.r, pairO e.l e.t e.n) ∈ rest2 := by rw [hrest2, hrest]; exact List.mem_append_left _ (objsE_r hem)
      have hg := (N (e.r, pairO e.l e.t e.n) (by repeat (first | exact hmm | refine List.mem_cons_of_mem _ ?_))).1
      clear Fz Nz
      k_steps
      refine Stop.out ?_
      (with_reducible rename Fr _ _ _ _ => Fz)
      (with_reducible rename News _ _ _ _ => Nz)
      exact LCg.CompEnd.intro Fz Nz _ (fun _ hp => hp) off (Or.inr ⟨_, (by repeat (first | exact List.mem_cons_self .. | refine List.mem_cons_of_mem _ ?_)), rfl, _, rfl⟩) ⟨rfl, by rw [List.take_add_one, he, List.map_append]; rfl⟩
    · rintro ys nw ⟨rfl, rfl⟩
      unfold LCg.FinE
      intro D3 h3 tk3 F3 N3 o3
      rw [List.take_length] at N3
      clear Fz Nz
      (try dsimp only)
      k_steps
      refine Stop.out ?_
      (with_reducible rename Fr _ _ _ _ => Fz)
      (with_reducible rename News _ _ _ _ => Nz)
      refine kde_tupleOf Fz Nz ⟨_, (Nz _ (List.mem_cons_self ..)).1, rfl, _, rfl⟩ (by rw [List.size_toArray, List.length_map]; omega) rfl ?_
      intro Dt ht Ft Nt lt
      clear Fz Nz
      k_lt lt
      (try dsimp only); (try k_fold)
      k_steps
      refine Stop.out ?_
      (with_reducible rename Fr _ _ _ _ => Fz)
      (with_reducible rename News _ _ _ _ => Nz)
      have hmem : ∀ q, q ∈ rest2 → ht.get? q.1 = some q.2 := fun q hq => (Nz q (by repeat (first | exact hq | refine List.mem_cons_of_mem _ ?_))).1
      have hrl := hm2.len
      rw [List.length_map] at hrl
      refine r_eq_tupR (rs := rs) (ns := es.map El.n) (Nz.get (.tail _ (.tail _ (.head _)))) ?_ (by rw [List.length_map]; exact hrl) ?_ (by show un + 3 < 9000; omega) ?_
      · have hq := (Nz _ (List.mem_cons_self ..)).1
        rw [show ({ cls := Value.type "tuple", data := Data.seq (List.map (fun e => Value.ref (El.n e)) es).toArray.toList.toArray } : Obj) = tupR (es.map El.n) from by unfold tupR; rw [List.map_map]; rfl] at hq
        exact hq
      · intro j r1 n1 h1 h2
        rw [List.getElem?_map] at h2
        obtain ⟨e, he, rfl⟩ := Option.map_eq_some_iff.mp h2
        obtain ⟨t, t', hm⟩ := hm2.get h1 (by rw [List.getElem?_map, he]; rfl)
        exact ⟨e.p, e.q, t, t', e.u, e.v, hmem _ (by rw [hrest2]; exact List.mem_append_right _ hm), hmem _ (by rw [hrest2, hrest]; exact List.mem_append_left _ (objsE_n (List.mem_of_getElem? he)))⟩
      · exact hS3.q (hret _ _ _ _ _ _ (Nz.get (by repeat (first | exact List.mem_cons_self .. | refine List.mem_cons_of_mem _ ?_))) ha4 hb4 hb4' Fz.keep)
end Mine
end
section --C28
set_option maxHeartbeats 1600000
namespace Mine
theorem fn_at {g h : Heap} {L f : Addr} {m : Str → Option Value} (F : Fr g L h m) (x : FnAt f g) : FnAt f h := by
  obtain ⟨a, b, c, d, e⟩ := x
  exact ⟨a, b, c, d, F.keep _ _ e⟩
theorem lnC28a : True := by
  k_with_none
  k_with "a1" => (first | with_reducible assumption | ((with_reducible apply Mine.ltm); (with_reducible assumption); k_mem))
  k_with "a2" => (first | with_reducible exact Mine.lss | with_reducible exact Mine.ltp (by assumption) | with_reducible exact Mine.ltp (Mine.ltp (by assumption)) | with_reducible exact Mine.ltp (Mine.ltp (Mine.ltp (by assumption))) | ((with_reducible refine Mine.lts ?_); first | with_reducible exact Mine.lss | k_memK) | ((with_reducible refine Mine.lts (Mine.lts ?_)); first | with_reducible exact Mine.lss | k_memK) | ((with_reducible refine Mine.lts (Mine.lts (Mine.lts ?_))); k_memK))
  k_with "a3" => (first | k_cls | ((with_reducible apply Mine.ltr); (with_reducible assumption); first | k_memK | k_cls) | ((with_reducible apply Mine.ltr); (with_reducible exact Mine.ltp (by assumption)); first | k_memK | k_cls))
  k_with "a4" => (first | with_reducible exact Mine.neAll (by assumption) | with_reducible exact Mine.neNil | ((with_reducible refine Mine.neCons ?_ ?_); k_ne; k_all))
  k_with "a5" => (first | with_reducible exact Mine.subNil | with_reducible exact Mine.subSame | ((with_reducible refine Mine.subCons ?_ ?_); k_mem; k_subL) | ((with_reducible refine Mine.subApp ?_ ?_); k_subL; k_subL) | ((with_reducible refine Mine.subTail ?_); k_subL))
  k_with "a6" => (first | with_reducible assumption | ((with_reducible show @Ne Nat _ _); first | ((with_reducible refine Mine.nlt ?_); k_memK) | ((with_reducible refine Mine.ngt ?_); k_memK) | (with_reducible exact Ne.symm (by assumption)) | ((with_reducible refine Mine.nlt ?_); k_types) | ((with_reducible refine Mine.ngt ?_); k_types)) | ((with_reducible apply Mine.dq0); (with_reducible assumption); decide) | ((with_reducible apply Mine.dq1); (with_reducible assumption); decide) | ((with_reducible apply Mine.dq2); (with_reducible assumption); decide) | ((with_reducible apply Mine.dq3); (with_reducible assumption); decide) | ((with_reducible apply Mine.dq4); (with_reducible assumption); decide) | ((with_reducible first | apply Mine.il1 | apply Mine.il3); (with_reducible assumption); decide) | ((with_reducible first | apply Mine.il2 | apply Mine.il4); (with_reducible assumption); decide) | ((with_reducible first | apply Mine.iu1 | apply Mine.iu3); (with_reducible assumption); decide) | ((with_reducible first | apply Mine.iu2 | apply Mine.iu4); (with_reducible assumption); decide) | ((with_reducible first | apply Mine.nl3 | apply Mine.nl2); (with_reducible assumption); decide) | ((with_reducible first | apply Mine.nu1 | apply Mine.nu3); (with_reducible assumption); decide) | ((with_reducible first | apply Mine.nu2 | apply Mine.nu4); (with_reducible assumption); decide) | ((with_reducible show @LT.lt Nat _ _ _); first | k_memK | k_types) | decide)
  k_with "a7" => (repeat (rename ∀ _ ∈ (_ : List (Addr × Obj)), @LT.lt Nat _ _ _ => hrw; replace hrw := allLt_of hrw; dsimp only [AllLt] at hrw))
  k_with "a8" => (first | (k_whole; kc_bool) | omega +splitDisjunctions | (k_whole; k_units; omega +splitDisjunctions))
  k_with "a9" => (first | (k_whole; kc_bool) | lia | omega +splitDisjunctions)
  k_with "eval Call" => ((fail_if_success (fail_if_success k_fold)); refine foldL ?_; intro qk ek; walk1)
  k_with "eval BinOp" => ((fail_if_success (fail_if_success k_fold)); refine foldL ?_; intro qk ek; walk1)
  k_with "eval Tuple" => ((fail_if_success (fail_if_success k_fold)); refine foldL ?_; intro qk ek; walk1)
  k_with "isTrue Compare" => ((fail_if_success (fail_if_success k_fold)); refine foldL ?_; intro qk ek; walk1)
  k_with "eval Subscript" => ((fail_if_success (fail_if_success k_fold)); refine foldL ?_; intro qk ek; walk1)
  k_with "exec Assign" => ((fail_if_success (fail_if_success k_fold)); refine foldL ?_; intro qk ek; walk1)
  k_with "eval List" => ((fail_if_success (fail_if_success k_fold)); refine foldL ?_; intro qk ek; walk1)
  k_with "eval Attribute" => ((fail_if_success (fail_if_success k_fold)); refine foldL ?_; intro qk ek; walk1)
  k_with "eval UnaryOp" => ((fail_if_success (fail_if_success k_fold)); refine foldL ?_; intro qk ek; walk1)
  k_with "callWith ref" => ((fail_if_success (fail_if_success k_fold)); refine foldL ?_; intro qk ek; walk1)
  k_with "callWith" => ((fail_if_success (fail_if_success k_fold)); refine foldL ?_; intro qk ek; walk1)
  k_with "call ref" => (refine Stop.go ?_)
  k_with "callWith ref" => (k_here; (with_reducible rename Fr _ _ _ _ => Fz); k_dflt (refine callWith_F0 (fn_at Fz (by with_reducible assumption)) ?_); (try dsimp only [List.nil_append, List.cons_append]))
  trivial
theorem refused_spec {w : World} {A : Around} {s : Shared} {f : Addr} {k : Nat} {own : List (Addr × Obj)} {P : List (Addr × Obj) → Prop} {g : Heap} {Q E : Value → Shared → Prop}
    (R : RdX (hd.heap_1 w.params) (k + 1) A g s) (hfn : FnAt f g) (hfoot : ∀ p ∈ own, s.heap.get? p.1 = some p.2 ∧ g.get? p.1 = none) (hcall : ∀ (A' : Around) (G : Heap) (s' : Shared), RdX (hd.heap_1 w.params) k A' G s' → g.StaysIn G → (∀ q ∈ own, s'.heap.get? q.1 = some q.2 ∧ G.get? q.1 = none) → ∀ (Q' E' : Value → Shared → Prop), (∀ outer c own' e h' tk', P own' → A'.frames = some outer → Flown c outer G own' h' e 63 → E' (.ref e) { s' with heap := h', toks := tk' }) → wpAny (model PySem.Challenge.rw_pf0197_01.row.prog w) A' (call (.ref f) [] []) Q' E' s')
    (hret : ∀ own' h' tk', P own' → (∀ outer, A.frames = some outer → Turned outer g h') → (∀ q ∈ own', h'.get? q.1 = some q.2) → Q (.bool true) { s with heap := h', toks := tk' }) :
    wpAny (model PySem.Challenge.rw_pf0197_01.row.prog w) A (call (.ref 471) [.ref f] []) Q E s := by
  revert R; k_fill; intro R
  refine' enterX (news := own) (args := ⟨[.ref f], []⟩) (binds := [(Str.ofString "call", .ref f)]) R ?foot ?ho ?hcd ?hbind ?hloc ?h ?hcell ?hco ?hgen ?hk
  case foot => exact hfoot
  case ho => k_is
  case hcd => k_is
  case hbind => exact BindsTo.of_eq rfl
  case hloc => exact locs rfl
  case hcell => decide
  case hco => exact rfl
  case hgen => exact rfl
  case hk => exact rfl
  clear R
  intro base dp un outer p loose mean mg mb L h₁ F' N' B' XB TB X' T' hDp hUn hl hs hA
  (try dsimp only); (try k_fold)
  k_steps
  refine Stop.out ?_
  (with_reducible rename Fr _ _ _ _ => Fz)
  (with_reducible rename News _ _ _ _ => Nz)
  refine hcall _ _ ⟨h₁, _, _, _, _⟩ (rdx_hide B' Fz Nz (fun _ hp => hp) XB TB rfl rfl (by (first | ((with_reducible apply dle); (with_reducible assumption); exact rfl) | omega)) (by (first | ((with_reducible apply ule); (with_reducible assumption); exact rfl) | omega))) (fr_hide Fz Nz).keep (fun q hq => ⟨(Nz q hq).1, hideAll_none _ (List.mem_map.mpr ⟨q, hq, rfl⟩)⟩) _ _ ?_
  intro outer' c own' e h' tk' hP hfr fl
  obtain rfl := Option.some.inj hfr
  refine caught fl (fr_hide Fz Nz) B' XB TB (by k_is) (by k_is) (by decide) ?_
  intro h2 g2 D T2 F2 B2 hown f2 hD
  clear Fz Nz
  (try dsimp only); (try k_fold)
  k_steps
  exact hret own' h2 tk' hP (fun o ho => by rw [hA] at ho; obtain rfl := Option.some.inj ho; exact ⟨g2, T2, F2.keep⟩) hown
end Mine
end
section --S15
namespace Mine
theorem turn_up {fs : List Addr} {g g' : Heap} (T : KtsTurn fs g g') : g.UpToSlots g' := fun _ _ e _ => T.up e
section
variable {M : Model} {E E2 : Value → Shared → Prop} {s' : Shared} {base g g' h : Heap} {outer : List Env} {L a e C : Addr} {m : Str → Option Value} {name : Str} {scope : Scope} {cd c : Value} {dp un : Nat} {own : List (Addr × Obj)} {hd : Option Value}
theorem leave_in {oe : Obj} {vs : Array Value} (B : Below (top dp outer un) base outer g') (T : KtsTurn (outer.filterMap (·.frame)) g g') (F : Fr g' L h m) (N : News g' L h own) (kp : ∀ b o, h.get? b = some o → s'.heap.get? b = some o) (ne : h.get? e = none) (he : s'.heap.get? e = some oe) (hc : oe.cls = .ref C) (hdt : oe.data = .fields vs)
    (h1 : vs[1]? = some .none) (h2 : vs[2]? = some c) (hQ : ∀ h', Flown c outer g own h' e C → E (.ref e) { s' with heap := h' }) (hk : scope.kind = .function := by rfl) :
    notedBy M (((top dp outer un).deeper (envOf name scope L a cd)).mark hd) (envOf name scope L a cd) (cameBackBy M ((top dp outer un).deeper (envOf name scope L a cd)) (envOf name scope L a cd)
      (fun e s' => wpAny M ((top dp outer un).deeper (envOf name scope L a cd)) (leaving (envOf name scope L a cd) e) (fun _ s'' => E e s'') E2 s')) (.ref e) s' := by
  have B' := B.push (name := name) (a := a) (cd := cd) F hk
  have hin : ∀ env ∈ (envOf name scope L a cd :: outer), ∀ b, env.frame = some b → b ∈ (envOf name scope L a cd :: outer).filterMap (·.frame) := fun env he b hb => List.mem_filterMap.mpr ⟨env, he, hb⟩
  have en : (hideAll h ((envOf name scope L a cd :: outer).filterMap (·.frame))).get? e = none := by
    cases q : (hideAll h ((envOf name scope L a cd :: outer).filterMap (·.frame))).get? e with
    | none => rfl
    | some o => have := of_hideAll _ q; rw [ne] at this; cases this
  unfold notedBy
  refine x_note0 (base := hideAll h ((envOf name scope L a cd :: outer).filterMap (·.frame))) (outer := outer) (L := L) (Around.frames_deeper B.stack) ((funFrames_hide B'.frames hin).of_keeps fun b o hb _ => ⟨o, kp b o hb, rfl⟩) rfl he (fun b o q => kp b o (of_hideAll _ q)) en hdt h1 h2 fun h' f u => ?_
  refine x_came rfl f fun h'' f' u' => ?_
  refine x_leaveN rfl f' fun h3 f3 u3 => hQ h3 ⟨⟨hideAll h ((envOf name scope L a cd :: outer).filterMap (·.frame)), fun b o q => ?_, fun q hq => ⟨?_, ?_⟩, ?_⟩, ?_⟩
  · have nm : b ∉ outer.filterMap (·.frame) := fun hm => by rw [hideAll_none _ hm] at q; cases q
    have q' := T.other b o (of_hideAll _ q) nm
    refine hideAll_get _ (F.keep b o q') fun hm => ?_
    rcases kts_mem hm with z | z
    · rw [z, kts_self F] at q'; cases q'
    · exact nm z
  · refine hideAll_get _ (N q hq).1 fun hm => ?_
    rcases kts_mem hm with z | z
    · exact (N q hq).2.1 z
    · obtain ⟨o, ho, _⟩ := (B.frames.mem z).2
      rw [(N q hq).2.2] at ho; cases ho
  · cases z : g.get? q.1 with
    | none => rfl
    | some o => obtain ⟨sl, hs⟩ := T.up z; rw [(N q hq).2.2] at hs; cases hs
  · rw [← hc]; exact f3
  · exact (((((turn_up T).trans (Heap.UpToSlots.of_keeps F.keep)).trans (Heap.UpToSlots.of_keeps kp)).trans u).trans u').trans u3
end
end Mine
end
section --C31
set_option maxHeartbeats 1600000
namespace Mine
theorem lnC31a : True := by
  k_with_none
  k_with "a1" => (first | with_reducible assumption | ((with_reducible apply Mine.ltm); (with_reducible assumption); k_mem))
  k_with "a2" => (first | with_reducible exact Mine.lss | with_reducible exact Mine.ltp (by assumption) | with_reducible exact Mine.ltp (Mine.ltp (by assumption)) | with_reducible exact Mine.ltp (Mine.ltp (Mine.ltp (by assumption))) | ((with_reducible refine Mine.lts ?_); first | with_reducible exact Mine.lss | k_memK) | ((with_reducible refine Mine.lts (Mine.lts ?_)); first | with_reducible exact Mine.lss | k_memK) | ((with_reducible refine Mine.lts (Mine.lts (Mine.lts ?_))); k_memK))
  k_with "a3" => (first | k_cls | ((with_reducible apply Mine.ltr); (with_reducible assumption); first | k_memK | k_cls) | ((with_reducible apply Mine.ltr); (with_reducible exact Mine.ltp (by assumption)); first | k_memK | k_cls))
  k_with "a4" => (first | with_reducible exact Mine.neAll (by assumption) | with_reducible exact Mine.neNil | ((with_reducible refine Mine.neCons ?_ ?_); k_ne; k_all))
  k_with "a5" => (first | with_reducible exact Mine.subNil | with_reducible exact Mine.subSame | ((with_reducible refine Mine.subCons ?_ ?_); k_mem; k_subL) | ((with_reducible refine Mine.subApp ?_ ?_); k_subL; k_subL) | ((with_reducible refine Mine.subTail ?_); k_subL))
  k_with "a6" => (first | with_reducible assumption | ((with_reducible show @Ne Nat _ _); first | ((with_reducible refine Mine.nlt ?_); k_memK) | ((with_reducible refine Mine.ngt ?_); k_memK) | (with_reducible exact Ne.symm (by assumption)) | ((with_reducible refine Mine.nlt ?_); k_types) | ((with_reducible refine Mine.ngt ?_); k_types)) | ((with_reducible apply Mine.dq0); (with_reducible assumption); decide) | ((with_reducible apply Mine.dq1); (with_reducible assumption); decide) | ((with_reducible apply Mine.dq2); (with_reducible assumption); decide) | ((with_reducible apply Mine.dq3); (with_reducible assumption); decide) | ((with_reducible apply Mine.dq4); (with_reducible assumption); decide) | ((with_reducible first | apply Mine.il1 | apply Mine.il3); (with_reducible assumption); decide) | ((with_reducible first | apply Mine.il2 | apply Mine.il4); (with_reducible assumption); decide) | ((with_reducible first | apply Mine.iu1 | apply Mine.iu3); (with_reducible assumption); decide) | ((with_reducible first | apply Mine.iu2 | apply Mine.iu4); (with_reducible assumption); decide) | ((with_reducible first | apply Mine.nl3 | apply Mine.nl2); (with_reducible assumption); decide) | ((with_reducible first | apply Mine.nu1 | apply Mine.nu3); (with_reducible assumption); decide) | ((with_reducible first | apply Mine.nu2 | apply Mine.nu4); (with_reducible assumption); decide) | ((with_reducible show @LT.lt Nat _ _ _); first | k_memK | k_types) | decide)
  k_with "a7" => (repeat (rename ∀ _ ∈ (_ : List (Addr × Obj)), @LT.lt Nat _ _ _ => hrw; replace hrw := allLt_of hrw; dsimp only [AllLt] at hrw))
  k_with "a8" => (first | (k_whole; kc_bool) | omega +splitDisjunctions | (k_whole; k_units; omega +splitDisjunctions))
  k_with "a9" => (first | (k_whole; kc_bool) | lia | omega +splitDisjunctions)
  k_with "eval Call" => ((fail_if_success (fail_if_success k_fold)); refine foldL ?_; intro qk ek; walk1)
  k_with "eval BinOp" => ((fail_if_success (fail_if_success k_fold)); refine foldL ?_; intro qk ek; walk1)
  k_with "eval Tuple" => ((fail_if_success (fail_if_success k_fold)); refine foldL ?_; intro qk ek; walk1)
  k_with "isTrue Compare" => ((fail_if_success (fail_if_success k_fold)); refine foldL ?_; intro qk ek; walk1)
  k_with "eval Subscript" => ((fail_if_success (fail_if_success k_fold)); refine foldL ?_; intro qk ek; walk1)
  k_with "exec Assign" => ((fail_if_success (fail_if_success k_fold)); refine foldL ?_; intro qk ek; walk1)
  k_with "eval List" => ((fail_if_success (fail_if_success k_fold)); refine foldL ?_; intro qk ek; walk1)
  k_with "eval Attribute" => ((fail_if_success (fail_if_success k_fold)); refine foldL ?_; intro qk ek; walk1)
  k_with "eval UnaryOp" => ((fail_if_success (fail_if_success k_fold)); refine foldL ?_; intro qk ek; walk1)
  k_with "callWith ref" => ((fail_if_success (fail_if_success k_fold)); refine foldL ?_; intro qk ek; walk1)
  k_with "callWith" => ((fail_if_success (fail_if_success k_fold)); refine foldL ?_; intro qk ek; walk1)
  k_with "subscriptTail Name Constant ref int" => (k_here; first | refine tup_item0 (by assumption) (by assumption) ?_ | refine tup_item1 (by assumption) (by assumption) ?_)
  k_with "exec While" => (k_here; refine Stop.go ?_)
  k_with "binaryOp FloorDiv int int" => (k_here; refine floordiv_int (by first | decide | omega) ?_ (Or.inl (noPyl (by first | decide | omega) (by first | decide | omega))))
  k_with "newTuple" => (k_here; k_dflt (refine' newTuple_mine ?k1 ?k2 ?_ ?k3; (case k1 => k_asm); (case k2 => k_asm); (case k3 => first | decide | (exact Nat.le_of_ble_eq_true rfl) | (simp only [sizeLine_eq]; simp))); intro D' h' F' N' l1 l2; (try k_lt l1); (try k_lt2 l2); (try k_sweep))
  k_with "binaryOp Mult int int" => (k_here; refine mul_int ?_ (by first | exact mulOk60 (by omega) (by omega) (by omega) (by omega) | mul_fits))
  k_with "call builtin:len" => (k_here; refine r_len (by first | omega | (simp only [List.length_append, List.length_cons, List.length_nil]; omega)) ?_; intro t9 k9)
  k_with "subscriptTail Attribute Attribute str int" => (k_here; (with_reducible show wpAny _ _ (subscriptTail _ _ (Value.str (S _) _) (Value.int _ _)) _ _ _); k_dflt (refine r_item (by omega) (by omega) (by omega) ?_); intro t9 k9)
  k_with "compareOp In str str" => (k_here; refine r_in ?_)
  k_with "subscriptTail Attribute Slice str ref" => (k_here; (with_reducible show wpAny _ _ (subscriptTail _ (Expr.Slice (some _) (some _) none _) (Value.str (S _) _) (Value.ref _)) _ _ _); (with_reducible rename Fr _ _ _ _ => Fz); (with_reducible rename News _ _ _ _ => Nz); k_dflt (refine r_slice (s := ⟨_, _, _, _, _⟩) Fz Nz (by omega) (by omega) (by omega) (by omega) ?_); intro h9 t9 k9 F9 N9; (try k_sweep))
  k_with "compareOp Eq str str" => (k_here; first | refine r_eq_f (by assumption) ?_ | refine r_eq_t (by assumption) ?_ | refine r_eq ?_)
  k_with "compareOp NotEq str str" => (k_here; first | refine r_ne_t (by assumption) ?_ | refine r_ne_f (by assumption) ?_ | refine r_ne ?_)
  k_with "compareOp Eq str str" => (k_here; first | refine r_eqx_f (by with_reducible assumption) ?_ | refine r_eqx_t (by with_reducible assumption) ?_)
  k_with "call ref" => (k_here; (with_reducible show wpAny _ _ (call (Value.ref 222) _ _) _ _ _); first | ((with_reducible rename Fr _ _ _ _ => Fz); (with_reducible rename News _ _ _ _ => Nz); (k_dflt (refine' unit_of_spec' (rd_of ?B Fz ?X ?T rfl rfl ?d ?u) ?p0 ?p1 ?_; (case B => assumption); (case X => assumption); (case T => assumption); (case d => (first | ((with_reducible apply dle); (with_reducible assumption); exact rfl) | omega)); (case u => (first | ((with_reducible apply ule); (with_reducible assumption); exact rfl) | omega)); (case p0 => (first | with_reducible assumption | omega)); (case p1 => (with_reducible assumption)); k_whole)); intro r9 t9 u9 h9 tk9 st9 hl9 hr9; k_dflt ((refine back1_k Fz Nz st9 hl9 hr9 ?_; intro F9 N9 l9 m9)); clear Fz Nz st9 hl9 hr9; (try k_lt l9); (try k_lt2 m9); (try dsimp only); (try k_fold)) | refine Stop.go ?_)
  k_with "exec Raise some none" => (k_here; refine raise_cls 63 ?_)
  k_with "call ref" => ((with_reducible show wpAny _ _ (call (Value.ref 63) _ _) _ _ _); refine Stop.go ?_)
  k_with "binaryOp Add str str" => (k_here; (refine r_add_any (by first | omega | decide +kernel | (rw [S_len]; omega)) (by first | omega | decide +kernel | (rw [S_len]; omega)) ?_); intro z9 t9 k9)
  k_with "call ref" => ((with_reducible show wpAny _ _ (call (Value.ref 186) _ _) _ _ _); refine Stop.go ?_)
  trivial
theorem length_raise {w : World} {A : Around} {s : Shared} {l nl : List Nat} {u : Str} {tl : Tok} {wa : Addr} {tw tw' : Tok} {Q E : Value → Shared → Prop}
    (R : RdX (hd.heap_1 w.params) 9 A s.heap s) (hl : l.length ≤ 1000) (hu : unitOf l = (nl, u)) (hnl : nl.length ≤ 1000) (hbad : badDec nl)
    (hraise : ∀ outer c e h' tk', A.frames = some outer → Flown c outer s.heap [] h' e 63 → E (.ref e) { s with heap := h', toks := tk' }) :
    wpAny (model PySem.Challenge.rw_pf0197_01.row.prog w) A (call (.ref 231) [.str (S l) tl, .ref wa] []) Q E s := by
  revert R; k_fill; intro R
  refine' enterX (news := []) (args := ⟨[.str (S l) tl, .ref wa], []⟩) (binds := [(Str.ofString "text", .str (S l) tl), (Str.ofString "whole", .ref wa), (Str.ofString "font_size", .ref 223)]) R ?foot ?ho ?hcd ?hbind ?hloc ?h ?hcell ?hco ?hgen ?hk
  case foot => intro p hp; cases hp
  case ho => k_is
  case hcd => k_is
  case hbind => exact binds_K (R.rd.X.keeps R.rd.st) rfl (by k_is) rfl rfl rfl
  case hloc => exact locs rfl
  case hcell => decide
  case hco => exact rfl
  case hgen => exact rfl
  case hk => exact rfl
  clear R
  intro base dp un outer p loose mean mg mb L h₁ F' N' B' XB TB X' T' hDp hUn hl hs hA
  (try dsimp only); (try k_fold)
  k_steps
  refine Stop.out ?_
  (with_reducible rename Fr _ _ _ _ => Fz)
  (with_reducible rename News _ _ _ _ => Nz)
  refine read_decimal_raise (rd_of B' Fz X' T' rfl rfl (by (first | ((with_reducible apply dle); (with_reducible assumption); exact rfl) | omega)) (by (first | ((with_reducible apply ule); (with_reducible assumption); exact rfl) | omega))) hnl hbad ?_
  intro o7 e7 h7 tk7 hf7 f7
  obtain rfl := Option.some.inj hf7
  refine caught f7 Fz B' XB TB (by k_is) (by k_is) (by decide) ?_
  intro h2 g2 D T2 F2 B2 hown f2 hD
  clear Fz Nz
  have X2 := XB.keeps B2.stays
  have P2 := TB.keeps B2.stays
  have N2 : News g2 L h2 [] := fun q hq => nomatch hq
  clear X' T' B'
  (try dsimp only); (try k_fold)
  k_steps
  refine Stop.out ?_
  (with_reducible rename Fr _ _ _ _ => Fz)
  obtain ⟨oe1, vs1, T1, oT1, ts1, he1, _, hd1, _, h21, _⟩ := f2.tr
  refine made_raise_in (e1 := e7) (X2.keeps Fz.keep) (P2.nolimit.keeps Fz.keep) (by show dp + 1 < 980; omega) rfl he1 hd1 h21 (by k_is) (by k_is) (by k_is) rfl (by k_is) ?_
  intro h8 e8 tk8 oe8 t8 y1 y2 y3 y4 y5
  refine leave_in (own := []) B2 T2 Fz (fun q hq => nomatch hq) y1 y2 y3 y4 y5 rfl rfl fun h9 f9 => ?_
  exact hraise outer _ e8 h9 tk8 (by rw [hA]) f9
end Mine
end
section --C26
set_option maxHeartbeats 1600000
namespace Mine
theorem lnC26a : True := by
  k_with_none
  k_with "a1" => (first | with_reducible assumption | ((with_reducible apply Mine.ltm); (with_reducible assumption); k_mem))
  k_with "a2" => (first | with_reducible exact Mine.lss | with_reducible exact Mine.ltp (by assumption) | with_reducible exact Mine.ltp (Mine.ltp (by assumption)) | with_reducible exact Mine.ltp (Mine.ltp (Mine.ltp (by assumption))) | ((with_reducible refine Mine.lts ?_); first | with_reducible exact Mine.lss | k_memK) | ((with_reducible refine Mine.lts (Mine.lts ?_)); first | with_reducible exact Mine.lss | k_memK) | ((with_reducible refine Mine.lts (Mine.lts (Mine.lts ?_))); k_memK))
  k_with "a3" => (first | k_cls | ((with_reducible apply Mine.ltr); (with_reducible assumption); first | k_memK | k_cls) | ((with_reducible apply Mine.ltr); (with_reducible exact Mine.ltp (by assumption)); first | k_memK | k_cls))
  k_with "a4" => (first | with_reducible exact Mine.neAll (by assumption) | with_reducible exact Mine.neNil | ((with_reducible refine Mine.neCons ?_ ?_); k_ne; k_all))
  k_with "a5" => (first | with_reducible exact Mine.subNil | with_reducible exact Mine.subSame | ((with_reducible refine Mine.subCons ?_ ?_); k_mem; k_subL) | ((with_reducible refine Mine.subApp ?_ ?_); k_subL; k_subL) | ((with_reducible refine Mine.subTail ?_); k_subL))
  k_with "a6" => (first | with_reducible assumption | ((with_reducible show @Ne Nat _ _); first | ((with_reducible refine Mine.nlt ?_); k_memK) | ((with_reducible refine Mine.ngt ?_); k_memK) | (with_reducible exact Ne.symm (by assumption)) | ((with_reducible refine Mine.nlt ?_); k_types) | ((with_reducible refine Mine.ngt ?_); k_types)) | ((with_reducible apply Mine.dq0); (with_reducible assumption); decide) | ((with_reducible apply Mine.dq1); (with_reducible assumption); decide) | ((with_reducible apply Mine.dq2); (with_reducible assumption); decide) | ((with_reducible apply Mine.dq3); (with_reducible assumption); decide) | ((with_reducible apply Mine.dq4); (with_reducible assumption); decide) | ((with_reducible first | apply Mine.il1 | apply Mine.il3); (with_reducible assumption); decide) | ((with_reducible first | apply Mine.il2 | apply Mine.il4); (with_reducible assumption); decide) | ((with_reducible first | apply Mine.iu1 | apply Mine.iu3); (with_reducible assumption); decide) | ((with_reducible first | apply Mine.iu2 | apply Mine.iu4); (with_reducible assumption); decide) | ((with_reducible first | apply Mine.nl3 | apply Mine.nl2); (with_reducible assumption); decide) | ((with_reducible first | apply Mine.nu1 | apply Mine.nu3); (with_reducible assumption); decide) | ((with_reducible first | apply Mine.nu2 | apply Mine.nu4); (with_reducible assumption); decide) | ((with_reducible show @LT.lt Nat _ _ _); first | k_memK | k_types) | decide)
  k_with "a7" => (repeat (rename ∀ _ ∈ (_ : List (Addr × Obj)), @LT.lt Nat _ _ _ => hrw; replace hrw := allLt_of hrw; dsimp only [AllLt] at hrw))
  k_with "a8" => (first | (k_whole; kc_bool) | omega +splitDisjunctions | (k_whole; k_units; omega +splitDisjunctions))
  k_with "a9" => (first | (k_whole; kc_bool) | lia | omega +splitDisjunctions)
  k_with "eval Call" => ((fail_if_success (fail_if_success k_fold)); refine foldL ?_; intro qk ek; walk1)
  k_with "eval BinOp" => ((fail_if_success (fail_if_success k_fold)); refine foldL ?_; intro qk ek; walk1)
  k_with "eval Tuple" => ((fail_if_success (fail_if_success k_fold)); refine foldL ?_; intro qk ek; walk1)
  k_with "isTrue Compare" => ((fail_if_success (fail_if_success k_fold)); refine foldL ?_; intro qk ek; walk1)
  k_with "eval Subscript" => ((fail_if_success (fail_if_success k_fold)); refine foldL ?_; intro qk ek; walk1)
  k_with "exec Assign" => ((fail_if_success (fail_if_success k_fold)); refine foldL ?_; intro qk ek; walk1)
  k_with "eval List" => ((fail_if_success (fail_if_success k_fold)); refine foldL ?_; intro qk ek; walk1)
  k_with "eval Attribute" => ((fail_if_success (fail_if_success k_fold)); refine foldL ?_; intro qk ek; walk1)
  k_with "eval UnaryOp" => ((fail_if_success (fail_if_success k_fold)); refine foldL ?_; intro qk ek; walk1)
  k_with "callWith ref" => ((fail_if_success (fail_if_success k_fold)); refine foldL ?_; intro qk ek; walk1)
  k_with "callWith" => ((fail_if_success (fail_if_success k_fold)); refine foldL ?_; intro qk ek; walk1)
  k_with "subscriptTail Name Constant ref int" => (k_here; first | refine tup_item0 (by assumption) (by assumption) ?_ | refine tup_item1 (by assumption) (by assumption) ?_)
  k_with "exec While" => (k_here; refine Stop.go ?_)
  k_with "binaryOp FloorDiv int int" => (k_here; refine floordiv_int (by first | decide | omega) ?_ (Or.inl (noPyl (by first | decide | omega) (by first | decide | omega))))
  k_with "newTuple" => (k_here; k_dflt (refine' newTuple_mine ?k1 ?k2 ?_ ?k3; (case k1 => k_asm); (case k2 => k_asm); (case k3 => first | decide | (exact Nat.le_of_ble_eq_true rfl) | (simp only [sizeLine_eq]; simp))); intro D' h' F' N' l1 l2; (try k_lt l1); (try k_lt2 l2); (try k_sweep))
  k_with "binaryOp Mult int int" => (k_here; refine mul_int ?_ (by first | exact mulOk60 (by omega) (by omega) (by omega) (by omega) | mul_fits))
  k_with "call builtin:len" => (k_here; refine r_len (by first | omega | (simp only [List.length_append, List.length_cons, List.length_nil]; omega)) ?_; intro t9 k9)
  k_with "subscriptTail Attribute Attribute str int" => (k_here; (with_reducible show wpAny _ _ (subscriptTail _ _ (Value.str (S _) _) (Value.int _ _)) _ _ _); k_dflt (refine r_item (by omega) (by omega) (by omega) ?_); intro t9 k9)
  k_with "compareOp In str str" => (k_here; refine r_in ?_)
  k_with "subscriptTail Attribute Slice str ref" => (k_here; (with_reducible show wpAny _ _ (subscriptTail _ (Expr.Slice (some _) (some _) none _) (Value.str (S _) _) (Value.ref _)) _ _ _); (with_reducible rename Fr _ _ _ _ => Fz); (with_reducible rename News _ _ _ _ => Nz); k_dflt (refine r_slice (s := ⟨_, _, _, _, _⟩) Fz Nz (by omega) (by omega) (by omega) (by omega) ?_); intro h9 t9 k9 F9 N9; (try k_sweep))
  k_with "compareOp Eq str str" => (k_here; first | refine r_eq_f (by assumption) ?_ | refine r_eq_t (by assumption) ?_ | refine r_eq ?_)
  k_with "compareOp NotEq str str" => (k_here; first | refine r_ne_t (by assumption) ?_ | refine r_ne_f (by assumption) ?_ | refine r_ne ?_)
  k_with "ite" => (first | refine if_f ?_ | refine if_t ?_)
  k_with "getMethod ref" => (k_here; (with_reducible show wpAny _ _ (getMethod (Value.ref _) (Str.ofString "get") _) _ _ _); (with_reducible rename Fr _ _ _ _ => Fz); k_dflt (refine b_getm (Fz.keep _ _ (by with_reducible assumption)) (by with_reducible assumption) ?_))
  k_with "call builtin:dict.get" => (k_here; (with_reducible rename Fr _ _ _ _ => Fz); k_dflt (first | refine b_get1 (Fz.keep _ _ (by with_reducible assumption)) (by with_reducible assumption) (by with_reducible assumption) (by with_reducible assumption) ?_ | refine b_get0 (Fz.keep _ _ (by with_reducible assumption)) (by with_reducible assumption) (by with_reducible assumption) (by with_reducible assumption) ?_))
  k_with "compareOp In str ref" => (k_here; (with_reducible show wpAny _ _ (compareOp CmpOp.In (Value.str _ _) (Value.ref _)) _ _ _); (with_unfolding_all refine' in_tuple_b ?k1 ?k2 ?k3 ?_; (case k1 => exact News.isTup (by k_asm) (by news_mem)); (case k2 => kde_strs); (case k3 => with_reducible assumption); k_whole))
  k_with "call ref" => (k_here; (with_reducible show wpAny _ _ (call (Value.ref 231) _ _) _ _ _); first | ((with_reducible rename Fr _ _ _ _ => Fz); (with_reducible rename News _ _ _ _ => Nz); (k_dflt (refine' length2_spec' (rd_of ?B Fz ?X ?T rfl rfl ?d ?u) ?p0 ?p1 ?p2 ?p3 ?p4 ?p5 ?_; (case B => assumption); (case X => assumption); (case T => assumption); (case d => (first | ((with_reducible apply dle); (with_reducible assumption); exact rfl) | omega)); (case u => (first | ((with_reducible apply ule); (with_reducible assumption); exact rfl) | omega)); (case p0 => (with_reducible assumption)); (case p1 => (first | exact Nz.get (by k_mem) | exact Fz.keep _ _ (by with_reducible assumption) | exact Fz.keep _ _ (by assumption) | exact Fz.keep _ _ ((by assumption : Frag.In _ _) _ _ (by k_is)))); (case p2 => (first | with_reducible assumption | omega)); (case p3 => (first | with_reducible assumption | omega)); (case p4 => (first | with_reducible assumption | omega)); (case p5 => (first | with_reducible assumption | omega)); k_whole)); intro r9 t9 u9 h9 tk9 st9 hl9 hr9; k_dflt ((refine back1_k Fz Nz st9 hl9 hr9 ?_; intro F9 N9 l9 m9)); clear Fz Nz st9 hl9 hr9; (try k_lt l9); (try k_lt2 m9); (try dsimp only); (try k_fold)) | refine Stop.go ?_)
  trivial
theorem told3_spec {w : World} {A : Around} {s : Shared} {x dx ex dex wa ha da ch : Addr} {nv tv : Value} {o : Obj} {kvs : List (Str × Value)} {h1 h2 h3 h4 h5 h6 : Int} {k1 k2 k3 k4 k5 k6 : Tok} {nm : Str} {tn tl : Tok} {l : List Nat} {d1 d2 : Int} {tw tw' th th' : Tok} {dn : Bool} {Q E : Value → Shared → Prop}
    (R : Rd (hd.heap_1 w.params) 9 A s.heap s) (hx : s.heap.get? x = some (instObj 415 dx)) (hdx : s.heap.get? dx = some (frameD wa ha h1 h2 k1 k2)) (hex : s.heap.get? ex = some (instObj 378 dex)) (hdex : s.heap.get? dex = some (elemD nv da ch tv h3 h4 h5 h6 k3 k4 k5 k6)) (hda : s.heap.get? da = some o) (hdo : o.IsDictOf (PySem.strKind PySem.Challenge.rw_pf0197_01.row.prog w) kvs) (hlo : (da == sysModules) = false) (hw : s.heap.get? wa = some (tup2 200 1 tw tw')) (hh : s.heap.get? ha = some (tup2 50 1 th th')) (hval : valueAt kvs nm = some (.str (S l) tl)) (hin : downNames.any (· == nm) = dn) (hR : Reads l (if dn then 50 else 200) 1 16 1 d1 d2)
    (hret : ∀ r t t' h' tk', s.heap.StaysIn h' → s.heap.objs.size ≤ r → h'.get? r = some (tup2 d1 d2 t t') → Q (.ref r) { s with heap := h', toks := tk' }) :
    wpAny (model PySem.Challenge.rw_pf0197_01.row.prog w) A (call (.ref 404) [.ref x, .ref ex, .str nm tn] []) Q E s := by
  revert R; k_fill; intro R
  refine' enter (news := []) (args := ⟨[.ref x, .ref ex, .str nm tn], []⟩) (binds := [(Str.ofString "self", .ref x), (Str.ofString "element", .ref ex), (Str.ofString "name", .str nm tn), (Str.ofString "other", .none)]) R ?foot ?ho ?hcd ?hbind ?hloc ?h ?hcell ?hco ?hgen ?hk
  case foot => intro p hp; cases hp
  case ho => k_is
  case hcd => k_is
  case hbind => exact binds_K (R.X.keeps R.st) rfl (by k_is) rfl rfl rfl
  case hloc => exact locs rfl
  case hcell => decide
  case hco => exact rfl
  case hgen => exact rfl
  case hk => exact rfl
  clear R
  intro base dp un outer p loose mean mg mb L h₁ F' N' B' X' T' hDp hUn hl hs hA
  clear hA
  (try dsimp only); (try k_fold)
  cases dn
  all_goals (try simp only [if_true, if_false, Bool.false_eq_true] at hR)
  all_goals k_steps
  all_goals (with_reducible rename Fr _ _ _ _ => Fz)
  all_goals (with_reducible rename News _ _ _ _ => Nz)
  all_goals exact hret _ _ _ _ _ Fz.keep (under hs (by with_reducible assumption)) (Nz.get (List.mem_cons_self ..))
theorem told4_spec {w : World} {A : Around} {s : Shared} {x dx ex dex wa ha da ch : Addr} {nv tv : Value} {o : Obj} {kvs : List (Str × Value)} {h1 h2 h3 h4 h5 h6 : Int} {k1 k2 k3 k4 k5 k6 : Tok} {nm : Str} {tn tl : Tok} {l : List Nat} {d1 d2 : Int} {tw tw' th th' : Tok} {dn : Bool} {Q E : Value → Shared → Prop}
    (R : Rd (hd.heap_1 w.params) 9 A s.heap s) (hx : s.heap.get? x = some (instObj 415 dx)) (hdx : s.heap.get? dx = some (frameD wa ha h1 h2 k1 k2)) (hex : s.heap.get? ex = some (instObj 378 dex)) (hdex : s.heap.get? dex = some (elemD nv da ch tv h3 h4 h5 h6 k3 k4 k5 k6)) (hda : s.heap.get? da = some o) (hdo : o.IsDictOf (PySem.strKind PySem.Challenge.rw_pf0197_01.row.prog w) kvs) (hlo : (da == sysModules) = false) (hw : s.heap.get? wa = some (tup2 200 1 tw tw')) (hh : s.heap.get? ha = some (tup2 50 1 th th')) (hval : valueAt kvs nm = some (.str (S l) tl)) (hin : downNames.any (· == nm) = dn) (hR : Reads l (if dn then 50 else 200) 1 16 1 d1 d2)
    (hret : ∀ r t t' h' tk', s.heap.StaysIn h' → s.heap.objs.size ≤ r → h'.get? r = some (tup2 d1 d2 t t') → Q (.ref r) { s with heap := h', toks := tk' }) :
    wpAny (model PySem.Challenge.rw_pf0197_01.row.prog w) A (call (.ref 404) [.ref x, .ref ex, .str nm tn, .none] []) Q E s := by
  revert R; k_fill; intro R
  refine' enter (news := []) (args := ⟨[.ref x, .ref ex, .str nm tn, .none], []⟩) (binds := [(Str.ofString "self", .ref x), (Str.ofString "element", .ref ex), (Str.ofString "name", .str nm tn), (Str.ofString "other", .none)]) R ?foot ?ho ?hcd ?hbind ?hloc ?h ?hcell ?hco ?hgen ?hk
  case foot => intro p hp; cases hp
  case ho => k_is
  case hcd => k_is
  case hbind => exact binds_K (R.X.keeps R.st) rfl (by k_is) rfl rfl rfl
  case hloc => exact locs rfl
  case hcell => decide
  case hco => exact rfl
  case hgen => exact rfl
  case hk => exact rfl
  clear R
  intro base dp un outer p loose mean mg mb L h₁ F' N' B' X' T' hDp hUn hl hs hA
  clear hA
  (try dsimp only); (try k_fold)
  cases dn
  all_goals (try simp only [if_true, if_false, Bool.false_eq_true] at hR)
  all_goals k_steps
  all_goals (with_reducible rename Fr _ _ _ _ => Fz)
  all_goals (with_reducible rename News _ _ _ _ => Nz)
  all_goals exact hret _ _ _ _ _ Fz.keep (under hs (by with_reducible assumption)) (Nz.get (List.mem_cons_self ..))
theorem told_none {w : World} {A : Around} {s : Shared} {x dx ex dex wa ha da ch : Addr} {nv tv : Value} {o : Obj} {kvs : List (Str × Value)} {h1 h2 h3 h4 h5 h6 : Int} {k1 k2 k3 k4 k5 k6 : Tok} {nm : Str} {tn : Tok} {Q E : Value → Shared → Prop}
    (R : Rd (hd.heap_1 w.params) 9 A s.heap s) (hx : s.heap.get? x = some (instObj 415 dx)) (hdx : s.heap.get? dx = some (frameD wa ha h1 h2 k1 k2)) (hex : s.heap.get? ex = some (instObj 378 dex)) (hdex : s.heap.get? dex = some (elemD nv da ch tv h3 h4 h5 h6 k3 k4 k5 k6)) (hda : s.heap.get? da = some o) (hdo : o.IsDictOf (PySem.strKind PySem.Challenge.rw_pf0197_01.row.prog w) kvs) (hlo : (da == sysModules) = false) (hval : valueAt kvs nm = none)
    (hret : ∀ h' tk', s.heap.StaysIn h' → Q (.ref 66) { s with heap := h', toks := tk' }) :
    wpAny (model PySem.Challenge.rw_pf0197_01.row.prog w) A (call (.ref 404) [.ref x, .ref ex, .str nm tn] []) Q E s := by
  revert R; k_fill; intro R
  refine' enter (news := []) (args := ⟨[.ref x, .ref ex, .str nm tn], []⟩) (binds := [(Str.ofString "self", .ref x), (Str.ofString "element", .ref ex), (Str.ofString "name", .str nm tn), (Str.ofString "other", .none)]) R ?foot ?ho ?hcd ?hbind ?hloc ?h ?hcell ?hco ?hgen ?hk
  case foot => intro p hp; cases hp
  case ho => k_is
  case hcd => k_is
  case hbind => exact binds_K (R.X.keeps R.st) rfl (by k_is) rfl rfl rfl
  case hloc => exact locs rfl
  case hcell => decide
  case hco => exact rfl
  case hgen => exact rfl
  case hk => exact rfl
  clear R
  intro base dp un outer p loose mean mg mb L h₁ F' N' B' X' T' hDp hUn hl hs hA
  clear hA
  (try dsimp only); (try k_fold)
  k_steps
  (with_reducible rename Fr _ _ _ _ => Fz)
  (with_reducible rename News _ _ _ _ => Nz)
  exact hret _ _ Fz.keep
theorem told_other {w : World} {A : Around} {s : Shared} {x dx ex dex wa ha da ch : Addr} {nv tv : Value} {o : Obj} {kvs : List (Str × Value)} {h1 h2 h3 h4 h5 h6 : Int} {k1 k2 k3 k4 k5 k6 : Tok} {nm : Str} {tn : Tok} {r : Addr} {Q E : Value → Shared → Prop}
    (R : Rd (hd.heap_1 w.params) 9 A s.heap s) (hx : s.heap.get? x = some (instObj 415 dx)) (hdx : s.heap.get? dx = some (frameD wa ha h1 h2 k1 k2)) (hex : s.heap.get? ex = some (instObj 378 dex)) (hdex : s.heap.get? dex = some (elemD nv da ch tv h3 h4 h5 h6 k3 k4 k5 k6)) (hda : s.heap.get? da = some o) (hdo : o.IsDictOf (PySem.strKind PySem.Challenge.rw_pf0197_01.row.prog w) kvs) (hlo : (da == sysModules) = false) (hval : valueAt kvs nm = none)
    (hret : ∀ h' tk', s.heap.StaysIn h' → Q (.ref r) { s with heap := h', toks := tk' }) :
    wpAny (model PySem.Challenge.rw_pf0197_01.row.prog w) A (call (.ref 404) [.ref x, .ref ex, .str nm tn, .ref r] []) Q E s := by
  revert R; k_fill; intro R
  refine' enter (news := []) (args := ⟨[.ref x, .ref ex, .str nm tn, .ref r], []⟩) (binds := [(Str.ofString "self", .ref x), (Str.ofString "element", .ref ex), (Str.ofString "name", .str nm tn), (Str.ofString "other", .ref r)]) R ?foot ?ho ?hcd ?hbind ?hloc ?h ?hcell ?hco ?hgen ?hk
  case foot => intro p hp; cases hp
  case ho => k_is
  case hcd => k_is
  case hbind => exact binds_K (R.X.keeps R.st) rfl (by k_is) rfl rfl rfl
  case hloc => exact locs rfl
  case hcell => decide
  case hco => exact rfl
  case hgen => exact rfl
  case hk => exact rfl
  clear R
  intro base dp un outer p loose mean mg mb L h₁ F' N' B' X' T' hDp hUn hl hs hA
  clear hA
  (try dsimp only); (try k_fold)
  k_steps
  (with_reducible rename Fr _ _ _ _ => Fz)
  (with_reducible rename News _ _ _ _ => Nz)
  exact hret _ _ Fz.keep
end Mine
end
section --C27
set_option maxHeartbeats 1600000
namespace Mine
theorem lnC27a : True := by
  k_with_none
  k_with "a1" => (first | with_reducible assumption | ((with_reducible apply Mine.ltm); (with_reducible assumption); k_mem))
  k_with "a2" => (first | with_reducible exact Mine.lss | with_reducible exact Mine.ltp (by assumption) | with_reducible exact Mine.ltp (Mine.ltp (by assumption)) | with_reducible exact Mine.ltp (Mine.ltp (Mine.ltp (by assumption))) | ((with_reducible refine Mine.lts ?_); first | with_reducible exact Mine.lss | k_memK) | ((with_reducible refine Mine.lts (Mine.lts ?_)); first | with_reducible exact Mine.lss | k_memK) | ((with_reducible refine Mine.lts (Mine.lts (Mine.lts ?_))); k_memK))
  k_with "a3" => (first | k_cls | ((with_reducible apply Mine.ltr); (with_reducible assumption); first | k_memK | k_cls) | ((with_reducible apply Mine.ltr); (with_reducible exact Mine.ltp (by assumption)); first | k_memK | k_cls))
  k_with "a4" => (first | with_reducible exact Mine.neAll (by assumption) | with_reducible exact Mine.neNil | ((with_reducible refine Mine.neCons ?_ ?_); k_ne; k_all))
  k_with "a5" => (first | with_reducible exact Mine.subNil | with_reducible exact Mine.subSame | ((with_reducible refine Mine.subCons ?_ ?_); k_mem; k_subL) | ((with_reducible refine Mine.subApp ?_ ?_); k_subL; k_subL) | ((with_reducible refine Mine.subTail ?_); k_subL))
  k_with "a6" => (first | with_reducible assumption | ((with_reducible show @Ne Nat _ _); first | ((with_reducible refine Mine.nlt ?_); k_memK) | ((with_reducible refine Mine.ngt ?_); k_memK) | (with_reducible exact Ne.symm (by assumption)) | ((with_reducible refine Mine.nlt ?_); k_types) | ((with_reducible refine Mine.ngt ?_); k_types)) | ((with_reducible apply Mine.dq0); (with_reducible assumption); decide) | ((with_reducible apply Mine.dq1); (with_reducible assumption); decide) | ((with_reducible apply Mine.dq2); (with_reducible assumption); decide) | ((with_reducible apply Mine.dq3); (with_reducible assumption); decide) | ((with_reducible apply Mine.dq4); (with_reducible assumption); decide) | ((with_reducible first | apply Mine.il1 | apply Mine.il3); (with_reducible assumption); decide) | ((with_reducible first | apply Mine.il2 | apply Mine.il4); (with_reducible assumption); decide) | ((with_reducible first | apply Mine.iu1 | apply Mine.iu3); (with_reducible assumption); decide) | ((with_reducible first | apply Mine.iu2 | apply Mine.iu4); (with_reducible assumption); decide) | ((with_reducible first | apply Mine.nl3 | apply Mine.nl2); (with_reducible assumption); decide) | ((with_reducible first | apply Mine.nu1 | apply Mine.nu3); (with_reducible assumption); decide) | ((with_reducible first | apply Mine.nu2 | apply Mine.nu4); (with_reducible assumption); decide) | ((with_reducible show @LT.lt Nat _ _ _); first | k_memK | k_types) | decide)
  k_with "a7" => (repeat (rename ∀ _ ∈ (_ : List (Addr × Obj)), @LT.lt Nat _ _ _ => hrw; replace hrw := allLt_of hrw; dsimp only [AllLt] at hrw))
  k_with "a8" => (first | (k_whole; kc_bool) | omega +splitDisjunctions | (k_whole; k_units; omega +splitDisjunctions))
  k_with "a9" => (first | (k_whole; kc_bool) | lia | omega +splitDisjunctions)
  k_with "eval Call" => ((fail_if_success (fail_if_success k_fold)); refine foldL ?_; intro qk ek; walk1)
  k_with "eval BinOp" => ((fail_if_success (fail_if_success k_fold)); refine foldL ?_; intro qk ek; walk1)
  k_with "eval Tuple" => ((fail_if_success (fail_if_success k_fold)); refine foldL ?_; intro qk ek; walk1)
  k_with "isTrue Compare" => ((fail_if_success (fail_if_success k_fold)); refine foldL ?_; intro qk ek; walk1)
  k_with "eval Subscript" => ((fail_if_success (fail_if_success k_fold)); refine foldL ?_; intro qk ek; walk1)
  k_with "exec Assign" => ((fail_if_success (fail_if_success k_fold)); refine foldL ?_; intro qk ek; walk1)
  k_with "eval List" => ((fail_if_success (fail_if_success k_fold)); refine foldL ?_; intro qk ek; walk1)
  k_with "eval Attribute" => ((fail_if_success (fail_if_success k_fold)); refine foldL ?_; intro qk ek; walk1)
  k_with "eval UnaryOp" => ((fail_if_success (fail_if_success k_fold)); refine foldL ?_; intro qk ek; walk1)
  k_with "callWith ref" => ((fail_if_success (fail_if_success k_fold)); refine foldL ?_; intro qk ek; walk1)
  k_with "callWith" => ((fail_if_success (fail_if_success k_fold)); refine foldL ?_; intro qk ek; walk1)
  k_with "subscriptTail Name Constant ref int" => (k_here; first | refine tup_item0 (by assumption) (by assumption) ?_ | refine tup_item1 (by assumption) (by assumption) ?_)
  k_with "exec While" => (k_here; refine Stop.go ?_)
  k_with "binaryOp FloorDiv int int" => (k_here; refine floordiv_int (by first | decide | omega) ?_ (Or.inl (noPyl (by first | decide | omega) (by first | decide | omega))))
  k_with "newTuple" => (k_here; k_dflt (refine' newTuple_mine ?k1 ?k2 ?_ ?k3; (case k1 => k_asm); (case k2 => k_asm); (case k3 => first | decide | (exact Nat.le_of_ble_eq_true rfl) | (simp only [sizeLine_eq]; simp))); intro D' h' F' N' l1 l2; (try k_lt l1); (try k_lt2 l2); (try k_sweep))
  k_with "binaryOp Mult int int" => (k_here; refine mul_int ?_ (by first | exact mulOk60 (by omega) (by omega) (by omega) (by omega) | mul_fits))
  k_with "call builtin:len" => (k_here; refine r_len (by first | omega | (simp only [List.length_append, List.length_cons, List.length_nil]; omega)) ?_; intro t9 k9)
  k_with "subscriptTail Attribute Attribute str int" => (k_here; (with_reducible show wpAny _ _ (subscriptTail _ _ (Value.str (S _) _) (Value.int _ _)) _ _ _); k_dflt (refine r_item (by omega) (by omega) (by omega) ?_); intro t9 k9)
  k_with "compareOp In str str" => (k_here; refine r_in ?_)
  k_with "subscriptTail Attribute Slice str ref" => (k_here; (with_reducible show wpAny _ _ (subscriptTail _ (Expr.Slice (some _) (some _) none _) (Value.str (S _) _) (Value.ref _)) _ _ _); (with_reducible rename Fr _ _ _ _ => Fz); (with_reducible rename News _ _ _ _ => Nz); k_dflt (refine r_slice (s := ⟨_, _, _, _, _⟩) Fz Nz (by omega) (by omega) (by omega) (by omega) ?_); intro h9 t9 k9 F9 N9; (try k_sweep))
  k_with "compareOp Eq str str" => (k_here; first | refine r_eq_f (by assumption) ?_ | refine r_eq_t (by assumption) ?_ | refine r_eq ?_)
  k_with "compareOp NotEq str str" => (k_here; first | refine r_ne_t (by assumption) ?_ | refine r_ne_f (by assumption) ?_ | refine r_ne ?_)
  k_with "ite" => (first | refine if_f ?_ | refine if_t ?_)
  k_with "getMethod ref" => (k_here; (with_reducible show wpAny _ _ (getMethod (Value.ref _) (Str.ofString "get") _) _ _ _); (with_reducible rename Fr _ _ _ _ => Fz); k_dflt (refine b_getm (Fz.keep _ _ (by with_reducible assumption)) (by with_reducible assumption) ?_))
  k_with "call builtin:dict.get" => (k_here; (with_reducible rename Fr _ _ _ _ => Fz); k_dflt (first | refine b_get1 (Fz.keep _ _ (by with_reducible assumption)) (by with_reducible assumption) (by with_reducible assumption) (by with_reducible assumption) ?_ | refine b_get0 (Fz.keep _ _ (by with_reducible assumption)) (by with_reducible assumption) (by with_reducible assumption) (by with_reducible assumption) ?_))
  k_with "compareOp In str ref" => (k_here; (with_reducible show wpAny _ _ (compareOp CmpOp.In (Value.str _ _) (Value.ref _)) _ _ _); (with_unfolding_all refine' in_tuple_b ?k1 ?k2 ?k3 ?_; (case k1 => exact News.isTup (by k_asm) (by news_mem)); (case k2 => kde_strs); (case k3 => with_reducible assumption); k_whole))
  k_with "call ref" => (k_here; (with_reducible show wpAny _ _ (call (Value.ref 404) _ _) _ _ _); first | ((with_reducible rename Fr _ _ _ _ => Fz); (with_reducible rename News _ _ _ _ => Nz); (k_dflt (refine' told4_spec (rd_of ?B Fz ?X ?T rfl rfl ?d ?u) ?p0 ?p1 ?p2 ?p3 ?p4 ?p5 ?p6 ?p7 ?p8 ?p9 ?p10 ?p11 ?_; (case B => assumption); (case X => assumption); (case T => assumption); (case d => (first | ((with_reducible apply dle); (with_reducible assumption); exact rfl) | omega)); (case u => (first | ((with_reducible apply ule); (with_reducible assumption); exact rfl) | omega)); (case p0 => (first | exact Nz.get (by k_mem) | exact Fz.keep _ _ (by with_reducible assumption) | exact Fz.keep _ _ (by assumption) | exact Fz.keep _ _ ((by assumption : Frag.In _ _) _ _ (by k_is)))); (case p1 => (first | exact Nz.get (by k_mem) | exact Fz.keep _ _ (by with_reducible assumption) | exact Fz.keep _ _ (by assumption) | exact Fz.keep _ _ ((by assumption : Frag.In _ _) _ _ (by k_is)))); (case p2 => (first | exact Nz.get (by k_mem) | exact Fz.keep _ _ (by with_reducible assumption) | exact Fz.keep _ _ (by assumption) | exact Fz.keep _ _ ((by assumption : Frag.In _ _) _ _ (by k_is)))); (case p3 => (first | exact Nz.get (by k_mem) | exact Fz.keep _ _ (by with_reducible assumption) | exact Fz.keep _ _ (by assumption) | exact Fz.keep _ _ ((by assumption : Frag.In _ _) _ _ (by k_is)))); (case p4 => (first | exact Nz.get (by k_mem) | exact Fz.keep _ _ (by with_reducible assumption) | exact Fz.keep _ _ (by assumption) | exact Fz.keep _ _ ((by assumption : Frag.In _ _) _ _ (by k_is)))); (case p5 => (with_reducible assumption)); (case p6 => (with_reducible assumption)); (case p7 => (first | exact Nz.get (by k_mem) | exact Fz.keep _ _ (by with_reducible assumption) | exact Fz.keep _ _ (by assumption) | exact Fz.keep _ _ ((by assumption : Frag.In _ _) _ _ (by k_is)))); (case p8 => (first | exact Nz.get (by k_mem) | exact Fz.keep _ _ (by with_reducible assumption) | exact Fz.keep _ _ (by assumption) | exact Fz.keep _ _ ((by assumption : Frag.In _ _) _ _ (by k_is)))); (case p9 => (with_reducible assumption)); (case p10 => (with_reducible assumption)); (case p11 => (with_reducible assumption)); k_whole)); intro r9 t9 u9 h9 tk9 st9 hl9 hr9; k_dflt ((refine back1_k Fz Nz st9 hl9 hr9 ?_; intro F9 N9 l9 m9)); clear Fz Nz st9 hl9 hr9; (try k_lt l9); (try k_lt2 m9); (try dsimp only); (try k_fold)) | refine Stop.go ?_)
  k_with "call ref" => (k_here; (with_reducible show wpAny _ _ (call (Value.ref 116) _ _) _ _ _); first | ((with_reducible rename Fr _ _ _ _ => Fz); (with_reducible rename News _ _ _ _ => Nz); (k_dflt (refine' compare_spec (rd_of ?B Fz ?X ?T rfl rfl ?d ?u) ?p0 ?p1 ?p2 ?p3 ?p4 ?p5 ?p6 ?p7 ?p8 ?p9 ?_; (case B => assumption); (case X => assumption); (case T => assumption); (case d => (first | ((with_reducible apply dle); (with_reducible assumption); exact rfl) | omega)); (case u => (first | ((with_reducible apply ule); (with_reducible assumption); exact rfl) | omega)); (case p0 => (first | exact Nz.get (by k_mem) | exact Fz.keep _ _ (by with_reducible assumption) | exact Fz.keep _ _ (by assumption) | exact Fz.keep _ _ ((by assumption : Frag.In _ _) _ _ (by k_is)))); (case p1 => (first | exact Nz.get (by k_mem) | exact Fz.keep _ _ (by with_reducible assumption) | exact Fz.keep _ _ (by assumption) | exact Fz.keep _ _ ((by assumption : Frag.In _ _) _ _ (by k_is)))); (case p2 => (first | with_reducible assumption | omega)); (case p3 => (first | with_reducible assumption | omega)); (case p4 => (first | with_reducible assumption | omega)); (case p5 => (first | with_reducible assumption | omega)); (case p6 => (first | with_reducible assumption | omega)); (case p7 => (first | with_reducible assumption | omega)); (case p8 => (first | with_reducible assumption | omega)); (case p9 => (first | with_reducible assumption | omega)); k_whole)); intro t9 h9 tk9 st9; k_dflt ((refine back_k Fz Nz st9 ?_; intro F9 N9)); clear Fz Nz st9; (try dsimp only); (try k_fold)) | refine Stop.go ?_)
  k_with "exec Raise some none" => (k_here; refine raise_cls 63 ?_)
  k_with "call ref" => ((with_reducible show wpAny _ _ (call (Value.ref 63) _ _) _ _ _); refine Stop.go ?_)
  k_with "binaryOp Add str str" => (k_here; (refine r_add_any (by first | omega | decide +kernel) (by first | omega | decide +kernel) ?_); intro z9 t9 k9)
  trivial
theorem size_spec {w : World} {A : Around} {s : Shared} {x dx ex dex wa ha da ch : Addr} {nv tv : Value} {o : Obj} {kvs : List (Str × Value)} {h1 h2 h3 h4 h5 h6 : Int} {k1 k2 k3 k4 k5 k6 : Tok} {nm : Str} {tn tl : Tok} {l : List Nat} {d1 d2 : Int} {tw tw' th th' : Tok} {dn : Bool} {Q E : Value → Shared → Prop}
    (R : Rd (hd.heap_1 w.params) 10 A s.heap s) (hx : s.heap.get? x = some (instObj 415 dx)) (hdx : s.heap.get? dx = some (frameD wa ha h1 h2 k1 k2)) (hex : s.heap.get? ex = some (instObj 378 dex)) (hdex : s.heap.get? dex = some (elemD nv da ch tv h3 h4 h5 h6 k3 k4 k5 k6)) (hda : s.heap.get? da = some o) (hdo : o.IsDictOf (PySem.strKind PySem.Challenge.rw_pf0197_01.row.prog w) kvs) (hlo : (da == sysModules) = false) (hw : s.heap.get? wa = some (tup2 200 1 tw tw')) (hh : s.heap.get? ha = some (tup2 50 1 th th')) (hval : valueAt kvs nm = some (.str (S l) tl)) (hin : downNames.any (· == nm) = dn) (hR : Reads l (if dn then 50 else 200) 1 16 1 d1 d2) (hd10 : -1000000000000000000000000000000 < d1) (hd11 : d1 < 1000000000000000000000000000000) (hd20 : 0 < d2) (hd21 : d2 < 1000000000000000000000000000000) (hge : ¬ d1 < 0)
    (hret : ∀ r t t' h' tk', s.heap.StaysIn h' → s.heap.objs.size ≤ r → h'.get? r = some (tup2 d1 d2 t t') → Q (.ref r) { s with heap := h', toks := tk' }) :
    wpAny (model PySem.Challenge.rw_pf0197_01.row.prog w) A (call (.ref 412) [.ref x, .ref ex, .str nm tn] []) Q E s := by
  revert R; k_fill; intro R
  refine' enter (news := []) (args := ⟨[.ref x, .ref ex, .str nm tn], []⟩) (binds := [(Str.ofString "self", .ref x), (Str.ofString "element", .ref ex), (Str.ofString "name", .str nm tn), (Str.ofString "other", .none)]) R ?foot ?ho ?hcd ?hbind ?hloc ?h ?hcell ?hco ?hgen ?hk
  case foot => intro p hp; cases hp
  case ho => k_is
  case hcd => k_is
  case hbind => exact binds_K (R.X.keeps R.st) rfl (by k_is) rfl rfl rfl
  case hloc => exact locs rfl
  case hcell => decide
  case hco => exact rfl
  case hgen => exact rfl
  case hk => exact rfl
  clear R
  intro base dp un outer p loose mean mg mb L h₁ F' N' B' X' T' hDp hUn hl hs hA
  clear hA
  (try dsimp only); (try k_fold)
  have e0 : signF (d1 * 1 - 0 * d2) = signF d1 := by congr 1; omega
  have q0 : ¬ signF (d1 * 1 - 0 * d2) < 0 := by rw [e0]; simp only [signF, gt_iff_lt]; split <;> (try split) <;> omega
  clear e0
  k_steps
  (with_reducible rename Fr _ _ _ _ => Fz)
  (with_reducible rename News _ _ _ _ => Nz)
  exact hret _ _ _ _ _ Fz.keep (under hs (by with_reducible assumption)) (Nz.get (by k_mem))
theorem size_raise {w : World} {A : Around} {s : Shared} {x dx ex dex wa ha da ch : Addr} {nv tv : Value} {o : Obj} {kvs : List (Str × Value)} {h1 h2 h3 h4 h5 h6 : Int} {k1 k2 k3 k4 k5 k6 : Tok} {nm : Str} {tn tl : Tok} {l : List Nat} {d1 d2 : Int} {tw tw' th th' : Tok} {dn : Bool} {Q E : Value → Shared → Prop}
    (R : Rd (hd.heap_1 w.params) 10 A s.heap s) (hx : s.heap.get? x = some (instObj 415 dx)) (hdx : s.heap.get? dx = some (frameD wa ha h1 h2 k1 k2)) (hex : s.heap.get? ex = some (instObj 378 dex)) (hdex : s.heap.get? dex = some (elemD nv da ch tv h3 h4 h5 h6 k3 k4 k5 k6)) (hda : s.heap.get? da = some o) (hdo : o.IsDictOf (PySem.strKind PySem.Challenge.rw_pf0197_01.row.prog w) kvs) (hlo : (da == sysModules) = false) (hw : s.heap.get? wa = some (tup2 200 1 tw tw')) (hh : s.heap.get? ha = some (tup2 50 1 th th')) (hval : valueAt kvs nm = some (.str (S l) tl)) (hin : downNames.any (· == nm) = dn) (hR : Reads l (if dn then 50 else 200) 1 16 1 d1 d2) (hd10 : -1000000000000000000000000000000 < d1) (hd11 : d1 < 1000000000000000000000000000000) (hd20 : 0 < d2) (hd21 : d2 < 1000000000000000000000000000000) (hlt : d1 < 0) (hnm : nm.length ≤ 100)
    (hraise : ∀ outer e h' tk', A.frames = some outer → Flown .none outer s.heap [] h' e 63 → E (.ref e) { s with heap := h', toks := tk' }) :
    wpAny (model PySem.Challenge.rw_pf0197_01.row.prog w) A (call (.ref 412) [.ref x, .ref ex, .str nm tn] []) Q E s := by
  revert R; k_fill; intro R
  refine' enter (news := []) (args := ⟨[.ref x, .ref ex, .str nm tn], []⟩) (binds := [(Str.ofString "self", .ref x), (Str.ofString "element", .ref ex), (Str.ofString "name", .str nm tn), (Str.ofString "other", .none)]) R ?foot ?ho ?hcd ?hbind ?hloc ?h ?hcell ?hco ?hgen ?hk
  case foot => intro p hp; cases hp
  case ho => k_is
  case hcd => k_is
  case hbind => exact binds_K (R.X.keeps R.st) rfl (by k_is) rfl rfl rfl
  case hloc => exact locs rfl
  case hcell => decide
  case hco => exact rfl
  case hgen => exact rfl
  case hk => exact rfl
  clear R
  intro base dp un outer p loose mean mg mb L h₁ F' N' B' X' T' hDp hUn hl hs hA
  (try dsimp only); (try k_fold)
  have e0 : signF (d1 * 1 - 0 * d2) = signF d1 := by congr 1; omega
  have q0 : signF (d1 * 1 - 0 * d2) < 0 := by rw [e0]; simp only [signF, gt_iff_lt]; split <;> (try split) <;> omega
  clear e0
  k_steps
  refine Stop.out ?_
  (with_reducible rename Fr _ _ _ _ => Fz)
  refine made_raise (X'.keeps Fz.keep) (T'.nolimit.keeps Fz.keep) (by show dp + 1 < 980; omega) rfl (by k_is) (by k_is) (by k_is) rfl (by k_is) ?_
  intro h8 e8 tk8 oe8 t8 y1 y2 y3 y4 y5
  refine leave_new (own := []) B' Fz (fun q hq => nomatch hq) y1 y2 y3 y4 y5 rfl rfl fun h9 f9 => ?_
  exact hraise outer e8 h9 tk8 (by rw [hA]) f9
end Mine
end
section --C32
set_option maxHeartbeats 1600000
namespace Mine
theorem tab_mem {g h : Heap} {L : Addr} {l : List (Addr × Obj)} {a : Addr} {ps : Array Value} (_ : News g L h l) (hm : (a, tabObj ps) ∈ l) : (a, tabObj ps) ∈ l := hm
theorem strs_mem {vs : List Value} {ys : List Str} {v : Value} (h : StrsAre vs ys) : v ∈ vs → ∃ nm t, v = .str nm t ∧ nm ∈ ys := by
  induction h with
  | nil => exact fun h => absurd h List.not_mem_nil
  | cons y t r ih => exact fun h => (List.mem_cons.mp h).elim (fun e => ⟨y, t, e, .head _⟩) fun h => (ih h).elim fun nm q => q.elim fun t' q => ⟨nm, t', q.1, .tail _ q.2⟩
noncomputable abbrev allNames : List Str := [Str.ofString "x", Str.ofString "y", Str.ofString "cx", Str.ofString "cy", Str.ofString "rx", Str.ofString "ry", Str.ofString "width", Str.ofString "height", Str.ofString "r", Str.ofString "x1", Str.ofString "y2", Str.ofString "fx", Str.ofString "fy"]
noncomputable abbrev sixNames : List Str := [Str.ofString "y", Str.ofString "cy", Str.ofString "ry", Str.ofString "height", Str.ofString "y2", Str.ofString "fy"]
theorem names_ok : ∀ nm ∈ allNames, sixNames.any (· == nm) = downNames.any (· == nm) ∧ nm.length ≤ 100 ∧ nm ≠ Str.ofString "none" := by decide +kernel
theorem hid3 {h : Heap} {b : Addr} {ob : Obj} {p q r : Addr × Obj} (e : h.get? b = some ob) (n1 : b ≠ p.1) (n2 : b ≠ q.1) (n3 : b ≠ r.1) : (hideAll h ([p, q, r].map (·.1))).get? b = some ob := hideAll_get _ e (by simp [n1, n2, n3])
theorem in_list_b {prog : Program} {w : World} {A : Around} {E : Value → Shared → Prop} {s : Shared} {a : Addr} {vs : List Value} {ys : List Str} {x : Str} {u : Tok} {b : Bool} {Q : Value → Shared → Prop} (hl : s.heap.IsList a vs.toArray) (hi : StrsAre vs ys) (hb : ys.any (· == x) = b)
    (h : Q (.bool b) s) : wpAny (model prog w) A (compareOp .In (.str x u) (.ref a)) Q E s := in_list_strs hl hi (by rw [hb]; exact h)
theorem lnC32a : True := by
  k_with_none
  k_with "a1" => (first | with_reducible assumption | ((with_reducible apply Mine.ltm); (with_reducible assumption); k_mem))
  k_with "a2" => (first | with_reducible exact Mine.lss | with_reducible exact Mine.ltp (by assumption) | with_reducible exact Mine.ltp (Mine.ltp (by assumption)) | with_reducible exact Mine.ltp (Mine.ltp (Mine.ltp (by assumption))) | ((with_reducible refine Mine.lts ?_); first | with_reducible exact Mine.lss | k_memK) | ((with_reducible refine Mine.lts (Mine.lts ?_)); first | with_reducible exact Mine.lss | k_memK) | ((with_reducible refine Mine.lts (Mine.lts (Mine.lts ?_))); k_memK))
  k_with "a3" => (first | k_cls | ((with_reducible apply Mine.ltr); (with_reducible assumption); first | k_memK | k_cls) | ((with_reducible apply Mine.ltr); (with_reducible exact Mine.ltp (by assumption)); first | k_memK | k_cls))
  k_with "a4" => (first | with_reducible exact Mine.neAll (by assumption) | with_reducible exact Mine.neNil | ((with_reducible refine Mine.neCons ?_ ?_); k_ne; k_all))
  k_with "a5" => (first | with_reducible exact Mine.subNil | with_reducible exact Mine.subSame | ((with_reducible refine Mine.subCons ?_ ?_); k_mem; k_subL) | ((with_reducible refine Mine.subApp ?_ ?_); k_subL; k_subL) | ((with_reducible refine Mine.subTail ?_); k_subL))
  k_with "a6" => (first | with_reducible assumption | ((with_reducible show @Ne Nat _ _); first | ((with_reducible refine Mine.nlt ?_); k_memK) | ((with_reducible refine Mine.ngt ?_); k_memK) | (with_reducible exact Ne.symm (by assumption)) | ((with_reducible refine Mine.nlt ?_); k_types) | ((with_reducible refine Mine.ngt ?_); k_types)) | ((with_reducible apply Mine.dq0); (with_reducible assumption); decide) | ((with_reducible apply Mine.dq1); (with_reducible assumption); decide) | ((with_reducible apply Mine.dq2); (with_reducible assumption); decide) | ((with_reducible apply Mine.dq3); (with_reducible assumption); decide) | ((with_reducible apply Mine.dq4); (with_reducible assumption); decide) | ((with_reducible first | apply Mine.il1 | apply Mine.il3); (with_reducible assumption); decide) | ((with_reducible first | apply Mine.il2 | apply Mine.il4); (with_reducible assumption); decide) | ((with_reducible first | apply Mine.iu1 | apply Mine.iu3); (with_reducible assumption); decide) | ((with_reducible first | apply Mine.iu2 | apply Mine.iu4); (with_reducible assumption); decide) | ((with_reducible first | apply Mine.nl3 | apply Mine.nl2); (with_reducible assumption); decide) | ((with_reducible first | apply Mine.nu1 | apply Mine.nu3); (with_reducible assumption); decide) | ((with_reducible first | apply Mine.nu2 | apply Mine.nu4); (with_reducible assumption); decide) | ((with_reducible show @LT.lt Nat _ _ _); first | k_memK | k_types) | decide)
  k_with "a7" => (repeat (rename ∀ _ ∈ (_ : List (Addr × Obj)), @LT.lt Nat _ _ _ => hrw; replace hrw := allLt_of hrw; dsimp only [AllLt] at hrw))
  k_with "a8" => (first | (k_whole; kc_bool) | omega +splitDisjunctions | (k_whole; k_units; omega +splitDisjunctions))
  k_with "a9" => (first | (k_whole; kc_bool) | lia | omega +splitDisjunctions)
  k_with "b1" => ((show _ < 1000); (try simp only [depth_under_make, depth_under_kw, depth_in1, depth_deeper]); (try dsimp only); omega)
  k_with "eval Call" => ((fail_if_success (fail_if_success k_fold)); refine foldL ?_; intro qk ek; walk1)
  k_with "eval BinOp" => ((fail_if_success (fail_if_success k_fold)); refine foldL ?_; intro qk ek; walk1)
  k_with "eval Tuple" => ((fail_if_success (fail_if_success k_fold)); refine foldL ?_; intro qk ek; walk1)
  k_with "isTrue Compare" => ((fail_if_success (fail_if_success k_fold)); refine foldL ?_; intro qk ek; walk1)
  k_with "eval Subscript" => ((fail_if_success (fail_if_success k_fold)); refine foldL ?_; intro qk ek; walk1)
  k_with "exec Assign" => ((fail_if_success (fail_if_success k_fold)); refine foldL ?_; intro qk ek; walk1)
  k_with "eval List" => ((fail_if_success (fail_if_success k_fold)); refine foldL ?_; intro qk ek; walk1)
  k_with "eval Attribute" => ((fail_if_success (fail_if_success k_fold)); refine foldL ?_; intro qk ek; walk1)
  k_with "eval UnaryOp" => ((fail_if_success (fail_if_success k_fold)); refine foldL ?_; intro qk ek; walk1)
  k_with "callWith ref" => ((fail_if_success (fail_if_success k_fold)); refine foldL ?_; intro qk ek; walk1)
  k_with "callWith" => ((fail_if_success (fail_if_success k_fold)); refine foldL ?_; intro qk ek; walk1)
  k_with "newTuple" => (k_here; k_dflt (refine' newTuple_mine ?k1 ?k2 ?_ ?k3; (case k1 => k_asm); (case k2 => k_asm); (case k3 => first | decide | (exact Nat.le_of_ble_eq_true rfl) | (simp only [sizeLine_eq]; simp))); intro D' h' F' N' l1 l2; (try k_lt l1); (try k_lt2 l2); (try k_sweep))
  k_with "newList" => (k_here; k_dflt (refine' newList_mine ?k1 ?k2 ?_ ?k3; (case k1 => k_asm); (case k2 => k_asm); (case k3 => first | decide | (exact Nat.le_of_ble_eq_true rfl) | (simp only [sizeLine_eq]; simp))); intro D' h' F' N' l1 l2; (try k_lt l1); (try k_lt2 l2); (try k_sweep))
  k_with "subscriptTail Name Constant ref int" => (k_here; (with_reducible show wpAny _ _ (subscriptTail _ _ (Value.ref _) (Value.int 0 _)) _ _ _); (with_reducible rename Fr _ _ _ _ => Fz); first | (k_dflt (refine tup_item0 Fz (by with_reducible assumption) ?_)) | ((with_reducible rename News _ _ _ _ => Nz); (k_dflt (refine tupN_item0 Nz (by k_mem) ?_))))
  k_with "subscriptTail Name Constant ref int" => (k_here; (with_reducible show wpAny _ _ (subscriptTail _ _ (Value.ref _) (Value.int 1 _)) _ _ _); (with_reducible rename Fr _ _ _ _ => Fz); first | (k_dflt (refine tup_item1 Fz (by with_reducible assumption) ?_)) | ((with_reducible rename News _ _ _ _ => Nz); (k_dflt (refine tupN_item1 Nz (by k_mem) ?_))))
  k_with "ite" => (first | refine if_f ?_ | refine if_t ?_)
  k_with "callWith ref" => (k_here; k_dflt (first | (refine' callWith_K ?k1 ?k2 ?_; (case k1 => k_asm); (case k2 => k_is); k_whole) | (refine' callWith_K0 ?k1 ?k2 ?_; (case k1 => k_in); (case k2 => k_is); k_whole)))
  k_with "call ref" => ((with_reducible show wpAny _ _ (call (Value.ref 450) _ _) _ _ _); refine Stop.go ?_)
  k_with "call ref" => ((with_reducible show wpAny _ _ (call (Value.ref 464) _ _) _ _ _); refine Stop.go ?_)
  k_with "call ref" => ((with_reducible show wpAny _ _ (call (Value.ref 404) _ _) _ _ _); refine Stop.go ?_)
  k_with "call ref" => ((with_reducible show wpAny _ _ (call (Value.ref 412) _ _) _ _ _); refine Stop.go ?_)
  k_with "call ref" => ((with_reducible show wpAny _ _ (call (Value.ref 471) _ _) _ _ _); refine Stop.go ?_)
  k_with "eval Lambda" => (refine Stop.go ?_)
  k_with "compareOp NotEq ref ref" => (refine Stop.go ?_)
  k_with "compareOp Eq ref ref" => (refine Stop.go ?_)
  k_with "eval Dict" => (k_here; k_dflt (refine' kdn_eval (knd := PySem.strKind _ _) ?F ?N ?b ?a ?l ?e ?n ?_; (case F => k_asm); (case N => k_asm); (case b => exact Top.nolimit (by k_asm)); (case a => rfl); (case l => rfl); (case e => exact List.cons_ne_nil _ _); (case n => exact Nat.le_of_ble_eq_true rfl)); intro d' h' o' F' N' l1 lo' hd'; (try k_lt l1); (try k_sweep))
  k_with "compareOp In str ref" => (k_here; (with_reducible show wpAny _ _ (compareOp CmpOp.In (Value.str _ _) (Value.ref _)) _ _ _); (with_unfolding_all refine' in_list_b ?k1 ?k2 ?k3 ?_; (case k1 => exact News.isList (by k_asm) (by news_mem)); (case k2 => kde_strs); (case k3 => with_reducible assumption); k_whole))
  trivial
theorem lawframe_spec {w : World} {A : Around} {s : Shared} {x : Addr} {a b : Int} {ta tb : Tok} {g : Heap} {Q E : Value → Shared → Prop}
    (R : RdX (hd.heap_1 w.params) 14 A g s) (hfoot : ∀ p ∈ [(x, srcO a b ta tb), (499, tabObj #[])], s.heap.get? p.1 = some p.2 ∧ g.get? p.1 = none) (hC : CodeHd g 503 499) (ha0 : 0 ≤ a) (hb0 : 0 ≤ b) (hb1 : b < 2147483647)
    (hret : ∀ h' tk', (∃ ps, h'.get? 499 = some (tabObj ps)) → (∀ outer, A.frames = some outer → Turned outer g h') → Q (.bool true) { s with heap := h', toks := tk' }) :
    wpAny (model PySem.Challenge.rw_pf0197_01.row.prog w) A (call (.ref 504) [.ref x] []) Q E s := by
  revert R; k_fill; intro R
  have hsz := R.sz
  refine' enterCX (news := [(x, srcO a b ta tb), (499, tabObj #[])]) (args := ⟨[.ref x], []⟩) (binds := [(Str.ofString "source", .ref x)]) R ?foot ?ho ?hcd ?hbind ?hkind ?hnd ?h ?hco ?hgen ?hk
  case foot => exact hfoot
  case ho => k_is
  case hcd => k_is
  case hbind => exact BindsTo.of_eq rfl
  case hkind => exact rfl
  case hnd => decide +kernel
  case hco => exact rfl
  case hgen => exact rfl
  case hk => exact rfl
  clear R
  intro base dp un outer p loose mean mg mb L h₁ tk0 cells F' N' Y' B' XB TB X' T' hDp hUn hl hs hA
  k_cells Y'
  (try k_lt hl)
  (try simp only [List.cons_append, List.nil_append] at N')
  (try dsimp only); (try k_fold)
  rename Obj => oc1
  have hx4 : @Ne Nat x 499 := fun e => by
    have h1 := (hfoot (x, _) (.head _)).1
    have h2 := (hfoot (499, _) (.tail _ (.head _))).1
    dsimp only at h1 h2
    rw [e, h2] at h1; cases h1
  refine cutK 2 (fun Ki => ∀ s' m xf df wa ha wr cF cN a b ta tb nm tn dn h1 h2 k1 k2 t1 t2 t3 t4 t5 t6, Same s s' → Fr g L s'.heap m → News g L s'.heap [(wr, tup2 (if dn then 50 else 200) 1 t5 t6), (xf, instObj 415 df), (df, frameD wa ha h1 h2 k1 k2), (ha, tup2 50 1 t1 t2), (wa, tup2 200 1 t3 t4), (L + 1 + 1 + 1, cN), (L + 1 + 1, cF), (L + 1, oc1), (x, srcO a b ta tb), (499, tabObj #[])] → m (Str.ofString "source") = some (.ref x) → m (Str.ofString "whole") = some (.ref wr) → cN.data = .cell (some (.str nm tn)) → cF.data = .cell (some (.ref xf)) → downNames.any (· == nm) = dn → nm.length ≤ 100 → nm ≠ Str.ofString "none" → 0 ≤ a → 0 ≤ b → b < 2147483647 → @LT.lt Nat _ (L + 1 + 1 + 1) wr → @LT.lt Nat _ (L + 1 + 1 + 1) xf → @LT.lt Nat _ (L + 1 + 1 + 1) df → @LT.lt Nat _ (L + 1 + 1 + 1) ha → @LT.lt Nat _ (L + 1 + 1 + 1) wa → Ki s') ?_ ?_
  · intro Ic1 hIc1
    dsimp only [List.take]
    k_steps
    refine Stop.out ?_
    (with_reducible rename Fr _ _ _ _ => Fz)
    (with_reducible rename News _ _ _ _ => Nz)
    refine one_spec (rd_hide B' Fz Nz (sub1 (o := srcO a b ta tb) (by k_mem)) X' T' rfl rfl (by (first | ((with_reducible apply dle); (with_reducible assumption); exact rfl) | omega)) (by (first | ((with_reducible apply ule); (with_reducible assumption); exact rfl) | omega))) (hid1 (Nz.get (List.mem_cons_self ..)) (by k_ne)) (foot1 Nz (by k_mem)) ha0 hb0 hb1 (show 0 < 13 by decide) (show 13 < 100 by decide) ?_
    intro v9 a9 b9 ta9 tb9 h9 tk9 ha9 hb9 hb9' st9 hn9 hv9
    obtain ⟨nm, tn, rfl, hnm⟩ := strs_mem (ys := allNames) (by kde_strs) hv9
    obtain ⟨hsix, hnml, hnn⟩ := names_ok nm hnm
    (refine backU_k Fz Nz hn9 (by k_upd) st9 ?_; intro F9 N9)
    replace N9 := ntail N9
    clear Fz Nz st9 hn9 hv9 hnm
    (try dsimp only); (try k_fold)
    obtain ⟨dn, hdn⟩ : ∃ d, d = sixNames.any (· == nm) := ⟨_, rfl⟩
    have hdn1 := hdn.symm
    have hdn2 := hsix.symm.trans hdn1
    clear hdn hsix
    cases dn
    all_goals k_steps
    all_goals (with_reducible rename Fr _ _ _ _ => Fz)
    all_goals (with_reducible rename News _ _ _ _ => Nz)
    all_goals have Nq := consN Nz (List.mem_cons_self ..) (ntail (ntail (ntail Nz)))
    · refine Stop.out ⟨rfl, hIc1 _ _ _ _ _ _ _ _ _ _ _ _ _ nm tn false _ _ _ _ _ _ _ _ _ _ Same.mk Fz Nq rfl rfl (by with_reducible assumption) (by with_reducible assumption) hdn2 hnml hnn ha9 hb9 hb9' ?_ ?_ ?_ ?_ ?_⟩
      all_goals first | omega | trace_state
    · refine Stop.out ⟨rfl, hIc1 _ _ _ _ _ _ _ _ _ _ _ _ _ nm tn true _ _ _ _ _ _ _ _ _ _ Same.mk Fz Nq rfl rfl (by with_reducible assumption) (by with_reducible assumption) hdn2 hnml hnn ha9 hb9 hb9' ?_ ?_ ?_ ?_ ?_⟩
      all_goals first | omega | trace_state
  rintro s2 m xf df wa ha wr cF cN a2 b2 ta2 tb2 nm tn dn h1 h2 k1 k2 t1 t2 t3 t4 t5 t6 hS2 F2 N2 e1 e2 hcN hcF hdn hnml hnn ha2 hb2 hb2' q1 q2 q3 q4 q5
  dsimp only [List.drop]
  replace F2 := put2F F2 e1 e2
  clear F' N'
  refine cutK 2 (fun Ki => ∀ s' m ex dex da ch r8 cE od nv tv l9 t9 p9 q9 u9 u8 i1 i2 i3 i4 j1 j2 j3 j4 a b ta tb wv, Same s s' → Fr g L s'.heap m → News g L s'.heap [(ex, instObj 378 dex), (dex, elemD nv da ch tv i1 i2 i3 i4 j1 j2 j3 j4), (da, od), (r8, tup2 p9 q9 u9 u8), (xf, instObj 415 df), (df, frameD wa ha h1 h2 k1 k2), (ha, tup2 50 1 t1 t2), (wa, tup2 200 1 t3 t4), (L + 1 + 1 + 1, cN), (L + 1 + 1, cF), (L + 1, cE), (x, srcO a b ta tb), (499, tabObj #[])] → m (Str.ofString "due") = some (.ref r8) → cE.data = .cell (some (.ref ex)) → od.IsDictOf (PySem.strKind PySem.Challenge.rw_pf0197_01.row.prog w) [(nm, .str (S l9) t9)] → (da == sysModules) = false → LenOf l9 (wv, 1) (16, 1) (p9, q9) → wv = (if dn then 50 else 200) → @LT.lt Nat _ (L + 1 + 1 + 1) ex → @LT.lt Nat _ (L + 1 + 1 + 1) dex → @LT.lt Nat _ (L + 1 + 1 + 1) da → @LT.lt Nat _ (L + 1 + 1 + 1) r8 → Ki s') ?_ ?_
  · intro Ic2 hIc2
    dsimp only [List.take]
    k_steps
    refine Stop.out ?_
    (with_reducible rename Fr _ _ _ _ => Fz)
    (with_reducible rename News _ _ _ _ => Nz)
    obtain ⟨wv, hwv⟩ : ∃ wv : Int, wv = (if dn then 50 else 200) := ⟨_, rfl⟩
    have hwv0 : 0 < wv := by rw [hwv]; split <;> decide
    have hwv1 : wv ≤ 200 := by rw [hwv]; split <;> decide
    rw [← hwv] at Nz
    refine lawlength_spec (rd_hide B' Fz Nz (sub1 (o := srcO a2 b2 ta2 tb2) (by k_mem)) X' T' rfl rfl (by (first | ((with_reducible apply dle); (with_reducible assumption); exact rfl) | omega)) (by (first | ((with_reducible apply ule); (with_reducible assumption); exact rfl) | omega))) (hid1 (Nz.get (by k_mem)) (by k_ne)) (hid1 (Nz.get (List.mem_cons_self ..)) (by k_ne)) (foot1 Nz (by k_mem)) ha2 hb2 hb2' (by omega) (by omega) (by decide) (by decide) (by decide) (by decide) (by decide) (by decide) ?_
    intro l9 p9 q9 t9 u9 u8 r9 r8 a9 b9 ta9 tb9 h9 tk9 g1 g2 hn9 ha9 hb9 hb9' st9 hN9 s1 s2' ne9
    (refine back2U_k Fz Nz hn9 (by k_upd) st9 s1 s2' ne9 g1 g2 ?_; intro F9 N9 L1 L2 M1 M2)
    clear Fz Nz st9 hn9 s1 s2' g1 g2
    (try k_lt M1); (try k_lt M2)
    (try dsimp only); (try k_fold)
    k_steps
    refine Stop.out ?_
    (with_reducible rename Fr _ _ _ _ => Fz)
    (with_reducible rename News _ _ _ _ => Nz)
    (with_reducible rename Obj.IsDictOf _ _ (strPairs _) => hdz)
    have Nq := consN Nz (List.mem_cons_of_mem _ (List.mem_cons_self ..)) (consN Nz (List.mem_cons_of_mem _ (List.mem_cons_of_mem _ (List.mem_cons_self ..))) (consN Nz (List.mem_cons_of_mem _ (List.mem_cons_of_mem _ (List.mem_cons_of_mem _ (List.mem_cons_self ..)))) (consN Nz (List.mem_cons_of_mem _ (List.mem_cons_of_mem _ (List.mem_cons_of_mem _ (List.mem_cons_of_mem _ (List.mem_cons_of_mem _ (List.mem_cons_self ..)))))) (ntail (ntail (ntail (ntail (ntail (ntail (ntail (ntail Nz)))))))))))
    refine ⟨rfl, hIc2 _ _ _ _ _ _ _ _ _ _ _ l9 t9 p9 q9 _ _ _ _ _ _ _ _ _ _ _ _ _ _ wv hS2.on Fz Nq rfl (by with_reducible assumption) hdz (by with_reducible assumption) hN9 hwv ?_ ?_ ?_ ?_⟩
    all_goals omega
  clear hS2 e1 e2 F2 N2 q1 ha2 hb2 hb2'
  rintro s3 m3 ex dex da ch r8 cE od nv tv l9 t9 p9 q9 u9 u8 i1 i2 i3 i4 j1 j2 j3 j4 a3 b3 ta3 tb3 wv hS3 F3 N3 e1 hcE hod hlo hLen hwv q6 q7 q8 q10
  dsimp only [List.drop]
  replace F3 := putF F3 e1
  have hwv0 : 0 < wv := by rw [hwv]; split <;> decide
  have hwv1 : wv ≤ 200 := by rw [hwv]; split <;> decide
  obtain ⟨hR, hd0, hd1, hd2, hd3, _⟩ := len_reads (w1 := wv) (w2 := 1) (f1 := 16) (f2 := 1) 10000 1000 hLen (by decide) (by decide) (by omega) (by omega) (by decide) (by decide) (by decide) (by decide) (by decide) (by decide) (by decide) (by decide)
  rw [hwv] at hR
  clear hLen hwv hwv0 hwv1
  have hv1 : valueAt [(nm, Value.str (S l9) t9)] nm = some (.str (S l9) t9) := by simp [valueAt]
  have hv0 : valueAt [(nm, Value.str (S l9) t9)] (Str.ofString "none") = none := by simp [valueAt, hnn]
  k_steps
  refine Stop.out ?_
  (with_reducible rename Fr _ _ _ _ => Fz)
  (with_reducible rename News _ _ _ _ => Nz)
  refine told3_spec (rd_of B' Fz X' T' rfl rfl (by (first | ((with_reducible apply dle); (with_reducible assumption); exact rfl) | omega)) (by (first | ((with_reducible apply ule); (with_reducible assumption); exact rfl) | omega))) (Nz.get (by k_mem)) (Nz.get (by k_mem)) (Nz.get (by k_mem)) (Nz.get (by k_mem)) (Nz.get (by k_mem)) hod hlo (Nz.get (by k_mem)) (Nz.get (by k_mem)) hv1 hdn hR ?_
  intro rt tt tt' hh8 tk8 st8 hl8 hr8
  (refine back1_k Fz Nz st8 hl8 hr8 ?_; intro F9 N9 l9' m9')
  clear Fz Nz st8 hl8 hr8
  k_lt l9'; k_lt2 m9'
  (try dsimp only); (try k_fold)
  k_steps
  refine Stop.out ?_
  (with_reducible rename Fr _ _ _ _ => Fz)
  (with_reducible rename News _ _ _ _ => Nz)
  refine r_ne_tup2 (Nz.get (List.mem_cons_self ..)) (Nz.get (by k_mem)) (by show un + 3 < 9000; omega) ?_
  k_steps
  refine Stop.out ?_
  (with_reducible rename Fr _ _ _ _ => Fz)
  (with_reducible rename News _ _ _ _ => Nz)
  refine told_none (rd_of B' Fz X' T' rfl rfl (by (first | ((with_reducible apply dle); (with_reducible assumption); exact rfl) | omega)) (by (first | ((with_reducible apply ule); (with_reducible assumption); exact rfl) | omega))) (Nz.get (by k_mem)) (Nz.get (by k_mem)) (Nz.get (by k_mem)) (Nz.get (by k_mem)) (Nz.get (by k_mem)) hod hlo hv0 ?_
  intro hh7 tk7 st7
  (refine back_k Fz Nz st7 ?_; intro F9 N9)
  clear Fz Nz st7
  (try dsimp only); (try k_fold)
  k_steps
  refine Stop.out ?_
  (with_reducible rename Fr _ _ _ _ => Fz)
  (with_reducible rename News _ _ _ _ => Nz)
  refine r_ne_tup2 (Fz.keep _ _ (X' 66 _ (by k_is))) (Nz.get (List.mem_cons_self ..)) (by show un + 3 < 9000; omega) ?_
  k_steps
  refine Stop.out ?_
  (with_reducible rename Fr _ _ _ _ => Fz)
  (with_reducible rename News _ _ _ _ => Nz)
  refine told_other (rd_of B' Fz X' T' rfl rfl (by (first | ((with_reducible apply dle); (with_reducible assumption); exact rfl) | omega)) (by (first | ((with_reducible apply ule); (with_reducible assumption); exact rfl) | omega))) (Nz.get (by k_mem)) (Nz.get (by k_mem)) (Nz.get (by k_mem)) (Nz.get (by k_mem)) (Nz.get (by k_mem)) hod hlo hv0 ?_
  intro hh7 tk7 st7
  (refine back_k Fz Nz st7 ?_; intro F9 N9)
  clear Fz Nz st7
  (try dsimp only); (try k_fold)
  k_steps
  refine Stop.out ?_
  (with_reducible rename Fr _ _ _ _ => Fz)
  (with_reducible rename News _ _ _ _ => Nz)
  refine r_ne_tup2 (Nz.get (by k_mem)) (Nz.get (List.mem_cons_self ..)) (by show un + 3 < 9000; omega) ?_
  by_cases hlt : p9 < 0
  · k_steps
    refine Stop.out ?_
    (with_reducible rename Fr _ _ _ _ => Fz)
    (with_reducible rename News _ _ _ _ => Nz)
    refine' kla_eval rfl ?_
    refine' kla_nest Fz Nz T' hC rfl ?Uq1 ?tq1 ?nq1 rfl ?_
    case Uq1 => k_updF
    case tq1 => kn_triples
    case nq1 => kn_among
    intro lf lc loc lvs lt lct lh ltk F9 N9 d1 d2 l1 l2
    clear Fz Nz
    (try dsimp only at N9)
    k_lt l1; k_lt2 l2
    k_steps
    refine Stop.out ?_
    have hgf := hid3 (p := (L + 1 + 1 + 1, cN)) (q := (L + 1 + 1, cF)) (r := (L + 1, cE)) (N9 _ (List.mem_cons_self ..)).1 (by k_ne) (by k_ne) (by k_ne)
    have hgc := hid3 (p := (L + 1 + 1 + 1, cN)) (q := (L + 1 + 1, cF)) (r := (L + 1, cE)) (N9 _ (List.mem_cons_of_mem _ (List.mem_cons_self ..))).1 (by k_ne) (by k_ne) (by k_ne)
    have hg1 := hid3 (p := (L + 1 + 1 + 1, cN)) (q := (L + 1 + 1, cF)) (r := (L + 1, cE)) (N9 (xf, instObj 415 df) (by k_mem)).1 (by k_ne) (by k_ne) (by k_ne)
    have hg2 := hid3 (p := (L + 1 + 1 + 1, cN)) (q := (L + 1 + 1, cF)) (r := (L + 1, cE)) (N9 (df, frameD wa ha h1 h2 k1 k2) (by k_mem)).1 (by k_ne) (by k_ne) (by k_ne)
    have hg3 := hid3 (p := (L + 1 + 1 + 1, cN)) (q := (L + 1 + 1, cF)) (r := (L + 1, cE)) (N9 (ex, instObj 378 dex) (by k_mem)).1 (by k_ne) (by k_ne) (by k_ne)
    have hg4 := hid3 (p := (L + 1 + 1 + 1, cN)) (q := (L + 1 + 1, cF)) (r := (L + 1, cE)) (N9 (dex, elemD nv da ch tv i1 i2 i3 i4 j1 j2 j3 j4) (by k_mem)).1 (by k_ne) (by k_ne) (by k_ne)
    have hg5 := hid3 (p := (L + 1 + 1 + 1, cN)) (q := (L + 1 + 1, cF)) (r := (L + 1, cE)) (N9 (da, od) (by k_mem)).1 (by k_ne) (by k_ne) (by k_ne)
    have hg6 := hid3 (p := (L + 1 + 1 + 1, cN)) (q := (L + 1 + 1, cF)) (r := (L + 1, cE)) (N9 (wa, tup2 200 1 t3 t4) (by k_mem)).1 (by k_ne) (by k_ne) (by k_ne)
    have hg7 := hid3 (p := (L + 1 + 1 + 1, cN)) (q := (L + 1 + 1, cF)) (r := (L + 1, cE)) (N9 (ha, tup2 50 1 t1 t2) (by k_mem)).1 (by k_ne) (by k_ne) (by k_ne)
    obtain ⟨tabx, htab⟩ : ∃ ps, (499, tabObj ps) ∈ _ := ⟨_, tab_mem N9 (by k_mem)⟩
    have hgt := hid3 (p := (L + 1 + 1 + 1, cN)) (q := (L + 1 + 1, cF)) (r := (L + 1, cE)) (N9 (499, tabObj tabx) htab).1 (by k_ne) (by k_ne) (by k_ne)
    have Nc : News g L lh [(L + 1 + 1 + 1, cN), (L + 1 + 1, cF), (L + 1, cE)] := pick3 N9 (by k_mem) (by k_mem) (by k_mem)
    refine refused_spec (k := 12) (own := [(L + 1 + 1 + 1, cN), (L + 1 + 1, cF), (L + 1, cE)]) (P := fun o => o = []) (rdx_hide B' F9 Nc (fun _ hp => hp) XB TB rfl rfl (by (first | ((with_reducible apply dle); (with_reducible assumption); exact rfl) | omega)) (by (first | ((with_reducible apply ule); (with_reducible assumption); exact rfl) | omega))) ⟨_, _, _, _, hgf⟩ (fun q hq => ⟨(Nc q hq).1, hideAll_none _ (List.mem_map.mpr ⟨q, hq, rfl⟩)⟩) ?_ ?_
    · intro A' G' s' R' hG hfoot' Q' E' hE'
      refine enterLam (news := [(L + 1 + 1 + 1, cN), (L + 1 + 1, cF), (L + 1, cE)]) R' hfoot' (hG _ _ hgf) ⟨lc, loc, lvs, lt, rfl, hG _ _ hgc, d1, d2⟩ rfl ?_ (by decide) rfl rfl rfl
      intro base2 dp2 un2 outer2 p2 loose2 mean2 mg2 mb2 L2 hh2 F2 N2 B2 XB2 TB2 X2 T2 hDp2 hUn2 hl2 hs2 hA2
      replace hg1 := hG _ _ hg1
      replace hg2 := hG _ _ hg2
      replace hg3 := hG _ _ hg3
      replace hg4 := hG _ _ hg4
      replace hg5 := hG _ _ hg5
      replace hg6 := hG _ _ hg6
      replace hg7 := hG _ _ hg7
      clear F9 N9 Nc B' XB TB X' T' hret hgf hgc
      (try dsimp only); (try k_fold)
      k_steps
      refine Stop.out ?_
      (with_reducible rename Fr _ _ _ _ => Fz)
      refine size_raise (rd_of B2 Fz X2 T2 rfl rfl (by (first | ((with_reducible apply dle); (with_reducible assumption); exact rfl) | omega)) (by (first | ((with_reducible apply ule); (with_reducible assumption); exact rfl) | omega))) (Fz.keep _ _ hg1) (Fz.keep _ _ hg2) (Fz.keep _ _ hg3) (Fz.keep _ _ hg4) (Fz.keep _ _ hg5) hod hlo (Fz.keep _ _ hg6) (Fz.keep _ _ hg7) hv1 hdn hR (by omega) (by omega) (by omega) (by omega) hlt hnml ?_
      intro o7 e7 h7 tk7 hf7 f7
      obtain rfl := Option.some.inj hf7
      refine leave_onE (own' := []) rfl B2 Fz Fz.keep f7 (fun q hq => nomatch hq) fun h8 f8 => ?_
      exact hE' outer2 _ [] e7 h8 tk7 rfl (by rw [hA2]) f8
    · intro own' h7 tk7 hP hT hown
      obtain ⟨g7, T7, F7, B7, N7, _⟩ := backT (news := [(499, tabObj tabx)]) B' (fr_hide F9 Nc) (hT _ rfl) rfl (fun q hq => by rw [List.mem_singleton.mp hq]; exact ⟨Or.inl hgt, (N9 _ htab).2.1, (N9 _ htab).2.2⟩)
      exact hS3.q (hret h7 tk7 ⟨_, (N7 _ (List.mem_cons_self ..)).1⟩ fun o ho => by rw [hA] at ho; obtain rfl := Option.some.inj ho; exact ⟨g7, T7, F7.keep⟩)
  · k_steps
    refine Stop.out ?_
    (with_reducible rename Fr _ _ _ _ => Fz)
    (with_reducible rename News _ _ _ _ => Nz)
    refine size_spec (rd_of B' Fz X' T' rfl rfl (by (first | ((with_reducible apply dle); (with_reducible assumption); exact rfl) | omega)) (by (first | ((with_reducible apply ule); (with_reducible assumption); exact rfl) | omega))) (Nz.get (by k_mem)) (Nz.get (by k_mem)) (Nz.get (by k_mem)) (Nz.get (by k_mem)) (Nz.get (by k_mem)) hod hlo (Nz.get (by k_mem)) (Nz.get (by k_mem)) hv1 hdn hR (by omega) (by omega) (by omega) (by omega) hlt ?_
    intro rs ts ts' hh6 tk6 st6 hl6 hr6
    (refine back1_k Fz Nz st6 hl6 hr6 ?_; intro F9 N9 l9' m9')
    clear Fz Nz st6 hl6 hr6
    k_lt l9'; k_lt2 m9'
    (try dsimp only); (try k_fold)
    k_steps
    refine Stop.out ?_
    (with_reducible rename Fr _ _ _ _ => Fz)
    (with_reducible rename News _ _ _ _ => Nz)
    refine r_eq_tup2 (Nz.get (List.mem_cons_self ..)) (Nz.get (by k_mem)) (by show un + 3 < 9000; omega) ?_
    exact hS3.q (hret _ _ ⟨_, Nz.get (o := tabObj #[]) (by k_mem)⟩ fun o ho => Turned.of Fz.keep)
end Mine
end
section --C23
set_option maxHeartbeats 1600000
namespace Mine
theorem lnC23a : True := by
  k_with_none
  k_with "a1" => (first | with_reducible assumption | ((with_reducible apply Mine.ltm); (with_reducible assumption); k_mem))
  k_with "a2" => (first | with_reducible exact Mine.lss | with_reducible exact Mine.ltp (by assumption) | with_reducible exact Mine.ltp (Mine.ltp (by assumption)) | with_reducible exact Mine.ltp (Mine.ltp (Mine.ltp (by assumption))) | ((with_reducible refine Mine.lts ?_); first | with_reducible exact Mine.lss | k_memK) | ((with_reducible refine Mine.lts (Mine.lts ?_)); first | with_reducible exact Mine.lss | k_memK) | ((with_reducible refine Mine.lts (Mine.lts (Mine.lts ?_))); k_memK))
  k_with "a3" => (first | k_cls | ((with_reducible apply Mine.ltr); (with_reducible assumption); first | k_memK | k_cls) | ((with_reducible apply Mine.ltr); (with_reducible exact Mine.ltp (by assumption)); first | k_memK | k_cls))
  k_with "a4" => (first | with_reducible exact Mine.neAll (by assumption) | with_reducible exact Mine.neNil | ((with_reducible refine Mine.neCons ?_ ?_); k_ne; k_all))
  k_with "a5" => (first | with_reducible exact Mine.subNil | with_reducible exact Mine.subSame | ((with_reducible refine Mine.subCons ?_ ?_); k_mem; k_subL) | ((with_reducible refine Mine.subApp ?_ ?_); k_subL; k_subL) | ((with_reducible refine Mine.subTail ?_); k_subL))
  k_with "a6" => (first | with_reducible assumption | ((with_reducible show @Ne Nat _ _); first | ((with_reducible refine Mine.nlt ?_); k_memK) | ((with_reducible refine Mine.ngt ?_); k_memK) | (with_reducible exact Ne.symm (by assumption)) | ((with_reducible refine Mine.nlt ?_); k_types) | ((with_reducible refine Mine.ngt ?_); k_types)) | ((with_reducible apply Mine.dq0); (with_reducible assumption); decide) | ((with_reducible apply Mine.dq1); (with_reducible assumption); decide) | ((with_reducible apply Mine.dq2); (with_reducible assumption); decide) | ((with_reducible apply Mine.dq3); (with_reducible assumption); decide) | ((with_reducible apply Mine.dq4); (with_reducible assumption); decide) | ((with_reducible first | apply Mine.il1 | apply Mine.il3); (with_reducible assumption); decide) | ((with_reducible first | apply Mine.il2 | apply Mine.il4); (with_reducible assumption); decide) | ((with_reducible first | apply Mine.iu1 | apply Mine.iu3); (with_reducible assumption); decide) | ((with_reducible first | apply Mine.iu2 | apply Mine.iu4); (with_reducible assumption); decide) | ((with_reducible first | apply Mine.nl3 | apply Mine.nl2); (with_reducible assumption); decide) | ((with_reducible first | apply Mine.nu1 | apply Mine.nu3); (with_reducible assumption); decide) | ((with_reducible first | apply Mine.nu2 | apply Mine.nu4); (with_reducible assumption); decide) | ((with_reducible show @LT.lt Nat _ _ _); first | k_memK | k_types) | decide)
  k_with "a7" => (repeat (rename ∀ _ ∈ (_ : List (Addr × Obj)), @LT.lt Nat _ _ _ => hrw; replace hrw := allLt_of hrw; dsimp only [AllLt] at hrw))
  k_with "a8" => (first | (k_whole; kc_bool) | omega +splitDisjunctions | (k_whole; k_units; omega +splitDisjunctions))
  k_with "a9" => (first | (k_whole; kc_bool) | lia | omega +splitDisjunctions)
  k_with "eval Call" => ((fail_if_success (fail_if_success k_fold)); refine foldL ?_; intro qk ek; walk1)
  k_with "eval BinOp" => ((fail_if_success (fail_if_success k_fold)); refine foldL ?_; intro qk ek; walk1)
  k_with "eval Tuple" => ((fail_if_success (fail_if_success k_fold)); refine foldL ?_; intro qk ek; walk1)
  k_with "isTrue Compare" => ((fail_if_success (fail_if_success k_fold)); refine foldL ?_; intro qk ek; walk1)
  k_with "eval Subscript" => ((fail_if_success (fail_if_success k_fold)); refine foldL ?_; intro qk ek; walk1)
  k_with "exec Assign" => ((fail_if_success (fail_if_success k_fold)); refine foldL ?_; intro qk ek; walk1)
  k_with "eval List" => ((fail_if_success (fail_if_success k_fold)); refine foldL ?_; intro qk ek; walk1)
  k_with "eval Attribute" => ((fail_if_success (fail_if_success k_fold)); refine foldL ?_; intro qk ek; walk1)
  k_with "eval UnaryOp" => ((fail_if_success (fail_if_success k_fold)); refine foldL ?_; intro qk ek; walk1)
  k_with "callWith ref" => ((fail_if_success (fail_if_success k_fold)); refine foldL ?_; intro qk ek; walk1)
  k_with "callWith" => ((fail_if_success (fail_if_success k_fold)); refine foldL ?_; intro qk ek; walk1)
  k_with "subscriptTail Name Constant ref int" => (k_here; first | refine tup_item0 (by assumption) (by assumption) ?_ | refine tup_item1 (by assumption) (by assumption) ?_)
  k_with "exec While" => (k_here; refine Stop.go ?_)
  k_with "binaryOp FloorDiv int int" => (k_here; refine floordiv_int (by first | decide | omega) ?_ (Or.inl (noPyl (by first | decide | omega) (by first | decide | omega))))
  k_with "newTuple" => (k_here; k_dflt (refine' newTuple_mine ?k1 ?k2 ?_ ?k3; (case k1 => k_asm); (case k2 => k_asm); (case k3 => first | decide | (exact Nat.le_of_ble_eq_true rfl) | (simp only [sizeLine_eq]; simp))); intro D' h' F' N' l1 l2; (try k_lt l1); (try k_lt2 l2); (try k_sweep))
  k_with "binaryOp Mult int int" => (k_here; refine mul_int ?_ (by first | exact mulOk60 (by omega) (by omega) (by omega) (by omega) | mul_fits))
  k_with "call builtin:len" => (k_here; refine r_len (by first | omega | (simp only [List.length_append, List.length_cons, List.length_nil]; omega)) ?_; intro t9 k9)
  k_with "subscriptTail Attribute Attribute str int" => (k_here; (with_reducible show wpAny _ _ (subscriptTail _ _ (Value.str (S _) _) (Value.int _ _)) _ _ _); k_dflt (refine r_item (by omega) (by omega) (by omega) ?_); intro t9 k9)
  k_with "compareOp In str str" => (k_here; refine r_in ?_)
  k_with "subscriptTail Attribute Slice str ref" => (k_here; (with_reducible show wpAny _ _ (subscriptTail _ (Expr.Slice (some _) (some _) none _) (Value.str (S _) _) (Value.ref _)) _ _ _); (with_reducible rename Fr _ _ _ _ => Fz); (with_reducible rename News _ _ _ _ => Nz); k_dflt (refine r_slice (s := ⟨_, _, _, _, _⟩) Fz Nz (by omega) (by omega) (by omega) (by omega) ?_); intro h9 t9 k9 F9 N9; (try k_sweep))
  k_with "compareOp Eq str str" => (k_here; first | refine r_eq_f (by assumption) ?_ | refine r_eq_t (by assumption) ?_ | refine r_eq ?_)
  k_with "compareOp NotEq str str" => (k_here; first | refine r_ne_t (by assumption) ?_ | refine r_ne_f (by assumption) ?_ | refine r_ne ?_)
  k_with "ite" => (first | refine if_f ?_ | refine if_t ?_)
  k_with "subscriptTail Name Constant ref str" => (k_here; (with_reducible rename Fr _ _ _ _ => Fz); k_dflt (refine b_item_dict (Fz.keep _ _ (by with_reducible assumption)) (by with_reducible assumption) (by with_reducible assumption) ?_))
  k_with "subscriptTail Attribute Constant ref str" => (k_here; (with_reducible rename Fr _ _ _ _ => Fz); k_dflt (refine b_item_dict (Fz.keep _ _ (by with_reducible assumption)) (by with_reducible assumption) (by with_reducible assumption) ?_))
  k_with "subscriptTail Name Name ref str" => (k_here; (with_reducible rename Fr _ _ _ _ => Fz); k_dflt (refine b_item_dict (Fz.keep _ _ (by with_reducible assumption)) (by with_reducible assumption) (by with_reducible assumption) ?_))
  k_with "subscriptTail Attribute Name ref str" => (k_here; (with_reducible rename Fr _ _ _ _ => Fz); k_dflt (refine b_item_dict (Fz.keep _ _ (by with_reducible assumption)) (by with_reducible assumption) (by with_reducible assumption) ?_))
  k_with "call ref" => (k_here; (with_reducible show wpAny _ _ (call (Value.ref 231) _ _) _ _ _); first | ((with_reducible rename Fr _ _ _ _ => Fz); (with_reducible rename News _ _ _ _ => Nz); (k_dflt (refine' length_spec' (rd_of ?B Fz ?X ?T rfl rfl ?d ?u) ?p0 ?p1 ?p2 ?p3 ?p4 ?p5 ?p6 ?p7 ?p8 ?p9 ?p10 ?_; (case B => assumption); (case X => assumption); (case T => assumption); (case d => (first | ((with_reducible apply dle); (with_reducible assumption); exact rfl) | omega)); (case u => (first | ((with_reducible apply ule); (with_reducible assumption); exact rfl) | omega)); (case p0 => (with_reducible assumption)); (case p1 => (first | exact Nz.get (by k_mem) | exact Fz.keep _ _ (by with_reducible assumption) | exact Fz.keep _ _ (by assumption) | exact Fz.keep _ _ ((by assumption : Frag.In _ _) _ _ (by k_is)))); (case p2 => (first | exact Nz.get (by k_mem) | exact Fz.keep _ _ (by with_reducible assumption) | exact Fz.keep _ _ (by assumption) | exact Fz.keep _ _ ((by assumption : Frag.In _ _) _ _ (by k_is)))); (case p3 => (first | with_reducible assumption | omega)); (case p4 => (first | with_reducible assumption | omega)); (case p5 => (first | with_reducible assumption | omega)); (case p6 => (first | with_reducible assumption | omega)); (case p7 => (first | with_reducible assumption | omega)); (case p8 => (first | with_reducible assumption | omega)); (case p9 => (first | with_reducible assumption | omega)); (case p10 => (first | with_reducible assumption | omega)); k_whole)); intro r9 t9 u9 h9 tk9 st9 hl9 hr9; k_dflt ((refine back1_k Fz Nz st9 hl9 hr9 ?_; intro F9 N9 l9 m9)); clear Fz Nz st9 hl9 hr9; (try k_lt l9); (try k_lt2 m9); (try dsimp only); (try k_fold)) | refine Stop.go ?_)
  k_with "call ref" => (k_here; (with_reducible show wpAny _ _ (call (Value.ref 266) _ _) _ _ _); first | ((with_reducible rename Fr _ _ _ _ => Fz); (with_reducible rename News _ _ _ _ => Nz); (k_dflt (refine' font_spec (rd_of ?B Fz ?X ?T rfl rfl ?d ?u) ?p0 ?p1 ?p2 ?p3 ?p4 ?p5 ?_; (case B => assumption); (case X => assumption); (case T => assumption); (case d => (first | ((with_reducible apply dle); (with_reducible assumption); exact rfl) | omega)); (case u => (first | ((with_reducible apply ule); (with_reducible assumption); exact rfl) | omega)); (case p0 => (first | exact Nz.get (by k_mem) | exact Fz.keep _ _ (by with_reducible assumption) | exact Fz.keep _ _ (by assumption) | exact Fz.keep _ _ ((by assumption : Frag.In _ _) _ _ (by k_is)))); (case p1 => (first | exact Nz.get (by k_mem) | exact Fz.keep _ _ (by with_reducible assumption) | exact Fz.keep _ _ (by assumption) | exact Fz.keep _ _ ((by assumption : Frag.In _ _) _ _ (by k_is)))); (case p2 => (first | exact Nz.get (by k_mem) | exact Fz.keep _ _ (by with_reducible assumption) | exact Fz.keep _ _ (by assumption) | exact Fz.keep _ _ ((by assumption : Frag.In _ _) _ _ (by k_is)))); (case p3 => (with_reducible assumption)); (case p4 => (with_reducible assumption)); (case p5 => (with_reducible assumption)); k_whole)); intro r9 t9 u9 h9 tk9 st9 hl9 hr9; k_dflt ((refine back1_k Fz Nz st9 hl9 hr9 ?_; intro F9 N9 l9 m9)); clear Fz Nz st9 hl9 hr9; (try k_lt l9); (try k_lt2 m9); (try dsimp only); (try k_fold)) | refine Stop.go ?_)
  trivial
theorem looklength_spec {w : World} {A : Around} {s : Shared} {x dx dv : Addr} {o : Obj} {kvs : List (Str × Value)} {hh : Int} {kk : Tok} {nm : Str} {tn tl tf : Tok} {l lf : List Nat} {w1 w2 f1 f2 d1 d2 : Int} {wa : Addr} {tw tw' : Tok} {args : Args} {Q E : Value → Shared → Prop}
    (R : Rd (hd.heap_1 w.params) 10 A s.heap s) (hb : ∀ oc od fd osl, List.lookup 275 (hd.heap_1 w.params) = some ⟨oc, od, .func fd, osl⟩ → BindsTo s fd args [(Str.ofString "self", .ref x), (Str.ofString "name", .str nm tn), (Str.ofString "whole", .ref wa)]) (hx : s.heap.get? x = some (instObj 328 dx)) (hdx : s.heap.get? dx = some (lookD dv hh kk)) (hdv : s.heap.get? dv = some o) (hdo : o.IsDictOf (PySem.strKind PySem.Challenge.rw_pf0197_01.row.prog w) kvs) (hw : s.heap.get? wa = some (tup2 w1 w2 tw tw')) (hval : valueAt kvs nm = some (.str (S l) tl)) (hvalf : valueAt kvs (Str.ofString "font-size") = some (.str (S lf) tf)) (hR : Reads l w1 w2 f1 f2 d1 d2) (hRf : Reads lf 16 1 16 1 f1 f2) (hw10 : -1000000000000000000000000000000 < w1) (hw11 : w1 < 1000000000000000000000000000000) (hw20 : 0 < w2) (hw21 : w2 < 1000000000000000000000000000000) (hf10 : -1000000000000000000000000000000 < f1) (hf11 : f1 < 1000000000000000000000000000000) (hf20 : 0 < f2) (hf21 : f2 < 1000000000000000000000000000000)
    (hret : ∀ r t t' h' tk', s.heap.StaysIn h' → s.heap.objs.size ≤ r → h'.get? r = some (tup2 d1 d2 t t') → Q (.ref r) { s with heap := h', toks := tk' }) :
    wpAny (model PySem.Challenge.rw_pf0197_01.row.prog w) A (call (.ref 275) args.pos args.kw) Q E s := by
  revert R hb; k_fill; intro R hb
  refine' enter (news := []) (args := args) (binds := [(Str.ofString "self", .ref x), (Str.ofString "name", .str nm tn), (Str.ofString "whole", .ref wa)]) R ?foot ?ho ?hcd ?hbind ?hloc ?h ?hcell ?hco ?hgen ?hk
  case foot => intro p hp; cases hp
  case ho => k_is
  case hcd => k_is
  case hbind => exact hb _ _ _ _ (by k_is)
  case hloc => exact locs rfl
  case hcell => decide
  case hco => exact rfl
  case hgen => exact rfl
  case hk => exact rfl
  clear R
  intro base dp un outer p loose mean mg mb L h₁ F' N' B' X' T' hDp hUn hl hs hA
  clear hA
  (try dsimp only); (try k_fold)
  k_steps
  all_goals (with_reducible rename Fr _ _ _ _ => Fz)
  all_goals (with_reducible rename News _ _ _ _ => Nz)
  all_goals trace_state
  exact hret _ _ _ _ _ Fz.keep (under hs (by with_reducible assumption)) (Nz.get (List.mem_cons_self ..))
end Mine
end
section --C34
set_option maxHeartbeats 1600000
namespace Mine
theorem lnC34a : True := by
  k_with_none
  k_with "a1" => (first | with_reducible assumption | ((with_reducible apply Mine.ltm); (with_reducible assumption); k_mem))
  k_with "a2" => (first | with_reducible exact Mine.lss | with_reducible exact Mine.ltp (by assumption) | with_reducible exact Mine.ltp (Mine.ltp (by assumption)) | with_reducible exact Mine.ltp (Mine.ltp (Mine.ltp (by assumption))) | ((with_reducible refine Mine.lts ?_); first | with_reducible exact Mine.lss | k_memK) | ((with_reducible refine Mine.lts (Mine.lts ?_)); first | with_reducible exact Mine.lss | k_memK) | ((with_reducible refine Mine.lts (Mine.lts (Mine.lts ?_))); k_memK))
  k_with "a3" => (first | k_cls | ((with_reducible apply Mine.ltr); (with_reducible assumption); first | k_memK | k_cls) | ((with_reducible apply Mine.ltr); (with_reducible exact Mine.ltp (by assumption)); first | k_memK | k_cls))
  k_with "a4" => (first | with_reducible exact Mine.neAll (by assumption) | with_reducible exact Mine.neNil | ((with_reducible refine Mine.neCons ?_ ?_); k_ne; k_all))
  k_with "a5" => (first | with_reducible exact Mine.subNil | with_reducible exact Mine.subSame | ((with_reducible refine Mine.subCons ?_ ?_); k_mem; k_subL) | ((with_reducible refine Mine.subApp ?_ ?_); k_subL; k_subL) | ((with_reducible refine Mine.subTail ?_); k_subL))
  k_with "a6" => (first | with_reducible assumption | ((with_reducible show @Ne Nat _ _); first | ((with_reducible refine Mine.nlt ?_); k_memK) | ((with_reducible refine Mine.ngt ?_); k_memK) | (with_reducible exact Ne.symm (by assumption)) | ((with_reducible refine Mine.nlt ?_); k_types) | ((with_reducible refine Mine.ngt ?_); k_types)) | ((with_reducible apply Mine.dq0); (with_reducible assumption); decide) | ((with_reducible apply Mine.dq1); (with_reducible assumption); decide) | ((with_reducible apply Mine.dq2); (with_reducible assumption); decide) | ((with_reducible apply Mine.dq3); (with_reducible assumption); decide) | ((with_reducible apply Mine.dq4); (with_reducible assumption); decide) | ((with_reducible first | apply Mine.il1 | apply Mine.il3); (with_reducible assumption); decide) | ((with_reducible first | apply Mine.il2 | apply Mine.il4); (with_reducible assumption); decide) | ((with_reducible first | apply Mine.iu1 | apply Mine.iu3); (with_reducible assumption); decide) | ((with_reducible first | apply Mine.iu2 | apply Mine.iu4); (with_reducible assumption); decide) | ((with_reducible first | apply Mine.nl3 | apply Mine.nl2); (with_reducible assumption); decide) | ((with_reducible first | apply Mine.nu1 | apply Mine.nu3); (with_reducible assumption); decide) | ((with_reducible first | apply Mine.nu2 | apply Mine.nu4); (with_reducible assumption); decide) | ((with_reducible show @LT.lt Nat _ _ _); first | k_memK | k_types) | decide)
  k_with "a7" => (repeat (rename ∀ _ ∈ (_ : List (Addr × Obj)), @LT.lt Nat _ _ _ => hrw; replace hrw := allLt_of hrw; dsimp only [AllLt] at hrw))
  k_with "a8" => (first | (k_whole; kc_bool) | omega +splitDisjunctions | (k_whole; k_units; omega +splitDisjunctions))
  k_with "a9" => (first | (k_whole; kc_bool) | lia | omega +splitDisjunctions)
  k_with "eval Call" => ((fail_if_success (fail_if_success k_fold)); refine foldL ?_; intro qk ek; walk1)
  k_with "eval BinOp" => ((fail_if_success (fail_if_success k_fold)); refine foldL ?_; intro qk ek; walk1)
  k_with "eval Tuple" => ((fail_if_success (fail_if_success k_fold)); refine foldL ?_; intro qk ek; walk1)
  k_with "isTrue Compare" => ((fail_if_success (fail_if_success k_fold)); refine foldL ?_; intro qk ek; walk1)
  k_with "eval Subscript" => ((fail_if_success (fail_if_success k_fold)); refine foldL ?_; intro qk ek; walk1)
  k_with "exec Assign" => ((fail_if_success (fail_if_success k_fold)); refine foldL ?_; intro qk ek; walk1)
  k_with "eval List" => ((fail_if_success (fail_if_success k_fold)); refine foldL ?_; intro qk ek; walk1)
  k_with "eval Attribute" => ((fail_if_success (fail_if_success k_fold)); refine foldL ?_; intro qk ek; walk1)
  k_with "eval UnaryOp" => ((fail_if_success (fail_if_success k_fold)); refine foldL ?_; intro qk ek; walk1)
  k_with "callWith ref" => ((fail_if_success (fail_if_success k_fold)); refine foldL ?_; intro qk ek; walk1)
  k_with "callWith" => ((fail_if_success (fail_if_success k_fold)); refine foldL ?_; intro qk ek; walk1)
  k_with "subscriptTail Name Constant ref int" => (k_here; first | refine tup_item0 (by assumption) (by assumption) ?_ | refine tup_item1 (by assumption) (by assumption) ?_)
  k_with "exec While" => (k_here; refine Stop.go ?_)
  k_with "binaryOp FloorDiv int int" => (k_here; refine floordiv_int (by first | decide | omega) ?_ (Or.inl (noPyl (by first | decide | omega) (by first | decide | omega))))
  k_with "newTuple" => (k_here; k_dflt (refine' newTuple_mine ?k1 ?k2 ?_ ?k3; (case k1 => k_asm); (case k2 => k_asm); (case k3 => first | decide | (exact Nat.le_of_ble_eq_true rfl) | (simp only [sizeLine_eq]; simp))); intro D' h' F' N' l1 l2; (try k_lt l1); (try k_lt2 l2); (try k_sweep))
  k_with "binaryOp Mult int int" => (k_here; refine mul_int ?_ (by first | exact mulOk60 (by omega) (by omega) (by omega) (by omega) | mul_fits))
  k_with "call builtin:len" => (k_here; refine r_len (by first | omega | (simp only [List.length_append, List.length_cons, List.length_nil]; omega)) ?_; intro t9 k9)
  k_with "subscriptTail Attribute Attribute str int" => (k_here; (with_reducible show wpAny _ _ (subscriptTail _ _ (Value.str (S _) _) (Value.int _ _)) _ _ _); k_dflt (refine r_item (by omega) (by omega) (by omega) ?_); intro t9 k9)
  k_with "compareOp In str str" => (k_here; refine r_in ?_)
  k_with "subscriptTail Attribute Slice str ref" => (k_here; (with_reducible show wpAny _ _ (subscriptTail _ (Expr.Slice (some _) (some _) none _) (Value.str (S _) _) (Value.ref _)) _ _ _); (with_reducible rename Fr _ _ _ _ => Fz); (with_reducible rename News _ _ _ _ => Nz); k_dflt (refine r_slice (s := ⟨_, _, _, _, _⟩) Fz Nz (by omega) (by omega) (by omega) (by omega) ?_); intro h9 t9 k9 F9 N9; (try k_sweep))
  k_with "compareOp Eq str str" => (k_here; first | refine r_eq_f (by assumption) ?_ | refine r_eq_t (by assumption) ?_ | refine r_eq ?_)
  k_with "compareOp NotEq str str" => (k_here; first | refine r_ne_t (by assumption) ?_ | refine r_ne_f (by assumption) ?_ | refine r_ne ?_)
  k_with "eval Dict nil nil" => (k_here; k_dflt (refine' dict_none ?F ?N ?b ?_; (case F => k_asm); (case N => first | k_asm | exact News.nil); (case b => exact Top.nolimit (by k_asm))); intro d' h' o' F' N' l1 l2 lo' hd'; (try k_lt2 l2))
  trivial
theorem style_spec {w : World} {A : Around} {s : Shared} {t : Tok} {Q E : Value → Shared → Prop}
    (R : Rd (hd.heap_1 w.params) 4 A s.heap s) 
    (hret : ∀ r o h' tk', s.heap.StaysIn h' → s.heap.objs.size ≤ r → (r == sysModules) = false → h'.get? r = some o → o.IsDictOf (PySem.strKind PySem.Challenge.rw_pf0197_01.row.prog w) [] → Q (.ref r) { s with heap := h', toks := tk' }) :
    wpAny (model PySem.Challenge.rw_pf0197_01.row.prog w) A (call (.ref 208) [.str (S []) t] []) Q E s := by
  revert R; k_fill; intro R
  refine' enter (news := []) (args := ⟨[.str (S []) t], []⟩) (binds := [(Str.ofString "text", .str (S []) t)]) R ?foot ?ho ?hcd ?hbind ?hloc ?h ?hcell ?hco ?hgen ?hk
  case foot => intro p hp; cases hp
  case ho => k_is
  case hcd => k_is
  case hbind => exact BindsTo.of_eq rfl
  case hloc => exact locs rfl
  case hcell => decide
  case hco => exact rfl
  case hgen => exact rfl
  case hk => exact rfl
  clear R
  intro base dp un outer p loose mean mg mb L h₁ F' N' B' X' T' hDp hUn hl hs hA
  clear hA
  (try dsimp only); (try k_fold)
  k_steps
  (with_reducible rename Fr _ _ _ _ => Fz)
  (with_reducible rename News _ _ _ _ => Nz)
  exact hret _ _ _ _ Fz.keep (under hs (by with_reducible assumption)) (by with_reducible assumption) (Nz.get (.tail _ (List.mem_cons_self ..))) (by with_reducible assumption)
end Mine
end
section --C35
set_option maxHeartbeats 1600000
namespace Mine
theorem lnC35a : True := by
  k_with_none
  k_with "a1" => (first | with_reducible assumption | ((with_reducible apply Mine.ltm); (with_reducible assumption); k_mem))
  k_with "a2" => (first | with_reducible exact Mine.lss | with_reducible exact Mine.ltp (by assumption) | with_reducible exact Mine.ltp (Mine.ltp (by assumption)) | with_reducible exact Mine.ltp (Mine.ltp (Mine.ltp (by assumption))) | ((with_reducible refine Mine.lts ?_); first | with_reducible exact Mine.lss | k_memK) | ((with_reducible refine Mine.lts (Mine.lts ?_)); first | with_reducible exact Mine.lss | k_memK) | ((with_reducible refine Mine.lts (Mine.lts (Mine.lts ?_))); k_memK))
  k_with "a3" => (first | k_cls | ((with_reducible apply Mine.ltr); (with_reducible assumption); first | k_memK | k_cls) | ((with_reducible apply Mine.ltr); (with_reducible exact Mine.ltp (by assumption)); first | k_memK | k_cls))
  k_with "a4" => (first | with_reducible exact Mine.neAll (by assumption) | with_reducible exact Mine.neNil | ((with_reducible refine Mine.neCons ?_ ?_); k_ne; k_all))
  k_with "a5" => (first | with_reducible exact Mine.subNil | with_reducible exact Mine.subSame | ((with_reducible refine Mine.subCons ?_ ?_); k_mem; k_subL) | ((with_reducible refine Mine.subApp ?_ ?_); k_subL; k_subL) | ((with_reducible refine Mine.subTail ?_); k_subL))
  k_with "a6" => (first | with_reducible assumption | ((with_reducible show @Ne Nat _ _); first | ((with_reducible refine Mine.nlt ?_); k_memK) | ((with_reducible refine Mine.ngt ?_); k_memK) | (with_reducible exact Ne.symm (by assumption)) | ((with_reducible refine Mine.nlt ?_); k_types) | ((with_reducible refine Mine.ngt ?_); k_types)) | ((with_reducible apply Mine.dq0); (with_reducible assumption); decide) | ((with_reducible apply Mine.dq1); (with_reducible assumption); decide) | ((with_reducible apply Mine.dq2); (with_reducible assumption); decide) | ((with_reducible apply Mine.dq3); (with_reducible assumption); decide) | ((with_reducible apply Mine.dq4); (with_reducible assumption); decide) | ((with_reducible first | apply Mine.il1 | apply Mine.il3); (with_reducible assumption); decide) | ((with_reducible first | apply Mine.il2 | apply Mine.il4); (with_reducible assumption); decide) | ((with_reducible first | apply Mine.iu1 | apply Mine.iu3); (with_reducible assumption); decide) | ((with_reducible first | apply Mine.iu2 | apply Mine.iu4); (with_reducible assumption); decide) | ((with_reducible first | apply Mine.nl3 | apply Mine.nl2); (with_reducible assumption); decide) | ((with_reducible first | apply Mine.nu1 | apply Mine.nu3); (with_reducible assumption); decide) | ((with_reducible first | apply Mine.nu2 | apply Mine.nu4); (with_reducible assumption); decide) | ((with_reducible show @LT.lt Nat _ _ _); first | k_memK | k_types) | decide)
  k_with "a7" => (repeat (rename ∀ _ ∈ (_ : List (Addr × Obj)), @LT.lt Nat _ _ _ => hrw; replace hrw := allLt_of hrw; dsimp only [AllLt] at hrw))
  k_with "a8" => (first | (k_whole; kc_bool) | omega +splitDisjunctions | (k_whole; k_units; omega +splitDisjunctions))
  k_with "a9" => (first | (k_whole; kc_bool) | lia | omega +splitDisjunctions)
  k_with "eval Call" => ((fail_if_success (fail_if_success k_fold)); refine foldL ?_; intro qk ek; walk1)
  k_with "eval BinOp" => ((fail_if_success (fail_if_success k_fold)); refine foldL ?_; intro qk ek; walk1)
  k_with "eval Tuple" => ((fail_if_success (fail_if_success k_fold)); refine foldL ?_; intro qk ek; walk1)
  k_with "isTrue Compare" => ((fail_if_success (fail_if_success k_fold)); refine foldL ?_; intro qk ek; walk1)
  k_with "eval Subscript" => ((fail_if_success (fail_if_success k_fold)); refine foldL ?_; intro qk ek; walk1)
  k_with "exec Assign" => ((fail_if_success (fail_if_success k_fold)); refine foldL ?_; intro qk ek; walk1)
  k_with "eval List" => ((fail_if_success (fail_if_success k_fold)); refine foldL ?_; intro qk ek; walk1)
  k_with "eval Attribute" => ((fail_if_success (fail_if_success k_fold)); refine foldL ?_; intro qk ek; walk1)
  k_with "eval UnaryOp" => ((fail_if_success (fail_if_success k_fold)); refine foldL ?_; intro qk ek; walk1)
  k_with "callWith ref" => ((fail_if_success (fail_if_success k_fold)); refine foldL ?_; intro qk ek; walk1)
  k_with "callWith" => ((fail_if_success (fail_if_success k_fold)); refine foldL ?_; intro qk ek; walk1)
  k_with "eval Constant str" => (k_here; (with_reducible show wpAny _ _ (eval (PySem.Expr.Constant (PySem.Const.str (Str.ofString _)) _ _) _) _ _ _); (refine' const_litP ?eLP9 ?_; (case eLP9 => first | with_reducible exact lit_empty | with_reducible exact lit_dot | with_reducible exact lit_5 | with_reducible exact lit_25 | with_reducible exact lit_125 | with_reducible exact lit_minus | with_reducible exact lit_plus | with_reducible exact lit_e1 | with_reducible exact lit_em1 | with_reducible exact lit_E2 | with_reducible exact lit_em6 | with_reducible exact lit_pct | with_reducible exact lit_sp | with_reducible exact lit_comma | with_reducible exact lit_spcomma)))
  k_with "subscriptTail Name Constant ref int" => (k_here; first | refine tup_item0 (by assumption) (by assumption) ?_ | refine tup_item1 (by assumption) (by assumption) ?_)
  k_with "exec While" => (k_here; refine Stop.go ?_)
  k_with "binaryOp FloorDiv int int" => (k_here; refine floordiv_int (by first | decide | omega) ?_ (Or.inl (noPyl (by first | decide | omega) (by first | decide | omega))))
  k_with "newTuple" => (k_here; k_dflt (refine' newTuple_mine ?k1 ?k2 ?_ ?k3; (case k1 => k_asm); (case k2 => k_asm); (case k3 => first | decide | (exact Nat.le_of_ble_eq_true rfl) | (simp only [sizeLine_eq]; simp))); intro D h' F' N' l1 l2; (try k_lt l1); (try k_lt2 l2); (try k_sweep))
  k_with "binaryOp Mult int int" => (k_here; refine mul_int ?_ (by first | exact mulOk60 (by omega) (by omega) (by omega) (by omega) | mul_fits))
  k_with "call builtin:len" => (k_here; refine r_len (by first | omega | (simp only [List.length_append, List.length_cons, List.length_nil]; omega)) ?_; intro t9 k9)
  k_with "subscriptTail Attribute Attribute str int" => (k_here; (with_reducible show wpAny _ _ (subscriptTail _ _ (Value.str (S _) _) (Value.int _ _)) _ _ _); k_dflt (refine r_item (by omega) (by omega) (by omega) ?_); intro t9 k9)
  k_with "compareOp In str str" => (k_here; refine r_in ?_)
  k_with "subscriptTail Attribute Slice str ref" => (k_here; (with_reducible show wpAny _ _ (subscriptTail _ (Expr.Slice (some _) (some _) none _) (Value.str (S _) _) (Value.ref _)) _ _ _); (with_reducible rename Fr _ _ _ _ => Fz); (with_reducible rename News _ _ _ _ => Nz); k_dflt (refine r_slice (s := ⟨_, _, _, _, _⟩) Fz Nz (by omega) (by omega) (by omega) (by omega) ?_); intro h9 t9 k9 F9 N9; (try k_sweep))
  k_with "compareOp Eq str str" => (k_here; first | refine r_eq_f (by assumption) ?_ | refine r_eq_t (by assumption) ?_ | refine r_eq ?_)
  k_with "compareOp NotEq str str" => (k_here; first | refine r_ne_t (by assumption) ?_ | refine r_ne_f (by assumption) ?_ | refine r_ne ?_)
  k_with "eval Dict nil nil" => (k_here; k_dflt (refine' dict_none ?F ?N ?b ?_; (case F => k_asm); (case N => first | k_asm | exact News.nil); (case b => exact Top.nolimit (by k_asm))); intro f h' of F' N' l1 l2 lo' hd'; (try k_lt l1); (try k_lt2 l2))
  k_with "pyIter ref" => (refine Stop.go ?_)
  k_with "exec For Name Tuple cons nil" => (k_here; (rename Fr _ _ _ _ => lF'); (with_unfolding_all refine' For_invVF lF' ?k1 ?k2 ?_; (case k1 => exact rfl); (case k2 => exact rfl); k_whole))
  k_with "exec For Name Name cons nil" => (k_here; (rename Fr _ _ _ _ => lF'); (with_unfolding_all refine' For_invVF lF' ?k1 ?k2 ?_; (case k1 => exact rfl); (case k2 => exact rfl); k_whole))
  k_with "call ref" => (refine Stop.go ?_)
  k_with "call ref" => (k_here; (with_reducible show wpAny _ _ (call (Value.ref 208) _ _) _ _ _); first | ((with_reducible rename Fr _ _ _ _ => Fz); (with_reducible rename News _ _ _ _ => Nz); (k_dflt (refine' style_spec (rd_of ?B Fz ?X ?T rfl rfl ?d ?u)  ?_; (case B => assumption); (case X => assumption); (case T => assumption); (case d => (first | ((with_reducible apply dle); (with_reducible assumption); exact rfl) | omega)); (case u => (first | ((with_reducible apply ule); (with_reducible assumption); exact rfl) | omega)); k_whole)); intro st ost h9 tk9 st9 hl9 lo9 hr9 hd9; k_dflt ((refine back1_k Fz Nz st9 hl9 hr9 ?_; intro F9 N9 l9 m9)); clear Fz Nz st9 hl9 hr9; (try k_lt l9); (try k_lt2 m9); (try dsimp only); (try k_fold)) | refine Stop.go ?_)
  k_with "call ref" => (k_here; (with_reducible show wpAny _ _ (call (Value.ref 194) _ _) _ _ _); first | ((with_reducible rename Fr _ _ _ _ => Fz); (with_reducible rename News _ _ _ _ => Nz); (k_dflt (refine' handed_spec (rd_of ?B Fz ?X ?T rfl rfl ?d ?u)  ?_; (case B => assumption); (case X => assumption); (case T => assumption); (case d => (first | ((with_reducible apply dle); (with_reducible assumption); exact rfl) | omega)); (case u => (first | ((with_reducible apply ule); (with_reducible assumption); exact rfl) | omega)); k_whole)); intro ra oa kva h9 tk9 st9 hl9 lo9 hr9 hd9 hp9; k_dflt ((refine back1_k Fz Nz st9 hl9 hr9 ?_; intro F9 N9 l9 m9)); clear Fz Nz st9 hl9 hr9; (try k_lt l9); (try k_lt2 m9); (try dsimp only); (try k_fold)) | refine Stop.go ?_)
  k_with "call ref" => (k_here; (with_reducible show wpAny _ _ (call (Value.ref 201) _ _) _ _ _); first | ((with_reducible rename Fr _ _ _ _ => Fz); (with_reducible rename News _ _ _ _ => Nz); (k_dflt (refine' fresh_spec (rd_of ?B Fz ?X ?T rfl rfl ?d ?u)  ?_; (case B => assumption); (case X => assumption); (case T => assumption); (case d => (first | ((with_reducible apply dle); (with_reducible assumption); exact rfl) | omega)); (case u => (first | ((with_reducible apply ule); (with_reducible assumption); exact rfl) | omega)); k_whole)); intro rb ob kvb h9 tk9 st9 hl9 lo9 hr9 hd9 hp9; k_dflt ((refine back1_k Fz Nz st9 hl9 hr9 ?_; intro F9 N9 l9 m9)); clear Fz Nz st9 hl9 hr9; (try k_lt l9); (try k_lt2 m9); (try dsimp only); (try k_fold)) | refine Stop.go ?_)
  k_with "call ref" => (k_here; (with_reducible show wpAny _ _ (call (Value.ref 375) _ _) _ _ _); (with_reducible rename Fr _ _ _ _ => Fz); (with_reducible rename News _ _ _ _ => Nz); (first | (k_dflt (refine' get_else (rd_of ?B0 Fz ?X0 ?T0 rfl rfl ?d0 ?u0) ?g00 ?g01 ?g02 ?g03 ?g04 ?g05 ?_; (case B0 => assumption); (case X0 => assumption); (case T0 => assumption); (case d0 => omega); (case u0 => omega); (case g00 => (exact Fz.keep _ _ (by with_reducible assumption))); (case g01 => (exact Fz.keep _ _ (by with_reducible assumption))); (case g02 => (exact Fz.keep _ _ (by with_reducible assumption))); (case g03 => (with_reducible assumption)); (case g04 => (with_reducible assumption)); (case g05 => (with_reducible assumption)); k_whole)) | (k_dflt (refine' get_some (rd_of ?B1 Fz ?X1 ?T1 rfl rfl ?d1 ?u1) ?g10 ?g11 ?g12 ?g13 ?g14 ?g15 ?_; (case B1 => assumption); (case X1 => assumption); (case T1 => assumption); (case d1 => omega); (case u1 => omega); (case g10 => (exact Fz.keep _ _ (by with_reducible assumption))); (case g11 => (exact Fz.keep _ _ (by with_reducible assumption))); (case g12 => (exact Fz.keep _ _ (by with_reducible assumption))); (case g13 => (with_reducible assumption)); (case g14 => (with_reducible assumption)); (case g15 => (with_reducible assumption)); k_whole)) | (k_dflt (refine' get_none (rd_of ?B2 Fz ?X2 ?T2 rfl rfl ?d2 ?u2) ?g20 ?g21 ?g22 ?g23 ?g24 ?g25 ?_; (case B2 => assumption); (case X2 => assumption); (case T2 => assumption); (case d2 => omega); (case u2 => omega); (case g20 => (exact Fz.keep _ _ (by with_reducible assumption))); (case g21 => (exact Fz.keep _ _ (by with_reducible assumption))); (case g22 => (exact Fz.keep _ _ (by with_reducible assumption))); (case g23 => (with_reducible assumption)); (case g24 => (with_reducible assumption)); (case g25 => (with_reducible assumption)); k_whole))); intro h9 tk9 st9; k_dflt ((refine back_k Fz Nz st9 ?_; intro F9 N9)); clear Fz Nz st9; (try dsimp only); (try k_fold))
  k_with "getMethod ref" => (k_here; (with_reducible show wpAny _ _ (getMethod (Value.ref _) (Str.ofString "get") _) _ _ _); (with_reducible rename News _ _ _ _ => Nz); k_dflt (refine b_getm (Nz.get (by k_mem)) (by with_reducible assumption) ?_))
  k_with "call builtin:dict.get" => (k_here; (with_reducible rename News _ _ _ _ => Nz); k_dflt (refine b_get2n (kvs := []) (Nz.get (by k_mem)) (by with_reducible assumption) (by with_reducible assumption) rfl ?_))
  k_with "setItem ref str" => (refine Stop.go ?_)
  k_with "call builtin:str.strip" => (k_here; (with_reducible show wpAny _ _ (call (Value.builtin "str.strip") [Value.str (S _) _]) _ _ _); refine r_strip (by first | omega | (simp only [List.length_append, List.length_cons, List.length_nil, List.length_take]; omega)) ?_; intro t9 k9)
  trivial
theorem told_spec {w : World} {A : Around} {s : Shared} {ex dex da ch : Addr} {nv tv : Value} {o : Obj} {kvs : List (Str × Value)} {h3 h4 h5 h6 : Int} {k3 k4 k5 k6 : Tok} {l : List Nat} {Q E : Value → Shared → Prop}
    (R : Rd (hd.heap_1 w.params) 8 A s.heap s) (hex : s.heap.get? ex = some (instObj 378 dex)) (hdex : s.heap.get? dex = some (elemD nv da ch tv h3 h4 h5 h6 k3 k4 k5 k6)) (hda : s.heap.get? da = some o) (hdo : o.IsDictOf (PySem.strKind PySem.Challenge.rw_pf0197_01.row.prog w) kvs) (hlo : (da == sysModules) = false) (hP : PairsAre kvs (strOf (atsL l))) (hL : l.length ≤ 100)
    (hret : ∀ r o kvs h' tk', s.heap.StaysIn h' → s.heap.objs.size ≤ r → (r == sysModules) = false → h'.get? r = some o → o.IsDictOf (PySem.strKind PySem.Challenge.rw_pf0197_01.row.prog w) kvs → PairsAre kvs [(Str.ofString "stroke-width", S [50, 101, 109]), (Str.ofString "stroke-dashoffset", S [53, 48, 37]), (Str.ofString "font-size", S (stripL l))] → Q (.ref r) { s with heap := h', toks := tk' }) :
    wpAny (model PySem.Challenge.rw_pf0197_01.row.prog w) A (call (.ref 215) [.ref ex] []) Q E s := by
  revert R; k_fill; intro R
  refine' enter (news := []) (args := ⟨[.ref ex], []⟩) (binds := [(Str.ofString "element", .ref ex)]) R ?foot ?ho ?hcd ?hbind ?hloc ?h ?hcell ?hco ?hgen ?hk
  case foot => intro p hp; cases hp
  case ho => k_is
  case hcd => k_is
  case hbind => exact BindsTo.of_eq rfl
  case hloc => exact locs rfl
  case hcell => decide
  case hco => exact rfl
  case hgen => exact rfl
  case hk => exact rfl
  clear R
  intro base dp un outer p loose mean mg mb L h₁ F' N' B' X' T' hDp hUn hl hs hA
  clear hA
  (try dsimp only); (try k_fold)
  have hst : valueAt kvs (Str.ofString "style") = none := hP.absent (by show _ ∉ [Str.ofString "font-size", Str.ofString "stroke-width", Str.ofString "stroke-dashoffset"]; decide +kernel)
  k_steps
  refine Stop.out ?_
  (with_reducible rename Fr _ _ _ _ => Fz)
  (with_reducible rename News _ _ _ _ => Nz)
  (with_reducible rename PairsAre _ freshL => hpB)
  (with_reducible rename PairsAre _ handedL => hpA)
  have hdA : oa.IsDictOf (PySem.strKind PySem.Challenge.rw_pf0197_01.row.prog w) kva := by with_reducible assumption
  have hdB : ob.IsDictOf (PySem.strKind PySem.Challenge.rw_pf0197_01.row.prog w) kvb := by with_reducible assumption
  have hdF : of.IsDictOf (PySem.strKind PySem.Challenge.rw_pf0197_01.row.prog w) [] := by with_reducible assumption
  have hdS : ost.IsDictOf (PySem.strKind PySem.Challenge.rw_pf0197_01.row.prog w) [] := by with_reducible assumption
  have loA : (ra == sysModules) = false := by with_reducible assumption
  have loB : (rb == sysModules) = false := by with_reducible assumption
  have loF : (f == sysModules) = false := by with_reducible assumption
  have loS : (st == sysModules) = false := by with_reducible assumption
  have mA : @LT.lt Nat _ L ra := by with_reducible assumption
  have mB : @LT.lt Nat _ L rb := by with_reducible assumption
  refine tuple_turns (x := Str.ofString "known") (items := #[Value.ref ra, Value.ref rb]) (news := [(rb, ob), (ra, oa), (f, of), (st, ost)]) (fun i m nx => ∀ Gj : Prop, (∀ og kg, nx = [(rb, ob), (ra, oa), (f, og), (st, ost)] → m (Str.ofString "found") = some (.ref f) → m (Str.ofString "style") = some (.ref st) → m (Str.ofString "element") = some (.ref ex) → og.IsDictOf (PySem.strKind PySem.Challenge.rw_pf0197_01.row.prog w) kg → PairsAre kg (gotL (atsL l) (preL i)) → Gj) → Gj) rfl Fz (ntail Nz) ⟨_, (Nz _ (List.mem_cons_self ..)).1, rfl, _, rfl⟩ (by show @Ne Nat D L; omega) (by intro p hp; simp only [List.mem_cons, List.not_mem_nil, or_false] at hp; rcases hp with rfl | rfl | rfl | rfl <;> (show @Ne Nat _ D; omega)) (fun _ kJ => kJ of [] rfl rfl rfl rfl hdF .nil) ?_ ?_
  · intro i v m₁ nx h tk own hv hmap hoff hJ F N
    clear Fz Nz
    refine hJ _ ?_
    clear hJ
    intro og kg hnx e1 e2 e3 hog hkg
    subst hnx
    have hpk : ∀ Gj : Prop, (∀ d od kd ps, v = .ref d → (d, od) ∈ [(rb, ob), (ra, oa)] → od.IsDictOf (PySem.strKind PySem.Challenge.rw_pf0197_01.row.prog w) kd → PairsAre kd ps → (d == sysModules) = false → preL (i + 1) = preL i ++ ps.map (·.1) → (preL i ++ ps.map (·.1)).Nodup → @LT.lt Nat _ L d → @LT.lt Nat _ f d → @LT.lt Nat _ st d → Gj) → Gj := by
      rcases i with _ | _ | i
      · exact fun _ kJ => kJ ra oa kva _ (Option.some.inj hv).symm (.tail _ (.head _)) hdA hpA loA rfl (by simp only [preL, List.nil_append]; decide +kernel) mA (by omega) (by omega)
      · exact fun _ kJ => kJ rb ob kvb _ (Option.some.inj hv).symm (.head _) hdB hpB loB rfl pre_nodup mB (by omega) (by omega)
      · exact nomatch hv
    refine hpk _ ?_
    clear hpk hv
    intro d od kd ps hvd hdin hdd hdp hlo hnext hnd hdL hdf hds
    subst hvd
    replace F := put3F F (thru (by decide +kernel) e1) (thru (by decide +kernel) e2) (thru (by decide +kernel) e3)
    have hdn : (d, od) ∈ [(rb, ob), (ra, oa), (f, og), (st, ost)] := List.mem_append_left [(f, og), (st, ost)] hdin
    simp only [List.cons_append, List.nil_append] at N
    k_steps
    refine Stop.out ?_
    (with_reducible rename Fr _ _ _ _ => Fz)
    (with_reducible rename News _ _ _ _ => Nz)
    have hdm : (d, od) ∈ (rb, ob) :: (ra, oa) :: (f, og) :: (st, ost) :: own := List.mem_append_left own hdn
    have hfo : ∀ p ∈ own, p.1 ≠ f := hoff.ne (by simp)
    refine keys_turnsR (x := Str.ofString "name") (o := od) (kvs := kd) (news := (rb, ob) :: (ra, oa) :: (f, og) :: (st, ost) :: own) (fun j m nx => ∀ Gj : Prop, (∀ oh kh, nx = (rb, ob) :: (ra, oa) :: (f, oh) :: (st, ost) :: own → m (Str.ofString "found") = some (.ref f) → m (Str.ofString "style") = some (.ref st) → m (Str.ofString "element") = some (.ref ex) → oh.IsDictOf (PySem.strKind PySem.Challenge.rw_pf0197_01.row.prog w) kh → PairsAre kh (gotL (atsL l) (preL i ++ (ps.take j).map (·.1))) → Gj) → Gj) rfl Fz Nz (Nz _ hdm).1 hdd hlo (by show @Ne Nat d L; omega) (fun _ kJ => kJ og kg rfl rfl rfl rfl hog (by simpa using hkg)) ?_ ?_
    · intro j k v t m₂ nx h2 tk2 own2 hkv hmap2 hoff2 hJ F2 N2
      clear Fz Nz
      refine hJ _ ?_
      clear hJ
      intro oh kh hnx e1' e2' e3' hoh hkh
      subst hnx
      have hnk := key_new hnd hdp hkv
      have htk := take_key hdp hkv
      have hf2 : ∀ p ∈ own2, p.1 ≠ f := hoff2 f (by simp) (by show @Ne Nat f d; omega)
      have hfo2 : ∀ p ∈ own ++ own2, p.1 ≠ f := fun p hp => (List.mem_append.mp hp).elim (hfo p) (hf2 p)
      replace F2 := put3F F2 (thru (by decide +kernel) e1') (thru (by decide +kernel) e2') (thru (by decide +kernel) e3')
      simp only [List.cons_append, List.nil_append] at N2
      rcases attr_of hP (k := k) with ⟨hfi, hvk⟩ | ⟨la, ta, hfi, hma, hvk⟩
      · k_steps
        refine Stop.out ?_
        (with_reducible rename Fr _ _ _ _ => Fz)
        (with_reducible rename News _ _ _ _ => Nz)
        exact ⟨_, _, _, _, (rb, ob) :: (ra, oa) :: (f, oh) :: (st, ost) :: own, rfl, Fz, Nz, (fun p hp => List.mem_append_left own2 hp), (fun p hp => List.mem_append_right ((rb, ob) :: (ra, oa) :: (f, oh) :: (st, ost) :: own) hp), rfl, fun _ kJ => kJ oh kh rfl rfl rfl rfl hoh (by rw [htk, ← List.append_assoc, got_none hfi]; exact hkh)⟩
      · have hlen : la.length ≤ 100 := by
          simp only [atsL, List.mem_cons, Prod.mk.injEq, List.not_mem_nil, or_false] at hma
          rcases hma with ⟨_, rfl⟩ | ⟨_, rfl⟩ | ⟨_, rfl⟩
          · exact hL
          · decide
          · decide
        k_steps
        refine Stop.out ?_
        (with_reducible rename Fr _ _ _ _ => Fz)
        (with_reducible rename News _ _ _ _ => Nz)
        refine b_setItem Fz Nz (UpdF.tail (by show @Ne Nat rb f; omega) (UpdF.tail (by show @Ne Nat ra f; omega) (UpdF.head ?_))) hoh ?_ ?_
        · intro p hp
          rcases List.mem_cons.mp hp with rfl | hp
          · show @Ne Nat st f; omega
          · exact hfo2 p hp
        · have g1 := hkh.len
          have g2 := gotL_len (atsL l) (preL i ++ (ps.take j).map (·.1))
          have g3 := preL_len (i + 1)
          rw [hnext] at g3
          simp only [List.length_append, List.length_map, List.length_take] at g2 g3
          omega
        intro h3 o3 F3 N3 hd3
        clear Fz Nz
        rw [stored_absent (hkh.absent (fun h => hnk (gotL_keys h)))] at hd3
        k_steps
        refine Stop.out ?_
        (with_reducible rename Fr _ _ _ _ => Fz)
        (with_reducible rename News _ _ _ _ => Nz)
        exact ⟨_, _, _, _, (rb, ob) :: (ra, oa) :: (f, o3) :: (st, ost) :: own, rfl, Fz, Nz, (fun p hp => List.mem_append_left own2 hp), (fun p hp => List.mem_append_right ((rb, ob) :: (ra, oa) :: (f, o3) :: (st, ost) :: own) hp), rfl, fun _ kJ => kJ o3 _ rfl rfl rfl rfl hd3 (by rw [htk, ← List.append_assoc, got_some hfi]; exact hkh.app (.cons .nil))⟩
    · intro m₂ nx h2 tk2 hJ F2 N2
      clear Fz Nz
      refine hJ _ ?_
      clear hJ
      intro oh kh hnx e1' e2' e3' hoh hkh
      subst hnx
      k_steps
      refine Stop.out ?_
      (with_reducible rename Fr _ _ _ _ => Fz)
      (with_reducible rename News _ _ _ _ => Nz)
      refine ⟨_, _, _, _, [(rb, ob), (ra, oa), (f, oh), (st, ost)], rfl, Fz, Nz, (fun p hp => List.mem_append_left own hp), (fun p hp => List.mem_append_right [(rb, ob), (ra, oa), (f, oh), (st, ost)] hp), rfl, fun _ kJ => kJ oh kh rfl e1' e2' e3' hoh ?_⟩
      rw [hnext]
      rw [hdp.len, List.take_length] at hkh
      exact hkh
  · intro m₁ nx h tk hJ F N
    clear Fz Nz
    refine hJ _ ?_
    clear hJ
    intro og kg hnx e1 e2 e3 hog hkg
    subst hnx
    replace F := putF F e1
    k_steps
    refine Stop.out ?_
    (with_reducible rename Fr _ _ _ _ => Fz)
    (with_reducible rename News _ _ _ _ => Nz)
    have hg : PairsAre kg [(Str.ofString "stroke-width", S [50, 101, 109]), (Str.ofString "stroke-dashoffset", S [53, 48, 37]), (Str.ofString "font-size", S (stripL l))] := got_all l ▸ hkg
    exact hret _ _ _ _ _ Fz.keep (under hs (by with_reducible assumption)) loF (Nz.get (by k_mem)) hog hg
end Mine
end
section --C36
set_option maxHeartbeats 1600000
namespace Mine
theorem r_pow6 {prog : Program} {w : World} {A : Around} {E : Value → Shared → Prop} {s : Shared} {t u : Tok} {Q : Value → Shared → Prop} (h : ∀ t k, Q (.int 1000000 t) { s with toks := k }) : wpAny (model prog w) A (binaryOp .Pow (.int 10 t) (.int 6 u)) Q E s :=
  pow_int_small (by omega) (by omega) (by decide) (h _ _)
theorem lnC36a : True := by
  k_with_none
  k_with "a1" => (first | with_reducible assumption | ((with_reducible apply Mine.ltm); (with_reducible assumption); k_mem))
  k_with "a2" => (first | with_reducible exact Mine.lss | with_reducible exact Mine.ltp (by assumption) | with_reducible exact Mine.ltp (Mine.ltp (by assumption)) | with_reducible exact Mine.ltp (Mine.ltp (Mine.ltp (by assumption))) | ((with_reducible refine Mine.lts ?_); first | with_reducible exact Mine.lss | k_memK) | ((with_reducible refine Mine.lts (Mine.lts ?_)); first | with_reducible exact Mine.lss | k_memK) | ((with_reducible refine Mine.lts (Mine.lts (Mine.lts ?_))); k_memK))
  k_with "a3" => (first | k_cls | ((with_reducible apply Mine.ltr); (with_reducible assumption); first | k_memK | k_cls) | ((with_reducible apply Mine.ltr); (with_reducible exact Mine.ltp (by assumption)); first | k_memK | k_cls))
  k_with "a4" => (first | with_reducible exact Mine.neAll (by assumption) | with_reducible exact Mine.neNil | ((with_reducible refine Mine.neCons ?_ ?_); k_ne; k_all))
  k_with "a5" => (first | with_reducible exact Mine.subNil | with_reducible exact Mine.subSame | ((with_reducible refine Mine.subCons ?_ ?_); k_mem; k_subL) | ((with_reducible refine Mine.subApp ?_ ?_); k_subL; k_subL) | ((with_reducible refine Mine.subTail ?_); k_subL))
  k_with "a6" => (first | with_reducible assumption | ((with_reducible show @Ne Nat _ _); first | ((with_reducible refine Mine.nlt ?_); k_memK) | ((with_reducible refine Mine.ngt ?_); k_memK) | (with_reducible exact Ne.symm (by assumption)) | ((with_reducible refine Mine.nlt ?_); k_types) | ((with_reducible refine Mine.ngt ?_); k_types)) | ((with_reducible apply Mine.dq0); (with_reducible assumption); decide) | ((with_reducible apply Mine.dq1); (with_reducible assumption); decide) | ((with_reducible apply Mine.dq2); (with_reducible assumption); decide) | ((with_reducible apply Mine.dq3); (with_reducible assumption); decide) | ((with_reducible apply Mine.dq4); (with_reducible assumption); decide) | ((with_reducible first | apply Mine.il1 | apply Mine.il3); (with_reducible assumption); decide) | ((with_reducible first | apply Mine.il2 | apply Mine.il4); (with_reducible assumption); decide) | ((with_reducible first | apply Mine.iu1 | apply Mine.iu3); (with_reducible assumption); decide) | ((with_reducible first | apply Mine.iu2 | apply Mine.iu4); (with_reducible assumption); decide) | ((with_reducible first | apply Mine.nl3 | apply Mine.nl2); (with_reducible assumption); decide) | ((with_reducible first | apply Mine.nu1 | apply Mine.nu3); (with_reducible assumption); decide) | ((with_reducible first | apply Mine.nu2 | apply Mine.nu4); (with_reducible assumption); decide) | ((with_reducible show @LT.lt Nat _ _ _); first | k_memK | k_types) | decide)
  k_with "a7" => (repeat (rename ∀ _ ∈ (_ : List (Addr × Obj)), @LT.lt Nat _ _ _ => hrw; replace hrw := allLt_of hrw; dsimp only [AllLt] at hrw))
  k_with "a8" => (first | (k_whole; kc_bool) | omega +splitDisjunctions | (k_whole; k_units; omega +splitDisjunctions))
  k_with "a9" => (first | (k_whole; kc_bool) | lia | omega +splitDisjunctions)
  k_with "eval Call" => ((fail_if_success (fail_if_success k_fold)); refine foldL ?_; intro qk ek; walk1)
  k_with "eval BinOp" => ((fail_if_success (fail_if_success k_fold)); refine foldL ?_; intro qk ek; walk1)
  k_with "eval Tuple" => ((fail_if_success (fail_if_success k_fold)); refine foldL ?_; intro qk ek; walk1)
  k_with "isTrue Compare" => ((fail_if_success (fail_if_success k_fold)); refine foldL ?_; intro qk ek; walk1)
  k_with "eval Subscript" => ((fail_if_success (fail_if_success k_fold)); refine foldL ?_; intro qk ek; walk1)
  k_with "exec Assign" => ((fail_if_success (fail_if_success k_fold)); refine foldL ?_; intro qk ek; walk1)
  k_with "eval List" => ((fail_if_success (fail_if_success k_fold)); refine foldL ?_; intro qk ek; walk1)
  k_with "eval Attribute" => ((fail_if_success (fail_if_success k_fold)); refine foldL ?_; intro qk ek; walk1)
  k_with "eval UnaryOp" => ((fail_if_success (fail_if_success k_fold)); refine foldL ?_; intro qk ek; walk1)
  k_with "callWith ref" => ((fail_if_success (fail_if_success k_fold)); refine foldL ?_; intro qk ek; walk1)
  k_with "callWith" => ((fail_if_success (fail_if_success k_fold)); refine foldL ?_; intro qk ek; walk1)
  k_with "eval Constant str" => (k_here; (with_reducible show wpAny _ _ (eval (PySem.Expr.Constant (PySem.Const.str (Str.ofString _)) _ _) _) _ _ _); (refine' const_litP ?eLP9 ?_; (case eLP9 => first | with_reducible exact lit_empty | with_reducible exact lit_dot | with_reducible exact lit_5 | with_reducible exact lit_25 | with_reducible exact lit_125 | with_reducible exact lit_minus | with_reducible exact lit_plus | with_reducible exact lit_e1 | with_reducible exact lit_em1 | with_reducible exact lit_E2 | with_reducible exact lit_em6 | with_reducible exact lit_pct | with_reducible exact lit_sp | with_reducible exact lit_comma | with_reducible exact lit_spcomma)))
  k_with "binaryOp FloorDiv int int" => (k_here; refine floordiv_int (by first | decide | omega) ?_ (Or.inl (noPyl (by first | decide | omega) (by first | decide | omega))))
  k_with "newTuple" => (k_here; k_dflt (refine' newTuple_mine ?k1 ?k2 ?_ ?k3; (case k1 => k_asm); (case k2 => k_asm); (case k3 => first | decide | (exact Nat.le_of_ble_eq_true rfl) | (simp only [sizeLine_eq]; simp))); intro D' h' F' N' l1 l2; (try k_lt l1); (try k_lt2 l2); (try k_sweep))
  k_with "binaryOp Mult int int" => (k_here; refine mul_int ?_ (by first | exact mulOk60 (by omega) (by omega) (by omega) (by omega) | mul_fits))
  k_with "ite" => (first | refine if_f ?_ | refine if_t ?_)
  k_with "binaryOp Add str str" => (k_here; (with_reducible show wpAny _ _ (binaryOp _ (Value.str (S _) _) (Value.str (S _) _)) _ _ _); refine r_add (by first | omega | (simp only [List.length_append, List.length_cons, List.length_nil]; omega)) ?_; intro t9 k9)
  k_with "call builtin:str.strip" => (k_here; (with_reducible show wpAny _ _ (call (Value.builtin "str.strip") [Value.str (S _) _]) _ _ _); refine r_strip (by first | omega | (simp only [List.length_append, List.length_cons, List.length_nil, List.length_take]; omega)) ?_; intro t9 k9)
  k_with "subscriptTail Name Constant ref int" => (k_here; (with_reducible show wpAny _ _ (subscriptTail _ _ (Value.ref _) (Value.int 0 _)) _ _ _); (with_reducible rename Fr _ _ _ _ => Fz); first | (k_dflt (refine tup_item0 Fz (by with_reducible assumption) ?_)) | ((with_reducible rename News _ _ _ _ => Nz); (k_dflt (refine tupN_item0 Nz (by k_mem) ?_))))
  k_with "subscriptTail Name Constant ref int" => (k_here; (with_reducible show wpAny _ _ (subscriptTail _ _ (Value.ref _) (Value.int 1 _)) _ _ _); (with_reducible rename Fr _ _ _ _ => Fz); first | (k_dflt (refine tup_item1 Fz (by with_reducible assumption) ?_)) | ((with_reducible rename News _ _ _ _ => Nz); (k_dflt (refine tupN_item1 Nz (by k_mem) ?_))))
  k_with "call builtin:len" => (k_here; refine r_len (by first | omega | (simp only [List.length_append, List.length_cons, List.length_nil]; omega)) ?_; intro t9 k9)
  k_with "subscriptTail Attribute Attribute str int" => (k_here; (with_reducible show wpAny _ _ (subscriptTail _ _ (Value.str (S _) _) (Value.int _ _)) _ _ _); k_dflt (refine r_item (by omega) (by omega) (by omega) ?_); intro t9 k9)
  k_with "compareOp In str str" => (k_here; refine r_in ?_)
  k_with "subscriptTail Attribute Slice str ref" => (k_here; (with_reducible show wpAny _ _ (subscriptTail _ (Expr.Slice (some _) (some _) none _) (Value.str (S _) _) (Value.ref _)) _ _ _); (with_reducible rename Fr _ _ _ _ => Fz); (with_reducible rename News _ _ _ _ => Nz); k_dflt (refine r_slice (s := ⟨_, _, _, _, _⟩) Fz Nz (by omega) (by omega) (by omega) (by omega) ?_); intro h9 t9 k9 F9 N9; (try k_sweep))
  k_with "compareOp Eq str str" => (k_here; first | refine r_eq_f (by assumption) ?_ | refine r_eq_t (by assumption) ?_ | refine r_eq ?_)
  k_with "compareOp NotEq str str" => (k_here; first | refine r_ne_t (by assumption) ?_ | refine r_ne_f (by assumption) ?_ | refine r_ne ?_)
  k_with "call type:str" => (k_here; refine r_str (by omega) (by omega) ?_; intro t9 k9 hl9)
  k_with "binaryOp Pow int int" => (k_here; refine r_pow6 ?_; intro t9 k9)
  k_with "call ref" => (k_here; (with_reducible show wpAny _ _ (call (Value.ref 231) _ _) _ _ _); first | ((with_reducible rename Fr _ _ _ _ => Fz); (with_reducible rename News _ _ _ _ => Nz); (k_dflt (refine' length_spec' (rd_of ?B Fz ?X ?T rfl rfl ?d ?u) ?p0 ?p1 ?p2 ?p3 ?p4 ?p5 ?p6 ?p7 ?p8 ?p9 ?p10 ?_; (case B => assumption); (case X => assumption); (case T => assumption); (case d => (first | ((with_reducible apply dle); (with_reducible assumption); exact rfl) | omega)); (case u => (first | ((with_reducible apply ule); (with_reducible assumption); exact rfl) | omega)); (case p0 => (with_reducible assumption)); (case p1 => (first | exact Nz.get (by k_mem) | exact Fz.keep _ _ (by with_reducible assumption) | exact Fz.keep _ _ (by assumption) | exact Fz.keep _ _ ((by assumption : Frag.In _ _) _ _ (by k_is)))); (case p2 => (first | exact Nz.get (by k_mem) | exact Fz.keep _ _ (by with_reducible assumption) | exact Fz.keep _ _ (by assumption) | exact Fz.keep _ _ ((by assumption : Frag.In _ _) _ _ (by k_is)))); (case p3 => (first | with_reducible assumption | omega)); (case p4 => (first | with_reducible assumption | omega)); (case p5 => (first | with_reducible assumption | omega)); (case p6 => (first | with_reducible assumption | omega)); (case p7 => (first | with_reducible assumption | omega)); (case p8 => (first | with_reducible assumption | omega)); (case p9 => (first | with_reducible assumption | omega)); (case p10 => (first | with_reducible assumption | omega)); k_whole)); intro r9 t9 u9 h9 tk9 st9 hl9 hr9; k_dflt ((refine back1_k Fz Nz st9 hl9 hr9 ?_; intro F9 N9 l9 m9)); clear Fz Nz st9 hl9 hr9; (try k_lt l9); (try k_lt2 m9); (try dsimp only); (try k_fold)) | refine Stop.go ?_)
  k_with "call ref" => (k_here; (with_reducible show wpAny _ _ (call (Value.ref 266) _ _) _ _ _); first | ((with_reducible rename Fr _ _ _ _ => Fz); (with_reducible rename News _ _ _ _ => Nz); (k_dflt (refine' font_spec (rd_of ?B Fz ?X ?T rfl rfl ?d ?u) ?p0 ?p1 ?p2 ?p3 ?p4 ?p5 ?_; (case B => assumption); (case X => assumption); (case T => assumption); (case d => (first | ((with_reducible apply dle); (with_reducible assumption); exact rfl) | omega)); (case u => (first | ((with_reducible apply ule); (with_reducible assumption); exact rfl) | omega)); (case p0 => (first | exact Nz.get (by k_mem) | exact Fz.keep _ _ (by with_reducible assumption) | exact Fz.keep _ _ (by assumption) | exact Fz.keep _ _ ((by assumption : Frag.In _ _) _ _ (by k_is)))); (case p1 => (first | exact Nz.get (by k_mem) | exact Fz.keep _ _ (by with_reducible assumption) | exact Fz.keep _ _ (by assumption) | exact Fz.keep _ _ ((by assumption : Frag.In _ _) _ _ (by k_is)))); (case p2 => (first | exact Nz.get (by k_mem) | exact Fz.keep _ _ (by with_reducible assumption) | exact Fz.keep _ _ (by assumption) | exact Fz.keep _ _ ((by assumption : Frag.In _ _) _ _ (by k_is)))); (case p3 => (with_reducible assumption)); (case p4 => (with_reducible assumption)); (case p5 => (with_reducible assumption)); k_whole)); intro r9 t9 u9 h9 tk9 st9 hl9 hr9; k_dflt ((refine back1_k Fz Nz st9 hl9 hr9 ?_; intro F9 N9 l9 m9)); clear Fz Nz st9 hl9 hr9; (try k_lt l9); (try k_lt2 m9); (try dsimp only); (try k_fold)) | refine Stop.go ?_)
  k_with "call ref" => (k_here; (with_reducible show wpAny _ _ (call (Value.ref 95) _ _) _ _ _); first | ((with_reducible rename Fr _ _ _ _ => Fz); (with_reducible rename News _ _ _ _ => Nz); (k_dflt (refine' times_spec (rd_of ?B Fz ?X ?T rfl rfl ?d ?u) ?p0 ?p1 ?p2 ?p3 ?p4 ?p5 ?p6 ?p7 ?p8 ?p9 ?_; (case B => assumption); (case X => assumption); (case T => assumption); (case d => (first | ((with_reducible apply dle); (with_reducible assumption); exact rfl) | omega)); (case u => (first | ((with_reducible apply ule); (with_reducible assumption); exact rfl) | omega)); (case p0 => (first | exact Nz.get (by k_mem) | exact Fz.keep _ _ (by with_reducible assumption) | exact Fz.keep _ _ (by assumption) | exact Fz.keep _ _ ((by assumption : Frag.In _ _) _ _ (by k_is)))); (case p1 => (first | exact Nz.get (by k_mem) | exact Fz.keep _ _ (by with_reducible assumption) | exact Fz.keep _ _ (by assumption) | exact Fz.keep _ _ ((by assumption : Frag.In _ _) _ _ (by k_is)))); (case p2 => (first | with_reducible assumption | omega)); (case p3 => (first | with_reducible assumption | omega)); (case p4 => (first | with_reducible assumption | omega)); (case p5 => (first | with_reducible assumption | omega)); (case p6 => (first | with_reducible assumption | omega)); (case p7 => (first | with_reducible assumption | omega)); (case p8 => (first | with_reducible assumption | omega)); (case p9 => (first | with_reducible assumption | omega)); k_whole)); intro r9 t9 u9 h9 tk9 st9 hl9 hr9; k_dflt ((refine back1_k Fz Nz st9 hl9 hr9 ?_; intro F9 N9 l9 m9)); clear Fz Nz st9 hl9 hr9; (try k_lt l9); (try k_lt2 m9); (try dsimp only); (try k_fold)) | refine Stop.go ?_)
  k_with "call ref" => (k_here; (with_reducible show wpAny _ _ (call (Value.ref 123) _ _) _ _ _); first | ((with_reducible rename Fr _ _ _ _ => Fz); (with_reducible rename News _ _ _ _ => Nz); (k_dflt (refine' rounded_spec (rd_of ?B Fz ?X ?T rfl rfl ?d ?u) ?p0 ?p1 ?p2 ?p3 ?p4 ?_; (case B => assumption); (case X => assumption); (case T => assumption); (case d => (first | ((with_reducible apply dle); (with_reducible assumption); exact rfl) | omega)); (case u => (first | ((with_reducible apply ule); (with_reducible assumption); exact rfl) | omega)); (case p0 => (first | exact Nz.get (by k_mem) | exact Fz.keep _ _ (by with_reducible assumption) | exact Fz.keep _ _ (by assumption) | exact Fz.keep _ _ ((by assumption : Frag.In _ _) _ _ (by k_is)))); (case p1 => (first | with_reducible assumption | omega)); (case p2 => (first | with_reducible assumption | omega)); (case p3 => (first | with_reducible assumption | omega)); (case p4 => (first | with_reducible assumption | omega)); k_whole)); intro t9 h9 tk9 st9; k_dflt ((refine back_k Fz Nz st9 ?_; intro F9 N9)); clear Fz Nz st9; (try dsimp only); (try k_fold)) | refine Stop.go ?_)
  k_with "call ref" => (k_here; (with_reducible show wpAny _ _ (call (Value.ref 81) _ _) _ _ _); first | ((with_reducible rename Fr _ _ _ _ => Fz); (with_reducible rename News _ _ _ _ => Nz); (k_dflt (refine' fraction_spec (rd_of ?B Fz ?X ?T rfl rfl ?d ?u) ?p0 ?p1 ?_; (case B => assumption); (case X => assumption); (case T => assumption); (case d => (first | ((with_reducible apply dle); (with_reducible assumption); exact rfl) | omega)); (case u => (first | ((with_reducible apply ule); (with_reducible assumption); exact rfl) | omega)); (case p0 => (first | with_reducible assumption | omega)); (case p1 => (first | with_reducible assumption | omega)); k_whole)); intro r9 t9 u9 h9 tk9 st9 hl9 hr9; k_dflt ((refine back1_k Fz Nz st9 hl9 hr9 ?_; intro F9 N9 l9 m9)); clear Fz Nz st9 hl9 hr9; (try k_lt l9); (try k_lt2 m9); (try dsimp only); (try k_fold)) | refine Stop.go ?_)
  trivial
theorem round_bd {a b : Int} (h0 : -1000000000000000000000000000000 < a) (h1 : a < 1000000000000000000000000000000) (h2 : 0 < b) : -1000000000000000000000000000000000000000000000000000000000000 < roundedF (a, b) ∧ roundedF (a, b) < 1000000000000000000000000000000000000000000000000000000000000 := by
  unfold roundedF
  dsimp only
  have e := Int.mul_fdiv_add_fmod (2 * a + b) (2 * b)
  have f0 := Int.fmod_nonneg_of_pos (2 * a + b) (show 0 < 2 * b by omega)
  have f1 := Int.fmod_lt_of_pos (2 * a + b) (show 0 < 2 * b by omega)
  generalize Int.fdiv (2 * a + b) (2 * b) = q at e ⊢
  generalize Int.fmod (2 * a + b) (2 * b) = r at e f0 f1
  have hq : 2 * b * q = 2 * a + b - r := by omega
  constructor
  · by_cases hh : 0 ≤ q
    · omega
    · have : 2 * b * q ≤ 2 * b * (-1) := Int.mul_le_mul_of_nonneg_left (by omega) (by omega)
      have h3 : b * q ≤ 1 * q := Int.mul_le_mul_of_nonpos_right (by omega) (by omega)
      have h4 : 2 * b * q = 2 * (b * q) := Int.mul_assoc ..
      omega
  · by_cases hh : q ≤ 0
    · omega
    · have h3 : 1 * q ≤ b * q := Int.mul_le_mul_of_nonneg_right (by omega) (by omega)
      have h4 : 2 * b * q = 2 * (b * q) := Int.mul_assoc ..
      have h5 : b * 1 ≤ b * q := Int.mul_le_mul_of_nonneg_left (by omega) (by omega)
      omega
theorem ownfont_one {w : World} {A : Around} {s : Shared} {x dx dv : Addr} {o : Obj} {kvs : List (Str × Value)} {hh : Int} {kk : Tok} {tl tf : Tok} {l lf : List Nat} {f1 f2 d1 d2 : Int} {Q E : Value → Shared → Prop}
    (R : Rd (hd.heap_1 w.params) 10 A s.heap s) (hx : s.heap.get? x = some (instObj 328 dx)) (hdx : s.heap.get? dx = some (lookD dv hh kk)) (hdv : s.heap.get? dv = some o) (hdo : o.IsDictOf (PySem.strKind PySem.Challenge.rw_pf0197_01.row.prog w) kvs) (hvalf : valueAt kvs (Str.ofString "font-size") = some (.str (S lf) tf)) (hRf : Reads lf 16 1 16 1 f1 f2) (hR : Reads l f1 f2 f1 f2 d1 d2) (hf10 : -1000000000000000000000000000000 < f1) (hf11 : f1 < 1000000000000000000000000000000) (hf20 : 0 < f2) (hf21 : f2 < 1000000000000000000000000000000) (hd0 : -1000000000000000000000 < d1) (hd1 : d1 < 1000000000000000000000) (hd2 : 0 < d2) (hd3 : d2 < 1000000000000000000000) (ho : d2 = 1)
    (hret : ∀ t h' tk', s.heap.StaysIn h' → Q (.str (S (fontText d1 d2)) t) { s with heap := h', toks := tk' }) :
    wpAny (model PySem.Challenge.rw_pf0197_01.row.prog w) A (call (.ref 346) [.str (S l) tl, .ref x] []) Q E s := by
  revert R; k_fill; intro R
  refine' enter (news := []) (args := ⟨[.str (S l) tl, .ref x], []⟩) (binds := [(Str.ofString "told", .str (S l) tl), (Str.ofString "around", .ref x)]) R ?foot ?ho ?hcd ?hbind ?hloc ?h ?hcell ?hco ?hgen ?hk
  case foot => intro p hp; cases hp
  case ho => k_is
  case hcd => k_is
  case hbind => exact BindsTo.of_eq rfl
  case hloc => exact locs rfl
  case hcell => decide
  case hco => exact rfl
  case hgen => exact rfl
  case hk => exact rfl
  clear R
  intro base dp un outer p loose mean mg mb L h₁ F' N' B' X' T' hDp hUn hl hs hA
  clear hA
  (try dsimp only); (try k_fold)
  subst ho
  have e1 : fontText d1 1 = intL d1 := if_pos rfl
  k_steps
  refine Stop.out ?_
  (with_reducible rename Fr _ _ _ _ => Fz)
  rw [e1] at hret
  exact hret _ _ _ Fz.keep
theorem ownfont_two {w : World} {A : Around} {s : Shared} {x dx dv : Addr} {o : Obj} {kvs : List (Str × Value)} {hh : Int} {kk : Tok} {tl tf : Tok} {l lf : List Nat} {f1 f2 d1 d2 : Int} {Q E : Value → Shared → Prop}
    (R : Rd (hd.heap_1 w.params) 10 A s.heap s) (hx : s.heap.get? x = some (instObj 328 dx)) (hdx : s.heap.get? dx = some (lookD dv hh kk)) (hdv : s.heap.get? dv = some o) (hdo : o.IsDictOf (PySem.strKind PySem.Challenge.rw_pf0197_01.row.prog w) kvs) (hvalf : valueAt kvs (Str.ofString "font-size") = some (.str (S lf) tf)) (hRf : Reads lf 16 1 16 1 f1 f2) (hR : Reads l f1 f2 f1 f2 d1 d2) (hf10 : -1000000000000000000000000000000 < f1) (hf11 : f1 < 1000000000000000000000000000000) (hf20 : 0 < f2) (hf21 : f2 < 1000000000000000000000000000000) (hd0 : -1000000000000000000000 < d1) (hd1 : d1 < 1000000000000000000000) (hd2 : 0 < d2) (hd3 : d2 < 1000000000000000000000) (ho : ¬ d2 = 1)
    (hret : ∀ t h' tk', s.heap.StaysIn h' → Q (.str (S (fontText d1 d2)) t) { s with heap := h', toks := tk' }) :
    wpAny (model PySem.Challenge.rw_pf0197_01.row.prog w) A (call (.ref 346) [.str (S l) tl, .ref x] []) Q E s := by
  revert R; k_fill; intro R
  refine' enter (news := []) (args := ⟨[.str (S l) tl, .ref x], []⟩) (binds := [(Str.ofString "told", .str (S l) tl), (Str.ofString "around", .ref x)]) R ?foot ?ho ?hcd ?hbind ?hloc ?h ?hcell ?hco ?hgen ?hk
  case foot => intro p hp; cases hp
  case ho => k_is
  case hcd => k_is
  case hbind => exact BindsTo.of_eq rfl
  case hloc => exact locs rfl
  case hcell => decide
  case hco => exact rfl
  case hgen => exact rfl
  case hk => exact rfl
  clear R
  intro base dp un outer p loose mean mg mb L h₁ F' N' B' X' T' hDp hUn hl hs hA
  clear hA
  (try dsimp only); (try k_fold)
  have e1 : fontText d1 d2 = intL (roundedF (timesF (d1, d2) (1000000, 1))) ++ [101, 45, 54] := if_neg ho
  have b0 : -1000000000000000000000000000000 < (timesF (d1, d2) (1000000, 1)).1 ∧ (timesF (d1, d2) (1000000, 1)).1 < 1000000000000000000000000000000 ∧ 0 < (timesF (d1, d2) (1000000, 1)).2 ∧ (timesF (d1, d2) (1000000, 1)).2 < 1000000000000000000000000000000 := by
    unfold timesF
    dsimp only
    exact fr_bd (by omega) (by omega) (by omega) (by omega)
  obtain ⟨b1, b2, b3, b4⟩ := b0
  have b5 := round_bd b1 b2 b3
  obtain ⟨b5, b6⟩ := b5
  k_steps
  first | exact absurd (by assumption) ho | skip
  refine Stop.out ?_
  (with_reducible rename Fr _ _ _ _ => Fz)
  rw [e1] at hret
  exact hret _ _ _ Fz.keep
theorem ownfont_spec {w : World} {A : Around} {s : Shared} {x dx dv : Addr} {o : Obj} {kvs : List (Str × Value)} {hh : Int} {kk : Tok} {tl tf : Tok} {l lf : List Nat} {f1 f2 d1 d2 : Int} {Q E : Value → Shared → Prop}
    (R : Rd (hd.heap_1 w.params) 10 A s.heap s) (hx : s.heap.get? x = some (instObj 328 dx)) (hdx : s.heap.get? dx = some (lookD dv hh kk)) (hdv : s.heap.get? dv = some o) (hdo : o.IsDictOf (PySem.strKind PySem.Challenge.rw_pf0197_01.row.prog w) kvs) (hvalf : valueAt kvs (Str.ofString "font-size") = some (.str (S lf) tf)) (hRf : Reads lf 16 1 16 1 f1 f2) (hR : Reads l f1 f2 f1 f2 d1 d2) (hf10 : -1000000000000000000000000000000 < f1) (hf11 : f1 < 1000000000000000000000000000000) (hf20 : 0 < f2) (hf21 : f2 < 1000000000000000000000000000000) (hd0 : -1000000000000000000000 < d1) (hd1 : d1 < 1000000000000000000000) (hd2 : 0 < d2) (hd3 : d2 < 1000000000000000000000)
    (hret : ∀ t h' tk', s.heap.StaysIn h' → Q (.str (S (fontText d1 d2)) t) { s with heap := h', toks := tk' }) :
    wpAny (model PySem.Challenge.rw_pf0197_01.row.prog w) A (call (.ref 346) [.str (S l) tl, .ref x] []) Q E s := by
  by_cases ho : d2 = 1
  · exact ownfont_one R hx hdx hdv hdo hvalf hRf hR hf10 hf11 hf20 hf21 hd0 hd1 hd2 hd3 ho hret
  · exact ownfont_two R hx hdx hdv hdo hvalf hRf hR hf10 hf11 hf20 hf21 hd0 hd1 hd2 hd3 ho hret
theorem mill_one {w : World} {A : Around} {s : Shared} {a : Addr} {d1 d2 : Int} {ta ta' : Tok} {Q E : Value → Shared → Prop}
    (R : Rd (hd.heap_1 w.params) 6 A s.heap s) (ha : s.heap.get? a = some (tup2 d1 d2 ta ta')) (hd0 : -1000000000000000000000 < d1) (hd1 : d1 < 1000000000000000000000) (hd2 : 0 < d2) (hd3 : d2 < 1000000000000000000000) (ho : d2 = 1)
    (hret : ∀ h' tk', s.heap.StaysIn h' → Q (.ref a) { s with heap := h', toks := tk' }) :
    wpAny (model PySem.Challenge.rw_pf0197_01.row.prog w) A (call (.ref 478) [.ref a] []) Q E s := by
  revert R; k_fill; intro R
  refine' enter (news := []) (args := ⟨[.ref a], []⟩) (binds := [(Str.ofString "size", .ref a)]) R ?foot ?ho ?hcd ?hbind ?hloc ?h ?hcell ?hco ?hgen ?hk
  case foot => intro p hp; cases hp
  case ho => k_is
  case hcd => k_is
  case hbind => exact BindsTo.of_eq rfl
  case hloc => exact locs rfl
  case hcell => decide
  case hco => exact rfl
  case hgen => exact rfl
  case hk => exact rfl
  clear R
  intro base dp un outer p loose mean mg mb L h₁ F' N' B' X' T' hDp hUn hl hs hA
  clear hA
  (try dsimp only); (try k_fold)
  subst ho
  k_steps
  refine Stop.out ?_
  (with_reducible rename Fr _ _ _ _ => Fz)
  exact hret _ _ Fz.keep
theorem mill_two {w : World} {A : Around} {s : Shared} {a : Addr} {d1 d2 : Int} {ta ta' : Tok} {Q E : Value → Shared → Prop}
    (R : Rd (hd.heap_1 w.params) 6 A s.heap s) (ha : s.heap.get? a = some (tup2 d1 d2 ta ta')) (hd0 : -1000000000000000000000 < d1) (hd1 : d1 < 1000000000000000000000) (hd2 : 0 < d2) (hd3 : d2 < 1000000000000000000000) (ho : ¬ d2 = 1)
    (hret : ∀ r t t' h' tk', s.heap.StaysIn h' → s.heap.objs.size ≤ r → h'.get? r = some (tup2 (mill d1 d2).1 (mill d1 d2).2 t t') → Q (.ref r) { s with heap := h', toks := tk' }) :
    wpAny (model PySem.Challenge.rw_pf0197_01.row.prog w) A (call (.ref 478) [.ref a] []) Q E s := by
  revert R; k_fill; intro R
  refine' enter (news := []) (args := ⟨[.ref a], []⟩) (binds := [(Str.ofString "size", .ref a)]) R ?foot ?ho ?hcd ?hbind ?hloc ?h ?hcell ?hco ?hgen ?hk
  case foot => intro p hp; cases hp
  case ho => k_is
  case hcd => k_is
  case hbind => exact BindsTo.of_eq rfl
  case hloc => exact locs rfl
  case hcell => decide
  case hco => exact rfl
  case hgen => exact rfl
  case hk => exact rfl
  clear R
  intro base dp un outer p loose mean mg mb L h₁ F' N' B' X' T' hDp hUn hl hs hA
  clear hA
  (try dsimp only); (try k_fold)
  have e1 : mill d1 d2 = fr (Int.fdiv (2 * d1 * 1000000 + d2) (2 * d2)) 1000000 := if_neg ho
  obtain ⟨q0, q1⟩ := fdiv_bd (a := 2 * d1 * 1000000 + d2) (b := 2 * d2) (B := 10000000000000000000000000000) (by omega) (by omega) (by omega) (by omega)
  k_steps
  first | exact absurd (by assumption) ho | skip
  refine Stop.out ?_
  (with_reducible rename Fr _ _ _ _ => Fz)
  (with_reducible rename News _ _ _ _ => Nz)
  rw [e1] at hret
  exact hret _ _ _ _ _ Fz.keep (under hs (by with_reducible assumption)) (Nz.get (List.mem_cons_self ..))
end Mine
end
section --C37
set_option maxHeartbeats 1600000
namespace Mine
theorem lnC37a : True := by
  k_with_none
  k_with "a1" => (first | with_reducible assumption | ((with_reducible apply Mine.ltm); (with_reducible assumption); k_mem))
  k_with "a2" => (first | with_reducible exact Mine.lss | with_reducible exact Mine.ltp (by assumption) | with_reducible exact Mine.ltp (Mine.ltp (by assumption)) | with_reducible exact Mine.ltp (Mine.ltp (Mine.ltp (by assumption))) | ((with_reducible refine Mine.lts ?_); first | with_reducible exact Mine.lss | k_memK) | ((with_reducible refine Mine.lts (Mine.lts ?_)); first | with_reducible exact Mine.lss | k_memK) | ((with_reducible refine Mine.lts (Mine.lts (Mine.lts ?_))); k_memK))
  k_with "a3" => (first | k_cls | ((with_reducible apply Mine.ltr); (with_reducible assumption); first | k_memK | k_cls) | ((with_reducible apply Mine.ltr); (with_reducible exact Mine.ltp (by assumption)); first | k_memK | k_cls))
  k_with "a4" => (first | with_reducible exact Mine.neAll (by assumption) | with_reducible exact Mine.neNil | ((with_reducible refine Mine.neCons ?_ ?_); k_ne; k_all))
  k_with "a5" => (first | with_reducible exact Mine.subNil | with_reducible exact Mine.subSame | ((with_reducible refine Mine.subCons ?_ ?_); k_mem; k_subL) | ((with_reducible refine Mine.subApp ?_ ?_); k_subL; k_subL) | ((with_reducible refine Mine.subTail ?_); k_subL))
  k_with "a6" => (first | with_reducible assumption | ((with_reducible show @Ne Nat _ _); first | ((with_reducible refine Mine.nlt ?_); k_memK) | ((with_reducible refine Mine.ngt ?_); k_memK) | (with_reducible exact Ne.symm (by assumption)) | ((with_reducible refine Mine.nlt ?_); k_types) | ((with_reducible refine Mine.ngt ?_); k_types)) | ((with_reducible apply Mine.dq0); (with_reducible assumption); decide) | ((with_reducible apply Mine.dq1); (with_reducible assumption); decide) | ((with_reducible apply Mine.dq2); (with_reducible assumption); decide) | ((with_reducible apply Mine.dq3); (with_reducible assumption); decide) | ((with_reducible apply Mine.dq4); (with_reducible assumption); decide) | ((with_reducible first | apply Mine.il1 | apply Mine.il3); (with_reducible assumption); decide) | ((with_reducible first | apply Mine.il2 | apply Mine.il4); (with_reducible assumption); decide) | ((with_reducible first | apply Mine.iu1 | apply Mine.iu3); (with_reducible assumption); decide) | ((with_reducible first | apply Mine.iu2 | apply Mine.iu4); (with_reducible assumption); decide) | ((with_reducible first | apply Mine.nl3 | apply Mine.nl2); (with_reducible assumption); decide) | ((with_reducible first | apply Mine.nu1 | apply Mine.nu3); (with_reducible assumption); decide) | ((with_reducible first | apply Mine.nu2 | apply Mine.nu4); (with_reducible assumption); decide) | ((with_reducible show @LT.lt Nat _ _ _); first | k_memK | k_types) | decide)
  k_with "a7" => (repeat (rename ∀ _ ∈ (_ : List (Addr × Obj)), @LT.lt Nat _ _ _ => hrw; replace hrw := allLt_of hrw; dsimp only [AllLt] at hrw))
  k_with "a8" => (first | (k_whole; kc_bool) | omega +splitDisjunctions | (k_whole; k_units; omega +splitDisjunctions))
  k_with "a9" => (first | (k_whole; kc_bool) | lia | omega +splitDisjunctions)
  k_with "eval Call" => ((fail_if_success (fail_if_success k_fold)); refine foldL ?_; intro qk ek; walk1)
  k_with "eval BinOp" => ((fail_if_success (fail_if_success k_fold)); refine foldL ?_; intro qk ek; walk1)
  k_with "eval Tuple" => ((fail_if_success (fail_if_success k_fold)); refine foldL ?_; intro qk ek; walk1)
  k_with "isTrue Compare" => ((fail_if_success (fail_if_success k_fold)); refine foldL ?_; intro qk ek; walk1)
  k_with "eval Subscript" => ((fail_if_success (fail_if_success k_fold)); refine foldL ?_; intro qk ek; walk1)
  k_with "exec Assign" => ((fail_if_success (fail_if_success k_fold)); refine foldL ?_; intro qk ek; walk1)
  k_with "eval List" => ((fail_if_success (fail_if_success k_fold)); refine foldL ?_; intro qk ek; walk1)
  k_with "eval Attribute" => ((fail_if_success (fail_if_success k_fold)); refine foldL ?_; intro qk ek; walk1)
  k_with "eval UnaryOp" => ((fail_if_success (fail_if_success k_fold)); refine foldL ?_; intro qk ek; walk1)
  k_with "callWith ref" => ((fail_if_success (fail_if_success k_fold)); refine foldL ?_; intro qk ek; walk1)
  k_with "callWith" => ((fail_if_success (fail_if_success k_fold)); refine foldL ?_; intro qk ek; walk1)
  k_with "call builtin:len" => (k_here; refine r_len (by first | omega | (simp only [List.length_append, List.length_cons, List.length_nil]; omega)) ?_; intro t9 k9)
  k_with "subscriptTail Attribute Attribute str int" => (k_here; (with_reducible show wpAny _ _ (subscriptTail _ _ (Value.str (S _) _) (Value.int _ _)) _ _ _); k_dflt (refine r_item (by omega) (by omega) (by omega) ?_); intro t9 k9)
  k_with "compareOp In str str" => (k_here; refine r_in ?_)
  k_with "subscriptTail Attribute Slice str ref" => (k_here; (with_reducible show wpAny _ _ (subscriptTail _ (Expr.Slice (some _) (some _) none _) (Value.str (S _) _) (Value.ref _)) _ _ _); (with_reducible rename Fr _ _ _ _ => Fz); (with_reducible rename News _ _ _ _ => Nz); k_dflt (refine r_slice (s := ⟨_, _, _, _, _⟩) Fz Nz (by omega) (by omega) (by omega) (by omega) ?_); intro h9 t9 k9 F9 N9; (try k_sweep))
  k_with "compareOp Eq str str" => (k_here; first | refine r_eq_f (by assumption) ?_ | refine r_eq_t (by assumption) ?_ | refine r_eq ?_)
  k_with "compareOp NotEq str str" => (k_here; first | refine r_ne_t (by assumption) ?_ | refine r_ne_f (by assumption) ?_ | refine r_ne ?_)
  k_with "ite" => (first | refine if_f ?_ | refine if_t ?_)
  k_with "call ref" => (k_here; (with_reducible show wpAny _ _ (call (Value.ref 328) _ _) _ _ _); ((with_reducible rename Fr _ _ _ _ => Fz); (with_reducible rename News _ _ _ _ => Nz); (k_dflt (refine' make_look Fz Nz ?B ?X ?T ?d ?u rfl rfl ?_; (case B => assumption); (case X => assumption); (case T => assumption); (case d => (first | ((with_reducible apply dle); (with_reducible assumption); exact rfl) | omega)); (case u => (first | ((with_reducible apply ule); (with_reducible assumption); exact rfl) | omega)); k_whole)); clear Fz Nz; intro x9 dx9 h9 tk9 hh9 kk9 F9 N9 l9 l8; k_lt l9; k_lt2 l8; (try dsimp only); (try k_fold)))
  k_with "getMethod ref" => (k_here; (with_reducible show wpAny _ _ (getMethod (Value.ref _) (Str.ofString "update") _) _ _ _); (with_reducible rename News _ _ _ _ => Nz); k_dflt (refine b_updm (Nz.get (by k_mem)) (by with_reducible assumption) ?_))
  k_with "call builtin:dict.update" => (refine Stop.go ?_)
  k_with "call ref" => (k_here; (with_reducible show wpAny _ _ (call (Value.ref 194) _ _) _ _ _); first | ((with_reducible rename Fr _ _ _ _ => Fz); (with_reducible rename News _ _ _ _ => Nz); (k_dflt (refine' handed_spec (rd_of ?B Fz ?X ?T rfl rfl ?d ?u)  ?_; (case B => assumption); (case X => assumption); (case T => assumption); (case d => (first | ((with_reducible apply dle); (with_reducible assumption); exact rfl) | omega)); (case u => (first | ((with_reducible apply ule); (with_reducible assumption); exact rfl) | omega)); k_whole)); intro ra oa kva h9 tk9 st9 hl9 lo9 hr9 hd9 hp9; k_dflt ((refine back1_k Fz Nz st9 hl9 hr9 ?_; intro F9 N9 l9 m9)); clear Fz Nz st9 hl9 hr9; (try k_lt l9); (try k_lt2 m9); (try dsimp only); (try k_fold)) | refine Stop.go ?_)
  k_with "call ref" => (k_here; (with_reducible show wpAny _ _ (call (Value.ref 201) _ _) _ _ _); first | ((with_reducible rename Fr _ _ _ _ => Fz); (with_reducible rename News _ _ _ _ => Nz); (k_dflt (refine' fresh_spec (rd_of ?B Fz ?X ?T rfl rfl ?d ?u)  ?_; (case B => assumption); (case X => assumption); (case T => assumption); (case d => (first | ((with_reducible apply dle); (with_reducible assumption); exact rfl) | omega)); (case u => (first | ((with_reducible apply ule); (with_reducible assumption); exact rfl) | omega)); k_whole)); intro rb ob kvb h9 tk9 st9 hl9 lo9 hr9 hd9 hp9; k_dflt ((refine back1_k Fz Nz st9 hl9 hr9 ?_; intro F9 N9 l9 m9)); clear Fz Nz st9 hl9 hr9; (try k_lt l9); (try k_lt2 m9); (try dsimp only); (try k_fold)) | refine Stop.go ?_)
  trivial
theorem first_spec {w : World} {A : Around} {s : Shared}  {Q E : Value → Shared → Prop}
    (R : Rd (hd.heap_1 w.params) 6 A s.heap s) 
    (hret : ∀ x dx dv o kvs hh kk h' tk', s.heap.StaysIn h' → s.heap.objs.size ≤ x → s.heap.objs.size ≤ dx → s.heap.objs.size ≤ dv → @LT.lt Nat _ dv dx → @LT.lt Nat _ dx x → h'.get? x = some (instObj 328 dx) → h'.get? dx = some (lookD dv hh kk) → h'.get? dv = some o → (dv == sysModules) = false → o.IsDictOf (PySem.strKind PySem.Challenge.rw_pf0197_01.row.prog w) kvs → kvs.length ≤ 24 → AtS kvs (Str.ofString "font-size") [49, 54] → Q (.ref x) { s with heap := h', toks := tk' }) :
    wpAny (model PySem.Challenge.rw_pf0197_01.row.prog w) A (call (.ref 339) [] []) Q E s := by
  revert R; k_fill; intro R
  refine' enter (news := []) (args := ⟨[], []⟩) (binds := []) R ?foot ?ho ?hcd ?hbind ?hloc ?h ?hcell ?hco ?hgen ?hk
  case foot => intro p hp; cases hp
  case ho => k_is
  case hcd => k_is
  case hbind => exact BindsTo.of_eq rfl
  case hloc => exact locs rfl
  case hcell => decide
  case hco => exact rfl
  case hgen => exact rfl
  case hk => exact rfl
  clear R
  intro base dp un outer p loose mean mg mb L h₁ F' N' B' X' T' hDp hUn hl hs hA
  clear hA
  (try dsimp only); (try k_fold)
  k_steps
  refine Stop.out ?_
  (with_reducible rename Fr _ _ _ _ => Fz)
  (with_reducible rename News _ _ _ _ => Nz)
  (with_reducible rename PairsAre _ freshL => hpB)
  (with_reducible rename PairsAre _ handedL => hpA)
  have hdA : oa.IsDictOf (PySem.strKind PySem.Challenge.rw_pf0197_01.row.prog w) kva := by with_reducible assumption
  have hdB : ob.IsDictOf (PySem.strKind PySem.Challenge.rw_pf0197_01.row.prog w) kvb := by with_reducible assumption
  have lA := hpA.len
  have lB := hpB.len
  simp only [handedL, freshL, List.length_cons, List.length_nil] at lA lB
  refine b_update Fz Nz (UpdF.tail (by show @Ne Nat rb ra; omega) (UpdF.head (fun p hp => nomatch hp))) hdA (Nz.get (List.mem_cons_self ..)) hdB (by show @Ne Nat ra rb; omega) (by with_reducible assumption) (by omega) ?_
  intro h9 o9 F9 N9 hd9
  clear Fz Nz
  k_steps
  refine Stop.out ?_
  (with_reducible rename Fr _ _ _ _ => Fz)
  (with_reducible rename News _ _ _ _ => Nz)
  refine hret _ _ _ _ _ _ _ _ _ Fz.keep ?_ ?_ ?_ ?_ ?_ (Nz.get (List.mem_cons_self ..)) (Nz.get (.tail _ (List.mem_cons_self ..))) (Nz.get (by k_mem)) ?_ hd9 ?_ ?_
  · exact under hs (by omega)
  · exact under hs (by omega)
  · exact under hs (by omega)
  · omega
  · omega
  · with_reducible assumption
  · have := merged_length_le kva kvb; omega
  · obtain ⟨t, ht⟩ := hpA.has (x := Str.ofString "font-size") (l := [49, 54]) (by rw [← lit_16]; decide +kernel)
    exact ⟨t, by rw [valueAt_merged hpB (by unfold freshL; decide +kernel)]; exact ht⟩
theorem lnC37b : True := by
  k_with "binaryOp FloorDiv int int" => (k_here; refine floordiv_int (by first | decide | omega) ?_ (Or.inl (noPyl (by first | decide | omega) (by first | decide | omega))))
  k_with "newTuple" => (k_here; k_dflt (refine' newTuple_mine ?k1 ?k2 ?_ ?k3; (case k1 => k_asm); (case k2 => k_asm); (case k3 => first | decide | (exact Nat.le_of_ble_eq_true rfl) | (simp only [sizeLine_eq]; simp))); intro D' h' F' N' l1 l2; (try k_lt l1); (try k_lt2 l2); (try k_sweep))
  k_with "binaryOp Mult int int" => (k_here; refine mul_int ?_ (by first | exact mulOk60 (by omega) (by omega) (by omega) (by omega) | mul_fits))
  k_with "call ref" => (k_here; (with_reducible show wpAny _ _ (call (Value.ref 215) _ _) _ _ _); first | ((with_reducible rename Fr _ _ _ _ => Fz); (with_reducible rename News _ _ _ _ => Nz); (k_dflt (refine' told_spec (rd_of ?B Fz ?X ?T rfl rfl ?d ?u) ?p0 ?p1 ?p2 ?p3 ?p4 ?p5 ?p6 ?_; (case B => assumption); (case X => assumption); (case T => assumption); (case d => (first | ((with_reducible apply dle); (with_reducible assumption); exact rfl) | omega)); (case u => (first | ((with_reducible apply ule); (with_reducible assumption); exact rfl) | omega)); (case p0 => (exact Fz.keep _ _ (by with_reducible assumption))); (case p1 => (exact Fz.keep _ _ (by with_reducible assumption))); (case p2 => (exact Fz.keep _ _ (by with_reducible assumption))); (case p3 => (with_reducible assumption)); (case p4 => (with_reducible assumption)); (case p5 => (with_reducible assumption)); (case p6 => (with_reducible assumption)); k_whole)); intro td ot kt h9 tk9 st9 hl9 lo9 hr9 hd9 hp9; k_dflt ((refine back1_k Fz Nz st9 hl9 hr9 ?_; intro F9 N9 l9 m9)); clear Fz Nz st9 hl9 hr9; (try k_lt l9); (try k_lt2 m9); (try dsimp only); (try k_fold)) | refine Stop.go ?_)
  k_with "call type:dict" => (refine Stop.go ?_)
  k_with "exec For Name Name cons nil" => (k_here; (rename Fr _ _ _ _ => lF'); (with_unfolding_all refine' For_invVF lF' ?k1 ?k2 ?_; (case k1 => exact rfl); (case k2 => exact rfl); k_whole))
  k_with "pyIter ref" => (refine Stop.go ?_)
  k_with "setItem ref str" => (refine Stop.go ?_)
  k_with "subscriptTail Name Name ref str" => (k_here; (with_reducible rename News _ _ _ _ => Nz); k_dflt (refine b_item_dict (Nz.get (by k_mem)) (by with_reducible assumption) (by with_reducible assumption) ?_))
  k_with "call ref" => (k_here; (with_reducible show wpAny _ _ (call (Value.ref 346) _ _) _ _ _); first | ((with_reducible rename Fr _ _ _ _ => Fz); (with_reducible rename News _ _ _ _ => Nz); (k_dflt (refine' ownfont_spec (rd_of ?B Fz ?X ?T rfl rfl ?d ?u) ?p0 ?p1 ?p2 ?p3 ?p4 ?p5 ?p6 ?p7 ?p8 ?p9 ?p10 ?p11 ?p12 ?p13 ?p14 ?_; (case B => assumption); (case X => assumption); (case T => assumption); (case d => (first | ((with_reducible apply dle); (with_reducible assumption); exact rfl) | omega)); (case u => (first | ((with_reducible apply ule); (with_reducible assumption); exact rfl) | omega)); (case p0 => (exact Fz.keep _ _ (by with_reducible assumption))); (case p1 => (exact Fz.keep _ _ (by with_reducible assumption))); (case p2 => (exact Fz.keep _ _ (by with_reducible assumption))); (case p3 => (with_reducible assumption)); (case p4 => (with_reducible assumption)); (case p5 => (with_reducible assumption)); (case p6 => (with_reducible assumption)); (case p7 => (first | with_reducible assumption | omega)); (case p8 => (first | with_reducible assumption | omega)); (case p9 => (first | with_reducible assumption | omega)); (case p10 => (first | with_reducible assumption | omega)); (case p11 => (first | with_reducible assumption | omega)); (case p12 => (first | with_reducible assumption | omega)); (case p13 => (first | with_reducible assumption | omega)); (case p14 => (first | with_reducible assumption | omega)); k_whole)); intro t9 h9 tk9 st9; k_dflt ((refine back_k Fz Nz st9 ?_; intro F9 N9)); clear Fz Nz st9; (try dsimp only); (try k_fold)) | refine Stop.go ?_)
  trivial
theorem look_spec {w : World} {A : Around} {s : Shared} {x dx dv : Addr} {o : Obj} {kvs : List (Str × Value)} {hh : Int} {kk : Tok} {ex dex da ch : Addr} {nv tv : Value} {oe : Obj} {ke : List (Str × Value)} {h3 h4 h5 h6 : Int} {k3 k4 k5 k6 : Tok} {tf : Tok} {l lf : List Nat} {f1 f2 d1 d2 : Int} {Q E : Value → Shared → Prop}
    (R : Rd (hd.heap_1 w.params) 13 A s.heap s) (hx : s.heap.get? x = some (instObj 328 dx)) (hdx : s.heap.get? dx = some (lookD dv hh kk)) (hdv : s.heap.get? dv = some o) (hdo : o.IsDictOf (PySem.strKind PySem.Challenge.rw_pf0197_01.row.prog w) kvs) (hex : s.heap.get? ex = some (instObj 378 dex)) (hdex : s.heap.get? dex = some (elemD nv da ch tv h3 h4 h5 h6 k3 k4 k5 k6)) (hda : s.heap.get? da = some oe) (hde : oe.IsDictOf (PySem.strKind PySem.Challenge.rw_pf0197_01.row.prog w) ke) (hloe : (da == sysModules) = false) (hP : PairsAre ke (strOf (atsL l))) (hL : l.length ≤ 100) (hvalf : valueAt kvs (Str.ofString "font-size") = some (.str (S lf) tf)) (hRf : Reads lf 16 1 16 1 f1 f2) (hR : Reads l f1 f2 f1 f2 d1 d2) (hf10 : -1000000000000000000000000000000 < f1) (hf11 : f1 < 1000000000000000000000000000000) (hf20 : 0 < f2) (hf21 : f2 < 1000000000000000000000000000000) (hd0 : -1000000000000000000000 < d1) (hd1 : d1 < 1000000000000000000000) (hd2 : 0 < d2) (hd3 : d2 < 1000000000000000000000) (hlov : (dv == sysModules) = false) (hN : kvs.length ≤ 200)
    (hret : ∀ x dx dv o kvs' hh kk h' tk', s.heap.StaysIn h' → s.heap.objs.size ≤ x → s.heap.objs.size ≤ dx → s.heap.objs.size ≤ dv → @LT.lt Nat _ dv dx → @LT.lt Nat _ dx x → h'.get? x = some (instObj 328 dx) → h'.get? dx = some (lookD dv hh kk) → h'.get? dv = some o → (dv == sysModules) = false → o.IsDictOf (PySem.strKind PySem.Challenge.rw_pf0197_01.row.prog w) kvs' → kvs'.length ≤ kvs.length + 10 → AtS kvs' (Str.ofString "font-size") (fontText d1 d2) → AtS kvs' (Str.ofString "stroke-width") [50, 101, 109] → AtS kvs' (Str.ofString "stroke-dashoffset") [53, 48, 37] → Q (.ref x) { s with heap := h', toks := tk' }) :
    wpAny (model PySem.Challenge.rw_pf0197_01.row.prog w) A (call (.ref 353) [.ref ex, .ref x] []) Q E s := by
  revert R; k_fill; intro R
  refine' enter (news := []) (args := ⟨[.ref ex, .ref x], []⟩) (binds := [(Str.ofString "element", .ref ex), (Str.ofString "around", .ref x)]) R ?foot ?ho ?hcd ?hbind ?hloc ?h ?hcell ?hco ?hgen ?hk
  case foot => intro p hp; cases hp
  case ho => k_is
  case hcd => k_is
  case hbind => exact BindsTo.of_eq rfl
  case hloc => exact locs rfl
  case hcell => decide
  case hco => exact rfl
  case hgen => exact rfl
  case hk => exact rfl
  clear R
  intro base dp un outer p loose mean mg mb L h₁ F' N' B' X' T' hDp hUn hl hs hA
  clear hA
  (try dsimp only); (try k_fold)
  k_steps
  refine Stop.out ?_
  (with_reducible rename Fr _ _ _ _ => Fz)
  (with_reducible rename News _ _ _ _ => Nz)
  (with_reducible rename PairsAre _ [_, _, _] => hpT)
  have hdT : ot.IsDictOf (PySem.strKind PySem.Challenge.rw_pf0197_01.row.prog w) kt := by with_reducible assumption
  have loT : (td == sysModules) = false := by with_reducible assumption
  refine b_copy Fz Nz (Top.nolimit (by k_asm)) (Fz.keep _ _ hdv) hdo hlov (by omega) ?_
  intro v hv ov Fv Nv ltv lv lov hov
  clear Fz Nz
  k_lt ltv
  k_steps
  refine Stop.out ?_
  (with_reducible rename Fr _ _ _ _ => Fz)
  (with_reducible rename News _ _ _ _ => Nz)
  (with_reducible rename PairsAre _ freshL => hpB)
  have lB := hpB.len
  simp only [freshL, List.length_cons, List.length_nil] at lB
  refine b_update Fz Nz (UpdF.tail (by k_ne) (UpdF.head (by intro p hp; rw [List.mem_singleton.mp hp]; show @Ne Nat td v; omega))) hov (Nz.get (List.mem_cons_self ..)) (by with_reducible assumption) (by k_ne) (by with_reducible assumption) (by omega) ?_
  intro hu ou Fu Nu hdu
  clear Fz Nz
  replace Nu := ntail Nu
  have hlen0 := merged_length_le kvs kvb
  rw [lB] at hlen0
  generalize hk0 : merged kvs kvb = kv0 at hdu hlen0
  clear hk0
  k_steps
  refine Stop.out ?_
  (with_reducible rename Fr _ _ _ _ => Fz)
  (with_reducible rename News _ _ _ _ => Nz)
  refine keys_turnsR (x := Str.ofString "name") (news := [(v, ou), (td, ot)]) (fun i m nx => ∀ Gj : Prop, (∀ ow kw, nx = [(v, ow), (td, ot)] → m (Str.ofString "values") = some (.ref v) → m (Str.ofString "told") = some (.ref td) → m (Str.ofString "around") = some (.ref x) → ow.IsDictOf (PySem.strKind PySem.Challenge.rw_pf0197_01.row.prog w) kw → kw.length ≤ kvs.length + 7 + i → (1 ≤ i → AtS kw (Str.ofString "stroke-width") [50, 101, 109]) → (2 ≤ i → AtS kw (Str.ofString "stroke-dashoffset") [53, 48, 37]) → (3 ≤ i → AtS kw (Str.ofString "font-size") (fontText d1 d2)) → Gj) → Gj) rfl Fz Nz (Nz.get (by k_mem)) hdT loT (by show @Ne Nat td L; omega) (fun _ kJ => kJ ou kv0 rfl rfl rfl rfl hdu (by omega) (fun h => absurd h (by decide)) (fun h => absurd h (by decide)) (fun h => absurd h (by decide))) ?_ ?_
  · intro i k vv t m₁ nx h tk own hkv hmap hoff hJ F N
    clear Fz Nz
    refine hJ _ ?_
    clear hJ
    intro ow kw hnx e1 e2 e3 how hlw hw1 hw2 hw3
    subst hnx
    obtain ⟨y, ty, rfl, hps⟩ := hpT.at hkv
    have hvo : ∀ p ∈ (td, ot) :: own, p.1 ≠ v := by
      intro p hp
      rcases List.mem_cons.mp hp with rfl | hp
      · show @Ne Nat td v; omega
      · exact hoff v (by simp) (by show @Ne Nat v td; omega) p hp
    replace F := put3F F (thru (by decide +kernel) e1) (thru (by decide +kernel) e2) (thru (by decide +kernel) e3)
    simp only [List.cons_append, List.nil_append] at N
    rcases i with _ | _ | _ | i
    · simp at hps
      obtain ⟨rfl, rfl⟩ := hps
      obtain ⟨tt, htt⟩ := hpT.has (x := (Str.ofString "stroke-width")) (l := [50, 101, 109]) (by rfl)
      have hni : S ([50, 101, 109]) ≠ Str.ofString "inherit" := by decide +kernel
      k_steps
      refine Stop.out ?_
      (with_reducible rename Fr _ _ _ _ => Fz)
      (with_reducible rename News _ _ _ _ => Nz)
      refine b_setItem Fz Nz (UpdF.head hvo) how (by omega) ?_
      intro h3 o3 F3 N3 hd3
      clear Fz Nz
      k_steps
      refine Stop.out ?_
      (with_reducible rename Fr _ _ _ _ => Fz)
      (with_reducible rename News _ _ _ _ => Nz)
      exact ⟨_, _, _, _, [(v, o3), (td, ot)], rfl, Fz, Nz, (fun p hp => List.mem_append_left own hp), (fun p hp => List.mem_append_right [(v, o3), (td, ot)] hp), rfl, fun _ kJ => kJ o3 _ rfl rfl rfl rfl hd3 (Nat.le_trans (stored_length_le ..) (by omega)) (fun _ => AtS.put) (fun h => absurd h (by decide)) (fun h => absurd h (by decide))⟩
    · simp at hps
      obtain ⟨rfl, rfl⟩ := hps
      obtain ⟨tt, htt⟩ := hpT.has (x := (Str.ofString "stroke-dashoffset")) (l := [53, 48, 37]) (by rfl)
      have hni : S ([53, 48, 37]) ≠ Str.ofString "inherit" := by decide +kernel
      k_steps
      refine Stop.out ?_
      (with_reducible rename Fr _ _ _ _ => Fz)
      (with_reducible rename News _ _ _ _ => Nz)
      refine b_setItem Fz Nz (UpdF.head hvo) how (by omega) ?_
      intro h3 o3 F3 N3 hd3
      clear Fz Nz
      k_steps
      refine Stop.out ?_
      (with_reducible rename Fr _ _ _ _ => Fz)
      (with_reducible rename News _ _ _ _ => Nz)
      exact ⟨_, _, _, _, [(v, o3), (td, ot)], rfl, Fz, Nz, (fun p hp => List.mem_append_left own hp), (fun p hp => List.mem_append_right [(v, o3), (td, ot)] hp), rfl, fun _ kJ => kJ o3 _ rfl rfl rfl rfl hd3 (Nat.le_trans (stored_length_le ..) (by omega)) (fun _ => (hw1 (by decide)).keep (by decide +kernel)) (fun _ => AtS.put) (fun h => absurd h (by decide))⟩
    · simp at hps
      obtain ⟨rfl, rfl⟩ := hps
      obtain ⟨tt, htt⟩ := hpT.has (x := (Str.ofString "font-size")) (l := stripL l) (by rfl)
      have hni : S (stripL l) ≠ Str.ofString "inherit" := reads_inherit hR
      have hRs := reads_strip hR
      k_steps
      refine Stop.out ?_
      (with_reducible rename Fr _ _ _ _ => Fz)
      (with_reducible rename News _ _ _ _ => Nz)
      refine b_setItem Fz Nz (UpdF.head hvo) how (by omega) ?_
      intro h3 o3 F3 N3 hd3
      clear Fz Nz
      k_steps
      refine Stop.out ?_
      (with_reducible rename Fr _ _ _ _ => Fz)
      (with_reducible rename News _ _ _ _ => Nz)
      exact ⟨_, _, _, _, [(v, o3), (td, ot)], rfl, Fz, Nz, (fun p hp => List.mem_append_left own hp), (fun p hp => List.mem_append_right [(v, o3), (td, ot)] hp), rfl, fun _ kJ => kJ o3 _ rfl rfl rfl rfl hd3 (Nat.le_trans (stored_length_le ..) (by omega)) (fun _ => (hw1 (by decide)).keep (by decide +kernel)) (fun _ => (hw2 (by decide)).keep (by decide +kernel)) (fun _ => AtS.put)⟩
    · simp at hps
  · intro m₁ nx h tk hJ F N
    clear Fz Nz
    refine hJ _ ?_
    clear hJ
    intro ow kw hnx e1 e2 e3 how hlw hw1 hw2 hw3
    subst hnx
    replace F := putF F e1
    have l3 := hpT.len
    simp only [List.length_cons, List.length_nil] at l3
    rw [l3] at hlw hw1 hw2 hw3
    k_steps
    refine Stop.out ?_
    (with_reducible rename Fr _ _ _ _ => Fz)
    (with_reducible rename News _ _ _ _ => Nz)
    refine hret _ _ _ _ _ _ _ _ _ Fz.keep ?_ ?_ ?_ ?_ ?_ (Nz.get (List.mem_cons_self ..)) (Nz.get (.tail _ (List.mem_cons_self ..))) (Nz.get (by k_mem)) lov how (by omega) (hw3 (by decide)) (hw1 (by decide)) (hw2 (by decide))
    · exact under hs (by omega)
    · exact under hs (by omega)
    · exact under hs (by omega)
    · omega
    · omega
end Mine
end
section --C39
set_option maxHeartbeats 1600000
namespace Mine
theorem looklen2_spec {w : World} {A : Around} {s : Shared} {x dx dv : Addr} {o : Obj} {kvs : List (Str × Value)} {hh : Int} {kk : Tok} {nm : Str} {tn tl tf : Tok} {l lf : List Nat} {f1 f2 d1 d2 : Int} {Q E : Value → Shared → Prop}
    (R : Rd (hd.heap_1 w.params) 10 A s.heap s) (hx : s.heap.get? x = some (instObj 328 dx)) (hdx : s.heap.get? dx = some (lookD dv hh kk)) (hdv : s.heap.get? dv = some o) (hdo : o.IsDictOf (PySem.strKind PySem.Challenge.rw_pf0197_01.row.prog w) kvs) (hval : valueAt kvs nm = some (.str (S l) tl)) (hvalf : valueAt kvs (Str.ofString "font-size") = some (.str (S lf) tf)) (hR : Reads l 1 1 f1 f2 d1 d2) (hRf : Reads lf 16 1 16 1 f1 f2) (hf10 : -1000000000000000000000000000000 < f1) (hf11 : f1 < 1000000000000000000000000000000) (hf20 : 0 < f2) (hf21 : f2 < 1000000000000000000000000000000)
    (hret : ∀ r t t' h' tk', s.heap.StaysIn h' → s.heap.objs.size ≤ r → h'.get? r = some (tup2 d1 d2 t t') → Q (.ref r) { s with heap := h', toks := tk' }) :
    wpAny (model PySem.Challenge.rw_pf0197_01.row.prog w) A (call (.ref 275) [.ref x, .str nm tn] []) Q E s := by
  revert R; k_fill; intro R
  refine looklength_spec (tn := tn) (args := ⟨[.ref x, .str nm tn], []⟩) (wa := 267) (w1 := 1) (w2 := 1) (tw := ?tw) (tw' := ?tw') R ?hb hx hdx hdv hdo ?hw hval hvalf hR hRf (by decide) (by decide) (by decide) (by decide) hf10 hf11 hf20 hf21 hret
  case hb =>
    intro oc od fd osl e
    have e2 := e.symm.trans (show List.lookup 275 _ = some ⟨_, _, .func _, _⟩ by k_is)
    injection e2 with e2
    injection e2 with _ _ e2 _
    injection e2 with e2
    subst e2
    exact binds_K (R.X.keeps R.st) rfl (by k_is) rfl rfl rfl
  case hw =>
    have h := R.X.keeps R.st 267 _ (show List.lookup 267 _ = some _ by k_is)
    exact h
theorem looklen3_spec {w : World} {A : Around} {s : Shared} {x dx dv : Addr} {o : Obj} {kvs : List (Str × Value)} {hh : Int} {kk : Tok} {nm : Str} {tn tl tf : Tok} {l lf : List Nat} {w1 w2 f1 f2 d1 d2 : Int} {wa : Addr} {tw tw' : Tok} {Q E : Value → Shared → Prop}
    (R : Rd (hd.heap_1 w.params) 10 A s.heap s) (hx : s.heap.get? x = some (instObj 328 dx)) (hdx : s.heap.get? dx = some (lookD dv hh kk)) (hdv : s.heap.get? dv = some o) (hdo : o.IsDictOf (PySem.strKind PySem.Challenge.rw_pf0197_01.row.prog w) kvs) (hw : s.heap.get? wa = some (tup2 w1 w2 tw tw')) (hval : valueAt kvs nm = some (.str (S l) tl)) (hvalf : valueAt kvs (Str.ofString "font-size") = some (.str (S lf) tf)) (hR : Reads l w1 w2 f1 f2 d1 d2) (hRf : Reads lf 16 1 16 1 f1 f2) (hw10 : -1000000000000000000000000000000 < w1) (hw11 : w1 < 1000000000000000000000000000000) (hw20 : 0 < w2) (hw21 : w2 < 1000000000000000000000000000000) (hf10 : -1000000000000000000000000000000 < f1) (hf11 : f1 < 1000000000000000000000000000000) (hf20 : 0 < f2) (hf21 : f2 < 1000000000000000000000000000000)
    (hret : ∀ r t t' h' tk', s.heap.StaysIn h' → s.heap.objs.size ≤ r → h'.get? r = some (tup2 d1 d2 t t') → Q (.ref r) { s with heap := h', toks := tk' }) :
    wpAny (model PySem.Challenge.rw_pf0197_01.row.prog w) A (call (.ref 275) [.ref x, .str nm tn, .ref wa] []) Q E s := by
  revert R; k_fill; intro R
  refine looklength_spec (tn := tn) (args := ⟨[.ref x, .str nm tn, .ref wa], []⟩) R ?hb hx hdx hdv hdo hw hval hvalf hR hRf hw10 hw11 hw20 hw21 hf10 hf11 hf20 hf21 hret
  intro oc od fd osl e
  have e2 := e.symm.trans (show List.lookup 275 _ = some ⟨_, _, .func _, _⟩ by k_is)
  injection e2 with e2
  injection e2 with _ _ e2 _
  injection e2 with e2
  subst e2
  exact binds_K (R.X.keeps R.st) rfl (by k_is) rfl rfl rfl
end Mine
end
section --C38
set_option maxHeartbeats 1600000
namespace Mine
theorem lnC38a : True := by
  k_with_none
  k_with "a1" => (first | with_reducible assumption | ((with_reducible apply Mine.ltm); (with_reducible assumption); k_mem))
  k_with "a2" => (first | with_reducible exact Mine.lss | with_reducible exact Mine.ltp (by assumption) | with_reducible exact Mine.ltp (Mine.ltp (by assumption)) | with_reducible exact Mine.ltp (Mine.ltp (Mine.ltp (by assumption))) | ((with_reducible refine Mine.lts ?_); first | with_reducible exact Mine.lss | k_memK) | ((with_reducible refine Mine.lts (Mine.lts ?_)); first | with_reducible exact Mine.lss | k_memK) | ((with_reducible refine Mine.lts (Mine.lts (Mine.lts ?_))); k_memK))
  k_with "a3" => (first | k_cls | ((with_reducible apply Mine.ltr); (with_reducible assumption); first | k_memK | k_cls) | ((with_reducible apply Mine.ltr); (with_reducible exact Mine.ltp (by assumption)); first | k_memK | k_cls))
  k_with "a4" => (first | with_reducible exact Mine.neAll (by assumption) | with_reducible exact Mine.neNil | ((with_reducible refine Mine.neCons ?_ ?_); k_ne; k_all))
  k_with "a5" => (first | with_reducible exact Mine.subNil | with_reducible exact Mine.subSame | ((with_reducible refine Mine.subCons ?_ ?_); k_mem; k_subL) | ((with_reducible refine Mine.subApp ?_ ?_); k_subL; k_subL) | ((with_reducible refine Mine.subTail ?_); k_subL))
  k_with "a6" => (first | with_reducible assumption | ((with_reducible show @Ne Nat _ _); first | ((with_reducible refine Mine.nlt ?_); k_memK) | ((with_reducible refine Mine.ngt ?_); k_memK) | (with_reducible exact Ne.symm (by assumption)) | ((with_reducible refine Mine.nlt ?_); k_types) | ((with_reducible refine Mine.ngt ?_); k_types)) | ((with_reducible apply Mine.dq0); (with_reducible assumption); decide) | ((with_reducible apply Mine.dq1); (with_reducible assumption); decide) | ((with_reducible apply Mine.dq2); (with_reducible assumption); decide) | ((with_reducible apply Mine.dq3); (with_reducible assumption); decide) | ((with_reducible apply Mine.dq4); (with_reducible assumption); decide) | ((with_reducible first | apply Mine.il1 | apply Mine.il3); (with_reducible assumption); decide) | ((with_reducible first | apply Mine.il2 | apply Mine.il4); (with_reducible assumption); decide) | ((with_reducible first | apply Mine.iu1 | apply Mine.iu3); (with_reducible assumption); decide) | ((with_reducible first | apply Mine.iu2 | apply Mine.iu4); (with_reducible assumption); decide) | ((with_reducible first | apply Mine.nl3 | apply Mine.nl2); (with_reducible assumption); decide) | ((with_reducible first | apply Mine.nu1 | apply Mine.nu3); (with_reducible assumption); decide) | ((with_reducible first | apply Mine.nu2 | apply Mine.nu4); (with_reducible assumption); decide) | ((with_reducible show @LT.lt Nat _ _ _); first | k_memK | k_types) | decide)
  k_with "a7" => (repeat (rename ∀ _ ∈ (_ : List (Addr × Obj)), @LT.lt Nat _ _ _ => hrw; replace hrw := allLt_of hrw; dsimp only [AllLt] at hrw))
  k_with "a8" => (first | (k_whole; kc_bool) | omega +splitDisjunctions | (k_whole; k_units; omega +splitDisjunctions))
  k_with "a9" => (first | (k_whole; kc_bool) | lia | omega +splitDisjunctions)
  k_with "b1" => ((show _ < 1000); (try simp only [depth_under_make, depth_under_kw, depth_in1, depth_deeper]); (try dsimp only); omega)
  k_with "eval Call" => ((fail_if_success (fail_if_success k_fold)); refine foldL ?_; intro qk ek; walk1)
  k_with "eval BinOp" => ((fail_if_success (fail_if_success k_fold)); refine foldL ?_; intro qk ek; walk1)
  k_with "eval Tuple" => ((fail_if_success (fail_if_success k_fold)); refine foldL ?_; intro qk ek; walk1)
  k_with "isTrue Compare" => ((fail_if_success (fail_if_success k_fold)); refine foldL ?_; intro qk ek; walk1)
  k_with "eval Subscript" => ((fail_if_success (fail_if_success k_fold)); refine foldL ?_; intro qk ek; walk1)
  k_with "exec Assign" => ((fail_if_success (fail_if_success k_fold)); refine foldL ?_; intro qk ek; walk1)
  k_with "eval List" => ((fail_if_success (fail_if_success k_fold)); refine foldL ?_; intro qk ek; walk1)
  k_with "eval Attribute" => ((fail_if_success (fail_if_success k_fold)); refine foldL ?_; intro qk ek; walk1)
  k_with "eval UnaryOp" => ((fail_if_success (fail_if_success k_fold)); refine foldL ?_; intro qk ek; walk1)
  k_with "callWith ref" => ((fail_if_success (fail_if_success k_fold)); refine foldL ?_; intro qk ek; walk1)
  k_with "callWith" => ((fail_if_success (fail_if_success k_fold)); refine foldL ?_; intro qk ek; walk1)
  k_with "eval Constant str" => (k_here; (with_reducible show wpAny _ _ (eval (PySem.Expr.Constant (PySem.Const.str (Str.ofString _)) _ _) _) _ _ _); (refine' const_litP ?eLP9 ?_; (case eLP9 => first | with_reducible exact lit_2em | with_reducible exact lit_50 | with_reducible exact lit_empty | with_reducible exact lit_dot | with_reducible exact lit_5 | with_reducible exact lit_25 | with_reducible exact lit_125 | with_reducible exact lit_minus | with_reducible exact lit_plus | with_reducible exact lit_e1 | with_reducible exact lit_em1 | with_reducible exact lit_E2 | with_reducible exact lit_em6 | with_reducible exact lit_pct | with_reducible exact lit_sp | with_reducible exact lit_comma | with_reducible exact lit_spcomma)))
  k_with "newTuple" => (k_here; k_dflt (refine' newTuple_mine ?k1 ?k2 ?_ ?k3; (case k1 => k_asm); (case k2 => k_asm); (case k3 => first | decide | (exact Nat.le_of_ble_eq_true rfl) | (simp only [sizeLine_eq]; simp))); intro D'; (first | ((fail_if_success (have qq9 := D2)); rename Addr => D2) | ((fail_if_success (have qq9 := D1)); rename Addr => D1) | skip); intro h' F' N' l1 l2; (try k_lt l1); (try k_lt2 l2); (try k_sweep))
  k_with "newList" => (k_here; k_dflt (refine' newList_mine ?k1 ?k2 ?_ ?k3; (case k1 => k_asm); (case k2 => k_asm); (case k3 => first | decide | (exact Nat.le_of_ble_eq_true rfl) | (simp only [sizeLine_eq]; simp))); intro D' h' F' N' l1 l2; (try k_lt l1); (try k_lt2 l2); (try k_sweep))
  k_with "subscriptTail Name Constant ref int" => (k_here; (with_reducible show wpAny _ _ (subscriptTail _ _ (Value.ref _) (Value.int 0 _)) _ _ _); (with_reducible rename Fr _ _ _ _ => Fz); first | (k_dflt (refine tup_item0 Fz (by with_reducible assumption) ?_)) | ((with_reducible rename News _ _ _ _ => Nz); (k_dflt (refine tupN_item0 Nz (by k_mem) ?_))))
  k_with "subscriptTail Name Constant ref int" => (k_here; (with_reducible show wpAny _ _ (subscriptTail _ _ (Value.ref _) (Value.int 1 _)) _ _ _); (with_reducible rename Fr _ _ _ _ => Fz); first | (k_dflt (refine tup_item1 Fz (by with_reducible assumption) ?_)) | ((with_reducible rename News _ _ _ _ => Nz); (k_dflt (refine tupN_item1 Nz (by k_mem) ?_))))
  k_with "ite" => (first | refine if_f ?_ | refine if_t ?_)
  k_with "callWith ref" => (k_here; k_dflt (first | (refine' callWith_K ?k1 ?k2 ?_; (case k1 => k_asm); (case k2 => k_is); k_whole) | (refine' callWith_K0 ?k1 ?k2 ?_; (case k1 => k_in); (case k2 => k_is); k_whole)))
  k_with "assign Tuple" => (k_here; (with_reducible rename Heap.get? _ _ = some (tup3 _ _ _ _ _ _) => hu); (with_reducible show wpAny _ _ (assign _ _ (Value.ref _)) _ _ _); (with_reducible rename Fr _ _ _ _ => Fz); (with_reducible rename News _ _ _ _ => Nz); k_dflt (refine' unpackN_ Fz Nz ⟨_, Fz.keep _ _ hu, rfl, _, rfl⟩ rfl ?hn ?hs ?_; (case hn => exact rfl); (case hs => exact rfl)); clear Fz Nz; intro h9 Fz Nz)
  k_with "subscriptTail Name Constant ref int" => (k_here; (with_reducible show wpAny _ _ (subscriptTail _ _ (Value.ref _) (Value.int 0 _)) _ _ _); k_dflt (refine p_item0 (by with_reducible assumption) ?_))
  k_with "subscriptTail Name Constant ref int" => (k_here; (with_reducible show wpAny _ _ (subscriptTail _ _ (Value.ref _) (Value.int 1 _)) _ _ _); k_dflt (refine p_item1 (by with_reducible assumption) ?_))
  k_with "call ref" => ((with_reducible show wpAny _ _ (call (Value.ref 464) _ _) _ _ _); refine Stop.go ?_)
  k_with "call ref" => ((with_reducible show wpAny _ _ (call (Value.ref 339) _ _) _ _ _); refine Stop.go ?_)
  k_with "call ref" => ((with_reducible show wpAny _ _ (call (Value.ref 353) _ _) _ _ _); refine Stop.go ?_)
  k_with "call ref" => ((with_reducible show wpAny _ _ (call (Value.ref 478) _ _) _ _ _); refine Stop.go ?_)
  k_with "call ref" => ((with_reducible show wpAny _ _ (call (Value.ref 266) _ _) _ _ _); refine Stop.go ?_)
  k_with "call ref" => ((with_reducible show wpAny _ _ (call (Value.ref 275) _ _) _ _ _); refine Stop.go ?_)
  k_with "call ref" => ((with_reducible show wpAny _ _ (call (Value.ref 95) _ _) _ _ _); refine Stop.go ?_)
  k_with "compareOp NotEq ref ref" => (refine Stop.go ?_)
  k_with "pyIter ref" => (refine Stop.go ?_)
  k_with "exec For Name Call cons nil" => (k_here; (rename Fr _ _ _ _ => lF'); (with_unfolding_all refine' For_invVF lF' ?kf1 ?kf2 ?_; (case kf1 => exact rfl); (case kf2 => exact rfl); k_whole))
  k_with "eval Dict" => (k_here; k_dflt (refine' kdn_eval (knd := PySem.strKind _ _) ?F ?N ?b ?a ?l ?e ?n ?_; (case F => k_asm); (case N => k_asm); (case b => exact Top.nolimit (by k_asm)); (case a => rfl); (case l => rfl); (case e => exact List.cons_ne_nil _ _); (case n => exact Nat.le_of_ble_eq_true rfl)); intro d' h' o' F' N' l1 lo' hd'; (try k_lt l1); (try k_sweep))
  trivial
theorem reads_16 : Reads [49, 54] 16 1 16 1 16 1 := ⟨[49, 54], Str.ofString "", 16, 1, by decide +kernel, by decide +kernel, by decide, by decide, by decide +kernel, fun e => absurd e (by decide +kernel)⟩
theorem letters_spec {w : World} {A : Around} {s : Shared} {x : Addr} {a b : Int} {ta tb : Tok} {g : Heap} {Q E : Value → Shared → Prop}
    (R : Rd (hd.heap_1 w.params) 16 A g s) (hfoot : ∀ p ∈ [(x, srcO a b ta tb)], s.heap.get? p.1 = some p.2 ∧ g.get? p.1 = none) (ha0 : 0 ≤ a) (hb0 : 0 ≤ b) (hb1 : b < 2147483647)
    (hret : ∀ c d tc td h' tk', h'.get? x = some (srcO c d tc td) → 0 ≤ c → 0 ≤ d → d < 2147483647 → g.StaysIn h' → Q (.bool true) {s with heap := h', toks := tk'}) :
    wpAny (model PySem.Challenge.rw_pf0197_01.row.prog w) A (call (.ref 485) [.ref x] []) Q E s := by
  revert R; k_fill; intro R
  refine' enter (news := [(x, srcO a b ta tb)]) (args := ⟨[.ref x], []⟩) (binds := [(Str.ofString "source", .ref x)]) R ?foot ?ho ?hcd ?hbind ?hloc ?h ?hcell ?hco ?hgen ?hk
  case foot => exact hfoot
  case ho => k_is
  case hcd => k_is
  case hbind => exact BindsTo.of_eq rfl
  case hloc => exact locs rfl
  case hcell => decide
  case hco => exact rfl
  case hgen => exact rfl
  case hk => exact rfl
  clear R
  intro base dp un outer p loose mean mg mb L h₁ F' N' B' X' T' hDp hUn hl hs hA
  clear hA
  (try dsimp only); (try k_fold)
  have hxL : @LT.lt Nat _ x L := by first | omega | exact hl (x, _) (List.mem_cons_self ..)
  k_steps
  refine Stop.out ?_
  (with_reducible rename Fr _ _ _ _ => Fz)
  (with_reducible rename News _ _ _ _ => Nz)
  refine first_spec (rd_of B' Fz X' T' rfl rfl (by (first | ((with_reducible apply dle); (with_reducible assumption); exact rfl) | omega)) (by (first | ((with_reducible apply ule); (with_reducible assumption); exact rfl) | omega))) ?_
  intro lk ldx ldv lo lkv lhh lkk h9 tk9 st9 z1 z2 z3 z4 z5 g1 g2 g3 hlo hld hlen hfs
  (refine back1_k Fz Nz st9 z1 g1 ?_; intro F1 N1 w1 v1)
  (refine back1_k Fz Nz st9 z2 g2 ?_; intro _ N2 w2 v2)
  (refine back1_k Fz Nz st9 z3 g3 ?_; intro _ N3 w3 v3)
  have N4 := consN N1 (List.mem_cons_self ..) (consN N2 (List.mem_cons_self ..) N3)
  clear N1 N2 N3 Fz Nz st9 z1 z2 z3 g1 g2 g3 w1 w2 w3
  k_lt2 v1; k_lt2 v2; k_lt2 v3
  k_steps
  refine Stop.out ?_
  (with_reducible rename Fr _ _ _ _ => Fz)
  (with_reducible rename News _ _ _ _ => Nz)
  (with_reducible rename IsRange _ _ _ _ _ _ _ _ => hr)
  replace Nz := consN Nz (.tail _ (.tail _ (List.mem_cons_self ..))) (consN Nz (.tail _ (.tail _ (.tail _ (List.mem_cons_self ..)))) (consN Nz (.tail _ (.tail _ (.tail _ (.tail _ (List.mem_cons_self ..))))) (consN Nz (.tail _ (List.mem_cons_self ..)) (ntail (ntail (ntail (ntail (ntail Nz))))))))
  refine range_turnsR (x := Str.ofString "turn") (n := 2) (fun i m nx => ∀ Gj : Prop, (∀ lk ldx ldv lo lkv lhh lkk du tu tu' d1 d2 a b ta tb, nx = [(lk, instObj 328 ldx), (ldx, lookD ldv lhh lkk), (ldv, lo), (du, tup2 d1 d2 tu tu'), (x, srcO a b ta tb)] → m (Str.ofString "look") = some (.ref lk) → m (Str.ofString "due") = some (.ref du) → m (Str.ofString "source") = some (.ref x) → lo.IsDictOf (PySem.strKind PySem.Challenge.rw_pf0197_01.row.prog w) lkv → (ldv == sysModules) = false → lkv.length ≤ 24 + 10 * i → (∃ lf, AtS lkv (Str.ofString "font-size") lf ∧ Reads lf 16 1 16 1 d1 d2) → (i ≤ 1 → -300000000000000 ≤ d1 ∧ d1 ≤ 300000000000000) → 0 < d2 → d2 ≤ 1000000 → (i = 0 → d1 = 16 ∧ d2 = 1) → 0 ≤ a → 0 ≤ b → b < 2147483647 → @LT.lt Nat _ L lk → @LT.lt Nat _ L ldx → @LT.lt Nat _ L ldv → @LT.lt Nat _ L du → Gj) → Gj) rfl Fz Nz hr (by decide) (by decide) (fun _ kJ => kJ lk ldx ldv lo lkv lhh lkk D2 _ _ 16 1 a b ta tb rfl rfl rfl rfl hld hlo (by omega) ⟨_, hfs, reads_16⟩ (fun _ => ⟨by decide, by decide⟩) (by decide) (by decide) (fun _ => ⟨rfl, rfl⟩) ha0 hb0 hb1 v1 v2 v3 (by with_reducible assumption)) ?_ ?_
  · clear v1 v2 v3 hld hlo hlen hfs hr Fz Nz
    intro i v m₁ nx h tk I oI hi hIn hxI hLI hJq F N
    refine hJq _ ?_
    clear hJq
    rintro lk ldx ldv lo lkv lhh lkk du tu tu' d1 d2 a2 b2 ta2 tb2 rfl e1 e2 e3 hod hlo hlen ⟨lf, hfs, hRf⟩ hd1 hd20 hd21 hdi ha2 hb2 hb2' q1 q2 q3 q4
    obtain ⟨hd10, hd11⟩ := hd1 (by omega)
    have n1 : @Ne Nat lk I := hxI (lk, _) (List.mem_cons_self ..)
    have n2 : @Ne Nat ldx I := hxI (ldx, _) (.tail _ (List.mem_cons_self ..))
    have n3 : @Ne Nat ldv I := hxI (ldv, _) (.tail _ (.tail _ (List.mem_cons_self ..)))
    have n4 : @Ne Nat du I := hxI (du, _) (.tail _ (.tail _ (.tail _ (List.mem_cons_self ..))))
    have hLI2 : @LT.lt Nat _ L I := hLI
    have n5 : @LT.lt Nat _ x I := Nat.lt_trans hxL hLI
    clear hLI
    clear hxI hIn
    replace F := put3F F (thru (by decide +kernel) e1) (thru (by decide +kernel) e2) (thru (by decide +kernel) e3)
    simp only [List.cons_append, List.nil_append] at N
    obtain ⟨tf, hvf⟩ := hfs
    clear e1 e2 e3
    refine cutK 2 (fun Ki => ∀ s' m lk2 ldx2 ldv2 lo2 kv2 hh2 kk2 r8 u9 u8 p q a b ta tb, Same s s' → Fr g L s'.heap m → News g L s'.heap [(lk2, instObj 328 ldx2), (ldx2, lookD ldv2 hh2 kk2), (ldv2, lo2), (r8, tup2 p q u9 u8), (x, srcO a b ta tb), (I, oI)] → m (Str.ofString "look") = some (.ref lk2) → m (Str.ofString "told") = some (.ref r8) → m (Str.ofString "source") = some (.ref x) → lo2.IsDictOf (PySem.strKind PySem.Challenge.rw_pf0197_01.row.prog w) kv2 → (ldv2 == sysModules) = false → kv2.length ≤ 24 + 10 * (i + 1) → AtS kv2 (Str.ofString "font-size") (fontText p q) → AtS kv2 (Str.ofString "stroke-width") [50, 101, 109] → AtS kv2 (Str.ofString "stroke-dashoffset") [53, 48, 37] → -3000000000000000000 ≤ p → p ≤ 3000000000000000000 → 0 < q → q ≤ 10000000000 → (i = 0 → -100000000 ≤ p ∧ p ≤ 100000000 ∧ q ≤ 100000) → 0 ≤ a → 0 ≤ b → b < 2147483647 → @LT.lt Nat _ I lk2 → @LT.lt Nat _ I ldx2 → @LT.lt Nat _ I ldv2 → @LT.lt Nat _ I r8 → Ki s') ?_ ?_
    · intro Ic1 hIc1
      dsimp only [List.take]
      k_steps
      refine Stop.out ?_
      (with_reducible rename Fr _ _ _ _ => Fz)
      (with_reducible rename News _ _ _ _ => Nz)
      refine lawlength_spec (rd_hide B' Fz Nz (sub1 (o := srcO a2 b2 ta2 tb2) (by k_mem)) X' T' rfl rfl (by (first | ((with_reducible apply dle); (with_reducible assumption); exact rfl) | omega)) (by (first | ((with_reducible apply ule); (with_reducible assumption); exact rfl) | omega))) (hid1 (Nz.get (by k_mem)) (by k_ne)) (hid1 (Nz.get (by k_mem)) (by k_ne)) (foot1 Nz (by k_mem)) ha2 hb2 hb2' (by omega) (by omega) (by omega) (by omega) (by omega) (by omega) (by omega) (by omega) ?_
      intro l9 p9 q9 t9 u9 u8 r9 r8 a9 b9 ta9 tb9 h9 tk9 g1 g2 hn9 ha9 hb9 hb9' st9 hN9 s1 s2' ne9
      (refine back2U_k Fz Nz hn9 (by k_upd) st9 s1 s2' ne9 g1 g2 ?_; intro F9 N9 L1 L2 M1 M2)
      clear Fz Nz st9 hn9 s1 s2' g1 g2
      (try k_lt M1); (try k_lt M2)
      (try dsimp only); (try k_fold)
      obtain ⟨hR, hp0, hp1, hp2, hp3, hl9⟩ := len_reads (w1 := d1) (w2 := d2) (f1 := d1) (f2 := d2) 300000000000000 100000000 hN9 hd20 hd20 hd10 hd11 hd10 hd11 (by decide) (by omega) (by omega) (by decide) (by decide) (by decide)
      have hsm : i = 0 → -100000000 ≤ p9 ∧ p9 ≤ 100000000 ∧ q9 ≤ 100000 := fun e => by
        obtain ⟨rfl, rfl⟩ := hdi e
        obtain ⟨_, z1, z2, _, z3, _⟩ := len_reads (w1 := 16) (w2 := 1) (f1 := 16) (f2 := 1) 10000 1000 hN9 (by decide) (by decide) (by decide) (by decide) (by decide) (by decide) (by decide) (by decide) (by decide) (by decide) (by decide) (by decide)
        omega
      clear hN9
      k_steps
      refine Stop.out ?_
      (with_reducible rename Fr _ _ _ _ => Fz)
      (with_reducible rename News _ _ _ _ => Nz)
      (with_reducible rename Obj.IsDictOf _ _ (strPairs _) => hdz)
      refine look_spec (rd_of B' Fz X' T' rfl rfl (by (first | ((with_reducible apply dle); (with_reducible assumption); exact rfl) | omega)) (by (first | ((with_reducible apply ule); (with_reducible assumption); exact rfl) | omega))) (l := l9) (lf := lf) (f1 := d1) (f2 := d2) (d1 := p9) (d2 := q9) (Nz.get (by k_mem)) (Nz.get (by k_mem)) (Nz.get (by k_mem)) hod (Nz.get (.tail _ (List.mem_cons_self ..))) (Nz.get (.tail _ (.tail _ (List.mem_cons_self ..)))) (Nz.get (.tail _ (.tail _ (.tail _ (List.mem_cons_self ..))))) hdz (by with_reducible assumption) (.cons (.cons (.cons .nil))) (by omega) hvf hRf hR (by omega) (by omega) (by omega) (by omega) (by omega) (by omega) (by omega) (by omega) hlo (by omega) ?_
      intro lk2 ldx2 ldv2 lo2 kv2 hh2 kk2 h7 tk7 st7 z1 z2 z3 z4 z5 g1 g2 g3 hlo2 hod2 hlen2 hfs2 hsw2 hsd2
      (refine back1_k Fz Nz st7 z1 g1 ?_; intro F1 N1 w1 v1)
      (refine back1_k Fz Nz st7 z2 g2 ?_; intro _ N2 w2 v2)
      (refine back1_k Fz Nz st7 z3 g3 ?_; intro _ N3 w3 v3)
      have y1 : @LT.lt Nat _ I lk2 := w1 (I, oI) (by k_mem)
      have y2 : @LT.lt Nat _ I ldx2 := w2 (I, oI) (by k_mem)
      have y3 : @LT.lt Nat _ I ldv2 := w3 (I, oI) (by k_mem)
      have N4 := consN N1 (List.mem_cons_self ..) (consN N2 (List.mem_cons_self ..) (consN N3 (List.mem_cons_self ..) (subN N3 (l' := [(r8, tup2 p9 q9 u9 u8), (x, srcO a9 b9 ta9 tb9), (I, oI)]) (by k_subL))))
      clear N1 N2 N3 Fz Nz st7 z1 z2 z3 z4 z5 g1 g2 g3 w1 w2 w3 v1 v2 v3 hdz
      k_steps
      (with_reducible rename Fr _ _ _ _ => Fz)
      (with_reducible rename News _ _ _ _ => Nz)
      refine Stop.out ⟨rfl, hIc1 _ _ lk2 ldx2 ldv2 lo2 kv2 hh2 kk2 r8 u9 u8 p9 q9 a9 b9 ta9 tb9 Same.mk Fz Nz rfl rfl rfl hod2 hlo2 (by omega) hfs2 hsw2 hsd2 (by omega) (by omega) hp2 (by omega) hsm ha9 hb9 hb9' y1 y2 y3 (by omega)⟩
    · clear hvf hRf F N n1 n2 n3 n4 hod hlo hlen
      rintro s2 m lk2 ldx2 ldv2 lo2 kv2 hh2 kk2 r8 u9 u8 p q a3 b3 ta3 tb3 hS2 F2 N2 e1 e2 e3 hod hlo hlen hfs ⟨tsw, hsw⟩ ⟨tsd, hsd⟩ hp0 hp1 hq0 hq1 hsm ha3 hb3 hb3' y1 y2 y3 y4
      dsimp only [List.drop]
      replace F2 := put3F F2 e1 e2 e3
      obtain ⟨hRF, m0, m1, m2, m3⟩ := reads_font 3000000000000000000 hp0 hp1 hq0 (by omega) (by decide)
      have hJ : i + 1 ≤ 1 → -300000000000000 ≤ (mill p q).1 ∧ (mill p q).1 ≤ 300000000000000 := fun e => by
        obtain ⟨z0, z1, z2⟩ := hsm (by omega)
        have := (reads_font 100000000 (d1 := p) (d2 := q) (by omega) (by omega) hq0 (by omega) (by decide)).2
        omega
      obtain ⟨c1, hc1⟩ : ∃ c, c = (mill p q).1 := ⟨_, rfl⟩
      obtain ⟨c2, hc2⟩ : ∃ c, c = (mill p q).2 := ⟨_, rfl⟩
      rw [← hc1, ← hc2] at hRF
      rw [← hc1] at m0 m1
      rw [← hc2] at m2 m3
      rw [← hc1] at hJ
      obtain ⟨tfs, hvs⟩ := hfs
      clear e1 e2 e3
      refine cutK 1 (fun Ki => ∀ s' m du tu tu', Same s s' → Fr g L s'.heap m → News g L s'.heap [(lk2, instObj 328 ldx2), (ldx2, lookD ldv2 hh2 kk2), (ldv2, lo2), (du, tup2 c1 c2 tu tu'), (x, srcO a3 b3 ta3 tb3), (I, oI)] → m (Str.ofString "look") = some (.ref lk2) → m (Str.ofString "due") = some (.ref du) → m (Str.ofString "source") = some (.ref x) → @LT.lt Nat _ I du → Ki s') ?_ ?_
      · intro Ic2 hIc2
        dsimp only [List.take]
        k_steps
        refine Stop.out ?_
        (with_reducible rename Fr _ _ _ _ => Fz)
        (with_reducible rename News _ _ _ _ => Nz)
        by_cases ho : q = 1
        · have em : mill p q = (p, q) := if_pos ho
          rw [em] at hc1 hc2
          refine mill_one (rd_of B' Fz X' T' rfl rfl (by (first | ((with_reducible apply dle); (with_reducible assumption); exact rfl) | omega)) (by (first | ((with_reducible apply ule); (with_reducible assumption); exact rfl) | omega))) (Nz.get (by k_mem)) (by omega) (by omega) hq0 (by omega) ho ?_
          intro h7 tk7 st7
          (refine back_k Fz Nz st7 ?_; intro F9 N9)
          clear Fz Nz st7
          dsimp only at hc1 hc2
          subst hc1; subst hc2
          k_steps
          (with_reducible rename Fr _ _ _ _ => Fz)
          (with_reducible rename News _ _ _ _ => Nz)
          exact Stop.out ⟨rfl, hIc2 _ _ r8 u9 u8 hS2.on Fz Nz rfl rfl rfl y4⟩
        · refine mill_two (rd_of B' Fz X' T' rfl rfl (by (first | ((with_reducible apply dle); (with_reducible assumption); exact rfl) | omega)) (by (first | ((with_reducible apply ule); (with_reducible assumption); exact rfl) | omega))) (Nz.get (by k_mem)) (by omega) (by omega) hq0 (by omega) ho ?_
          rw [← hc1, ← hc2]
          intro du tu tu' h7 tk7 st7 hl7 hg7
          (refine back1_k Fz Nz st7 hl7 hg7 ?_; intro F9 N9 w1 v1)
          have y5 : @LT.lt Nat _ I du := w1 (I, oI) (by k_mem)
          clear Fz Nz st7 hl7 hg7 w1 v1
          k_steps
          (with_reducible rename Fr _ _ _ _ => Fz)
          (with_reducible rename News _ _ _ _ => Nz)
          exact Stop.out ⟨rfl, hIc2 _ _ du tu tu' hS2.on Fz (subN Nz (by k_subL)) rfl rfl rfl y5⟩
      clear F2 N2 y4 hS2 hc1 hc2 hp0 hp1 hq0 hq1 hsm
      rintro s3 m du tu tu' hS3 F2 N2 e1 e2 e3 y4
      dsimp only [List.drop]
      replace F2 := put3F F2 e1 e2 e3
      clear e1 e2 e3
      k_steps
      refine Stop.out ?_
      (with_reducible rename Fr _ _ _ _ => Fz)
      (with_reducible rename News _ _ _ _ => Nz)
      refine font_spec (rd_of B' Fz X' T' rfl rfl (by (first | ((with_reducible apply dle); (with_reducible assumption); exact rfl) | omega)) (by (first | ((with_reducible apply ule); (with_reducible assumption); exact rfl) | omega))) (Nz.get (by k_mem)) (Nz.get (by k_mem)) (Nz.get (by k_mem)) hod hvs hRF ?_
      intro fr1 ft1 ft2 h7 tk7 st7 hl7 hg7
      (refine back1_k Fz Nz st7 hl7 hg7 ?_; intro F9 N9 w1 v1)
      clear Fz Nz st7 hl7 hg7 
      k_lt w1; k_lt2 v1
      k_steps
      refine Stop.out ?_
      (with_reducible rename Fr _ _ _ _ => Fz)
      (with_reducible rename News _ _ _ _ => Nz)
      refine r_ne_tup2 (Nz.get (by k_mem)) (Nz.get (by k_mem)) (by show un + 3 < 9000; omega) ?_
      k_steps
      refine Stop.out ?_
      (with_reducible rename Fr _ _ _ _ => Fz)
      (with_reducible rename News _ _ _ _ => Nz)
      refine looklen2_spec (rd_of B' Fz X' T' rfl rfl (by (first | ((with_reducible apply dle); (with_reducible assumption); exact rfl) | omega)) (by (first | ((with_reducible apply ule); (with_reducible assumption); exact rfl) | omega))) (Nz.get (by k_mem)) (Nz.get (by k_mem)) (Nz.get (by k_mem)) hod hsw hvs reads_2em hRF (by omega) (by omega) (by omega) (by omega) ?_
      intro r1 t1 t1' h1x tk1 st1 hl1 hg1
      (refine back1_k Fz Nz st1 hl1 hg1 ?_; intro F9 N9 w1 v1)
      clear Fz Nz st1 hl1 hg1
      k_lt w1; k_lt2 v1
      k_steps
      refine Stop.out ?_
      (with_reducible rename Fr _ _ _ _ => Fz)
      (with_reducible rename News _ _ _ _ => Nz)
      refine times_spec (rd_of B' Fz X' T' rfl rfl (by (first | ((with_reducible apply dle); (with_reducible assumption); exact rfl) | omega)) (by (first | ((with_reducible apply ule); (with_reducible assumption); exact rfl) | omega))) (Nz.get (by k_mem)) (Nz.get (by k_mem)) (by decide) (by decide) (by omega) (by omega) (by decide) (by decide) (by omega) (by omega) ?_
      intro r2 t2 t2' h2x tk2 st2 hl2 hg2
      (refine back1_k Fz Nz st2 hl2 hg2 ?_; intro F9 N9 w2 v2)
      clear Fz Nz st2 hl2 hg2
      k_lt w2; k_lt2 v2
      k_steps
      refine Stop.out ?_
      (with_reducible rename Fr _ _ _ _ => Fz)
      (with_reducible rename News _ _ _ _ => Nz)
      refine r_ne_tup2 (Nz.get (by k_mem)) (Nz.get (by k_mem)) (by show un + 3 < 9000; omega) ?_
      k_steps
      refine Stop.out ?_
      (with_reducible rename Fr _ _ _ _ => Fz)
      (with_reducible rename News _ _ _ _ => Nz)
      refine looklen3_spec (rd_of B' Fz X' T' rfl rfl (by (first | ((with_reducible apply dle); (with_reducible assumption); exact rfl) | omega)) (by (first | ((with_reducible apply ule); (with_reducible assumption); exact rfl) | omega))) (Nz.get (by k_mem)) (Nz.get (by k_mem)) (Nz.get (by k_mem)) hod (Nz.get (by k_mem)) hsd hvs reads_50 hRF (by decide) (by decide) (by decide) (by decide) (by omega) (by omega) (by omega) (by omega) ?_
      intro r3 t3 t3' h3x tk3 st3 hl3 hg3
      (refine back1_k Fz Nz st3 hl3 hg3 ?_; intro F9 N9 w3 v3)
      clear Fz Nz st3 hl3 hg3
      k_lt w3; k_lt2 v3
      k_steps
      refine Stop.out ?_
      (with_reducible rename Fr _ _ _ _ => Fz)
      (with_reducible rename News _ _ _ _ => Nz)
      refine r_ne_tup2 (Nz.get (by k_mem)) (Nz.get (by k_mem)) (by show un + 3 < 9000; omega) ?_
      k_steps
      refine Stop.out ?_
      (with_reducible rename Fr _ _ _ _ => Fz)
      (with_reducible rename News _ _ _ _ => Nz)
      refine ⟨rfl, _, _, _, [(lk2, instObj 328 ldx2), (ldx2, lookD ldv2 hh2 kk2), (ldv2, lo2), (du, tup2 c1 c2 tu tu'), (x, srcO a3 b3 ta3 tb3)], _, hS3.eq, Fz, Nz, by k_mem, ?_, ?_, (fun _ kJ => kJ lk2 ldx2 ldv2 lo2 kv2 hh2 kk2 du tu tu' c1 c2 a3 b3 ta3 tb3 rfl rfl rfl rfl hod hlo hlen ⟨_, ⟨_, hvs⟩, hRF⟩ hJ m2 m3 (fun e => nomatch e) ha3 hb3 hb3' (by omega) (by omega) (by omega) (by omega))⟩
      · k_subL
      · k_all
  · intro m₁ nx h tk hJq F N
    refine hJq _ ?_
    clear hJq
    rintro lk ldx ldv lo lkv lhh lkk du tu tu' d1 d2 a2 b2 ta2 tb2 rfl e1 e2 e3 hod hlo hlen hfs hd1 hd20 hd21 hdi ha2 hb2 hb2' q1 q2 q3 q4
    clear Fz Nz
    k_steps
    refine Stop.out ?_
    (with_reducible rename Fr _ _ _ _ => Fz)
    (with_reducible rename News _ _ _ _ => Nz)
    exact hret a2 b2 ta2 tb2 _ _ (Nz.get (by k_mem)) ha2 hb2 hb2' Fz.keep
end Mine
end
section --C40
set_option maxHeartbeats 1600000
namespace Mine
theorem lnC40a : True := by
  k_with_none
  k_with "a1" => (first | with_reducible assumption | ((with_reducible apply Mine.ltm); (with_reducible assumption); k_mem))
  k_with "a2" => (first | with_reducible exact Mine.lss | with_reducible exact Mine.ltp (by assumption) | with_reducible exact Mine.ltp (Mine.ltp (by assumption)) | with_reducible exact Mine.ltp (Mine.ltp (Mine.ltp (by assumption))) | ((with_reducible refine Mine.lts ?_); first | with_reducible exact Mine.lss | k_memK) | ((with_reducible refine Mine.lts (Mine.lts ?_)); first | with_reducible exact Mine.lss | k_memK) | ((with_reducible refine Mine.lts (Mine.lts (Mine.lts ?_))); k_memK))
  k_with "a3" => (first | k_cls | ((with_reducible apply Mine.ltr); (with_reducible assumption); first | k_memK | k_cls) | ((with_reducible apply Mine.ltr); (with_reducible exact Mine.ltp (by assumption)); first | k_memK | k_cls))
  k_with "a4" => (first | with_reducible exact Mine.neAll (by assumption) | with_reducible exact Mine.neNil | ((with_reducible refine Mine.neCons ?_ ?_); k_ne; k_all))
  k_with "a5" => (first | with_reducible exact Mine.subNil | with_reducible exact Mine.subSame | ((with_reducible refine Mine.subCons ?_ ?_); k_mem; k_subL) | ((with_reducible refine Mine.subApp ?_ ?_); k_subL; k_subL) | ((with_reducible refine Mine.subTail ?_); k_subL))
  k_with "a6" => (first | with_reducible assumption | ((with_reducible show @Ne Nat _ _); first | ((with_reducible refine Mine.nlt ?_); k_memK) | ((with_reducible refine Mine.ngt ?_); k_memK) | (with_reducible exact Ne.symm (by assumption)) | ((with_reducible refine Mine.nlt ?_); k_types) | ((with_reducible refine Mine.ngt ?_); k_types)) | ((with_reducible apply Mine.dq0); (with_reducible assumption); decide) | ((with_reducible apply Mine.dq1); (with_reducible assumption); decide) | ((with_reducible apply Mine.dq2); (with_reducible assumption); decide) | ((with_reducible apply Mine.dq3); (with_reducible assumption); decide) | ((with_reducible apply Mine.dq4); (with_reducible assumption); decide) | ((with_reducible first | apply Mine.il1 | apply Mine.il3); (with_reducible assumption); decide) | ((with_reducible first | apply Mine.il2 | apply Mine.il4); (with_reducible assumption); decide) | ((with_reducible first | apply Mine.iu1 | apply Mine.iu3); (with_reducible assumption); decide) | ((with_reducible first | apply Mine.iu2 | apply Mine.iu4); (with_reducible assumption); decide) | ((with_reducible first | apply Mine.nl3 | apply Mine.nl2); (with_reducible assumption); decide) | ((with_reducible first | apply Mine.nu1 | apply Mine.nu3); (with_reducible assumption); decide) | ((with_reducible first | apply Mine.nu2 | apply Mine.nu4); (with_reducible assumption); decide) | ((with_reducible show @LT.lt Nat _ _ _); first | k_memK | k_types) | decide)
  k_with "a7" => (repeat (rename ∀ _ ∈ (_ : List (Addr × Obj)), @LT.lt Nat _ _ _ => hrw; replace hrw := allLt_of hrw; dsimp only [AllLt] at hrw))
  k_with "a8" => (first | (k_whole; kc_bool) | omega +splitDisjunctions | (k_whole; k_units; omega +splitDisjunctions))
  k_with "a9" => (first | (k_whole; kc_bool) | lia | omega +splitDisjunctions)
  k_with "eval Call" => ((fail_if_success (fail_if_success k_fold)); refine foldL ?_; intro qk ek; walk1)
  k_with "eval BinOp" => ((fail_if_success (fail_if_success k_fold)); refine foldL ?_; intro qk ek; walk1)
  k_with "eval Tuple" => ((fail_if_success (fail_if_success k_fold)); refine foldL ?_; intro qk ek; walk1)
  k_with "isTrue Compare" => ((fail_if_success (fail_if_success k_fold)); refine foldL ?_; intro qk ek; walk1)
  k_with "eval Subscript" => ((fail_if_success (fail_if_success k_fold)); refine foldL ?_; intro qk ek; walk1)
  k_with "exec Assign" => ((fail_if_success (fail_if_success k_fold)); refine foldL ?_; intro qk ek; walk1)
  k_with "eval List" => ((fail_if_success (fail_if_success k_fold)); refine foldL ?_; intro qk ek; walk1)
  k_with "eval Attribute" => ((fail_if_success (fail_if_success k_fold)); refine foldL ?_; intro qk ek; walk1)
  k_with "eval UnaryOp" => ((fail_if_success (fail_if_success k_fold)); refine foldL ?_; intro qk ek; walk1)
  k_with "callWith ref" => ((fail_if_success (fail_if_success k_fold)); refine foldL ?_; intro qk ek; walk1)
  k_with "callWith" => ((fail_if_success (fail_if_success k_fold)); refine foldL ?_; intro qk ek; walk1)
  k_with "exec While" => (k_here; refine Stop.go ?_)
  k_with "binaryOp FloorDiv int int" => (k_here; refine floordiv_int (by first | decide | omega) ?_ (Or.inl (noPyl (by first | decide | omega) (by first | decide | omega))))
  k_with "binaryOp Mod int int" => (k_here; refine mod_int' (by first | decide | omega) ?_)
  k_with "newList" => (k_here; k_dflt (refine' newList_mine ?k1 ?k2 ?_ ?k3; (case k1 => k_asm); (case k2 => k_asm); (case k3 => first | decide | (exact Nat.le_of_ble_eq_true rfl) | (simp only [sizeLine_eq]; simp))); intro D' h' F' N' l1 l2; (try k_lt l1); (try k_lt2 l2); (try k_sweep))
  k_with "call builtin:max" => (k_here; (with_reducible show wpAny _ _ (call (Value.builtin _) [Value.int _ _, Value.int _ _]) _ _ _); (with_reducible rename Fr _ _ _ _ => Fz); (with_reducible rename News _ _ _ _ => Nz); (k_dflt (refine r_max rfl Fz Nz ?_)); clear Fz Nz; intro v9 h9 tk9 Fz Nz)
  k_with "call builtin:len" => (k_here; (with_reducible rename Fr _ _ _ _ => Fz); (with_reducible rename Heap.IsList _ _ _ => hq); refine list_len (hq.at fun o e => Fz.keep _ _ e) (by omega) ?_; intro t9 k9)
  k_with "subscriptTail Name Name ref int" => (refine Stop.go ?_)
  trivial
theorem pool_big (n : Int) {p : Prop} [Decidable p] : 0 ≤ max n (-1 - n) * (if p then 1 else 0) := by
  split
  · rw [Int.mul_one]; omega
  · rw [Int.mul_zero]; decide
theorem pool_mix (n : Int) : 0 ≤ n.fmod 2147483647 ∧ n.fmod 2147483647 < 2147483647 := ⟨Int.fmod_nonneg_of_pos _ (by decide), Int.fmod_lt_of_pos _ (by decide)⟩
theorem list_item0 {prog : Program} {w : World} {A : Around} {E : Value → Shared → Prop} {s : Shared} {D : Addr} {v0 : Value} {vr : List Value} {u : Tok} {value slice : Expr} {Q : Value → Shared → Prop} (hl : s.heap.IsList D (v0 :: vr).toArray) (hz : (v0 :: vr).length < 100) (h : Q v0 s)
    (hs : subscripted slice false (.ref D) (.int 0 u) = operate [.ref D, .int 0 u] (getItem (.ref D) (.int 0 u)) := by with_unfolding_all rfl) :
    wpAny (model prog w) A (subscriptTail value slice (.ref D) (.int 0 u)) Q E s :=
  tail_any hl.typeIs slot_list_getitem.lookup (wpAny_getItem_list hl (by decide) (by simp) (x := v0) (by simp) h) hs
theorem pool_spec {w : World} {A : Around} {s : Shared} {x : Addr} {vs : List Value} {t : Tok} {Q E : Value → Shared → Prop}
    (R : Rd (hd.heap_1 w.params) 3 A s.heap s) (hls : s.heap.IsList x vs.toArray) (hv : ∀ v ∈ vs, ∃ n t, v = .int n t) (hz : vs.length < 100)
    (hret : ∀ r a b ta tb h' tk', s.heap.StaysIn h' → s.heap.objs.size ≤ r → h'.get? r = some (srcO a b ta tb) → 0 ≤ a → 0 ≤ b → b < 2147483647 → Q (.ref r) { s with heap := h', toks := tk' }) :
    wpAny (model PySem.Challenge.rw_pf0197_01.row.prog w) A (call (.ref 436) [.ref x, .int 0 t] []) Q E s := by
  revert R; k_fill; intro R
  refine' enter (news := []) (args := ⟨[.ref x, .int 0 t], []⟩) (binds := [(Str.ofString "script", .ref x), (Str.ofString "k", .int 0 t)]) R ?foot ?ho ?hcd ?hbind ?hloc ?h ?hcell ?hco ?hgen ?hk
  case foot => intro p hp; cases hp
  case ho => k_is
  case hcd => k_is
  case hbind => exact BindsTo.of_eq rfl
  case hloc => exact locs rfl
  case hcell => decide
  case hco => exact rfl
  case hgen => exact rfl
  case hk => exact rfl
  clear R
  intro base dp un outer p loose mean mg mb L h₁ F' N' B' X' T' hDp hUn hl hs hA
  clear hA
  (try dsimp only); (try k_fold)
  rcases vs with _ | ⟨v0, vr⟩
  · k_steps
    (with_reducible rename Fr _ _ _ _ => Fz)
    (with_reducible rename News _ _ _ _ => Nz)
    exact hret _ _ _ _ _ _ _ Fz.keep (under hs (by with_reducible assumption)) (Nz.get (List.mem_cons_self ..)) (pool_big _) (pool_mix _).1 (pool_mix _).2
  · obtain ⟨n0, t0, rfl⟩ := hv v0 (.head _)
    clear hv
    k_steps
    · refine Stop.out ?_
      (with_reducible rename Fr _ _ _ _ => Fz)
      (with_reducible rename Heap.IsList _ _ _ => hls)
      refine list_item0 (hls.at fun o e => Fz.keep _ _ e) hz ?_
      k_steps
      (with_reducible rename Fr _ _ _ _ => Fz)
      (with_reducible rename News _ _ _ _ => Nz)
      exact hret _ _ _ _ _ _ _ Fz.keep (under hs (by with_reducible assumption)) (Nz.get (List.mem_cons_self ..)) (pool_big _) (pool_mix _).1 (pool_mix _).2
    · rename ¬ _ => hn
      exact absurd (by simp) hn
end Mine
end
section --C41
set_option maxHeartbeats 1600000
namespace Mine
theorem lnC41a : True := by
  k_with_none
  k_with "a1" => (first | with_reducible assumption | ((with_reducible apply Mine.ltm); (with_reducible assumption); k_mem))
  k_with "a2" => (first | with_reducible exact Mine.lss | with_reducible exact Mine.ltp (by assumption) | with_reducible exact Mine.ltp (Mine.ltp (by assumption)) | with_reducible exact Mine.ltp (Mine.ltp (Mine.ltp (by assumption))) | ((with_reducible refine Mine.lts ?_); first | with_reducible exact Mine.lss | k_memK) | ((with_reducible refine Mine.lts (Mine.lts ?_)); first | with_reducible exact Mine.lss | k_memK) | ((with_reducible refine Mine.lts (Mine.lts (Mine.lts ?_))); k_memK))
  k_with "a3" => (first | k_cls | ((with_reducible apply Mine.ltr); (with_reducible assumption); first | k_memK | k_cls) | ((with_reducible apply Mine.ltr); (with_reducible exact Mine.ltp (by assumption)); first | k_memK | k_cls))
  k_with "a4" => (first | with_reducible exact Mine.neAll (by assumption) | with_reducible exact Mine.neNil | ((with_reducible refine Mine.neCons ?_ ?_); k_ne; k_all))
  k_with "a5" => (first | with_reducible exact Mine.subNil | with_reducible exact Mine.subSame | ((with_reducible refine Mine.subCons ?_ ?_); k_mem; k_subL) | ((with_reducible refine Mine.subApp ?_ ?_); k_subL; k_subL) | ((with_reducible refine Mine.subTail ?_); k_subL))
  k_with "a6" => (first | with_reducible assumption | ((with_reducible show @Ne Nat _ _); first | ((with_reducible refine Mine.nlt ?_); k_memK) | ((with_reducible refine Mine.ngt ?_); k_memK) | (with_reducible exact Ne.symm (by assumption)) | ((with_reducible refine Mine.nlt ?_); k_types) | ((with_reducible refine Mine.ngt ?_); k_types)) | ((with_reducible apply Mine.dq0); (with_reducible assumption); decide) | ((with_reducible apply Mine.dq1); (with_reducible assumption); decide) | ((with_reducible apply Mine.dq2); (with_reducible assumption); decide) | ((with_reducible apply Mine.dq3); (with_reducible assumption); decide) | ((with_reducible apply Mine.dq4); (with_reducible assumption); decide) | ((with_reducible first | apply Mine.il1 | apply Mine.il3); (with_reducible assumption); decide) | ((with_reducible first | apply Mine.il2 | apply Mine.il4); (with_reducible assumption); decide) | ((with_reducible first | apply Mine.iu1 | apply Mine.iu3); (with_reducible assumption); decide) | ((with_reducible first | apply Mine.iu2 | apply Mine.iu4); (with_reducible assumption); decide) | ((with_reducible first | apply Mine.nl3 | apply Mine.nl2); (with_reducible assumption); decide) | ((with_reducible first | apply Mine.nu1 | apply Mine.nu3); (with_reducible assumption); decide) | ((with_reducible first | apply Mine.nu2 | apply Mine.nu4); (with_reducible assumption); decide) | ((with_reducible show @LT.lt Nat _ _ _); first | k_memK | k_types) | decide)
  k_with "a7" => (repeat (rename ∀ _ ∈ (_ : List (Addr × Obj)), @LT.lt Nat _ _ _ => hrw; replace hrw := allLt_of hrw; dsimp only [AllLt] at hrw))
  k_with "a8" => (first | (k_whole; kc_bool) | omega +splitDisjunctions | (k_whole; k_units; omega +splitDisjunctions))
  k_with "a9" => (first | (k_whole; kc_bool) | lia | omega +splitDisjunctions)
  k_with "b1" => ((show _ < 1000); (try simp only [depth_under_make, depth_under_kw, depth_in1, depth_deeper]); (try dsimp only); omega)
  k_with "eval Call" => ((fail_if_success (fail_if_success k_fold)); refine foldL ?_; intro qk ek; walk1)
  k_with "eval BinOp" => ((fail_if_success (fail_if_success k_fold)); refine foldL ?_; intro qk ek; walk1)
  k_with "eval Tuple" => ((fail_if_success (fail_if_success k_fold)); refine foldL ?_; intro qk ek; walk1)
  k_with "isTrue Compare" => ((fail_if_success (fail_if_success k_fold)); refine foldL ?_; intro qk ek; walk1)
  k_with "eval Subscript" => ((fail_if_success (fail_if_success k_fold)); refine foldL ?_; intro qk ek; walk1)
  k_with "exec Assign" => ((fail_if_success (fail_if_success k_fold)); refine foldL ?_; intro qk ek; walk1)
  k_with "eval List" => ((fail_if_success (fail_if_success k_fold)); refine foldL ?_; intro qk ek; walk1)
  k_with "eval Attribute" => ((fail_if_success (fail_if_success k_fold)); refine foldL ?_; intro qk ek; walk1)
  k_with "eval UnaryOp" => ((fail_if_success (fail_if_success k_fold)); refine foldL ?_; intro qk ek; walk1)
  k_with "callWith ref" => ((fail_if_success (fail_if_success k_fold)); refine foldL ?_; intro qk ek; walk1)
  k_with "callWith" => ((fail_if_success (fail_if_success k_fold)); refine foldL ?_; intro qk ek; walk1)
  k_with "eval Constant str" => (k_here; (with_reducible show wpAny _ _ (eval (PySem.Expr.Constant (PySem.Const.str (Str.ofString _)) _ _) _) _ _ _); (refine' const_litP ?eLP9 ?_; (case eLP9 => first | with_reducible exact lit_1pc | with_reducible exact lit_mm | with_reducible exact lit_px | with_reducible exact lit_1_2 | with_reducible exact lit_1q | with_reducible exact lit_em | with_reducible exact lit_1e | with_reducible exact lit_a | with_reducible exact lit_12 | with_reducible exact lit_m1 | with_reducible exact lit_1pp | with_reducible exact lit_0x1 | with_reducible exact lit_1e301 | with_reducible exact lit_2em | with_reducible exact lit_50 | with_reducible exact lit_empty | with_reducible exact lit_pct)))
  k_with "newTuple" => (k_here; k_dflt (refine' newTuple_mine ?k1 ?k2 ?_ ?k3; (case k1 => k_asm); (case k2 => k_asm); (case k3 => first | decide | (exact Nat.le_of_ble_eq_true rfl) | (simp only [sizeLine_eq]; simp))); intro D' h' F' N' l1 l2; (try k_lt l1); (try k_lt2 l2); (try k_sweep))
  k_with "newList" => (k_here; k_dflt (refine' newList_mine ?k1 ?k2 ?_ ?k3; (case k1 => k_asm); (case k2 => k_asm); (case k3 => first | decide | (exact Nat.le_of_ble_eq_true rfl) | (simp only [sizeLine_eq]; simp))); intro D' h' F' N' l1 l2; (try k_lt l1); (try k_lt2 l2); (try k_sweep))
  k_with "subscriptTail Name Constant ref int" => (k_here; (with_reducible show wpAny _ _ (subscriptTail _ _ (Value.ref _) (Value.int 0 _)) _ _ _); (with_reducible rename Fr _ _ _ _ => Fz); first | (k_dflt (refine tup_item0 Fz (by with_reducible assumption) ?_)) | ((with_reducible rename News _ _ _ _ => Nz); (k_dflt (refine tupN_item0 Nz (by k_mem) ?_))))
  k_with "subscriptTail Name Constant ref int" => (k_here; (with_reducible show wpAny _ _ (subscriptTail _ _ (Value.ref _) (Value.int 1 _)) _ _ _); (with_reducible rename Fr _ _ _ _ => Fz); first | (k_dflt (refine tup_item1 Fz (by with_reducible assumption) ?_)) | ((with_reducible rename News _ _ _ _ => Nz); (k_dflt (refine tupN_item1 Nz (by k_mem) ?_))))
  k_with "ite" => (first | refine if_f ?_ | refine if_t ?_)
  k_with "callWith ref" => (k_here; k_dflt (first | (refine' callWith_K ?k1 ?k2 ?_; (case k1 => k_asm); (case k2 => k_is); k_whole) | (refine' callWith_K0 ?k1 ?k2 ?_; (case k1 => k_in); (case k2 => k_is); k_whole)))
  k_with "assign Tuple" => (k_here; (with_reducible rename Heap.get? _ _ = some (tup3 _ _ _ _ _ _) => hu); (with_reducible show wpAny _ _ (assign _ _ (Value.ref _)) _ _ _); (with_reducible rename Fr _ _ _ _ => Fz); (with_reducible rename News _ _ _ _ => Nz); k_dflt (refine' unpackN_ Fz Nz ⟨_, Fz.keep _ _ hu, rfl, _, rfl⟩ rfl ?hn ?hs ?_; (case hn => exact rfl); (case hs => exact rfl)); clear Fz Nz; intro h9 Fz Nz)
  k_with "subscriptTail Name Constant ref int" => (k_here; (with_reducible show wpAny _ _ (subscriptTail _ _ (Value.ref _) (Value.int 0 _)) _ _ _); k_dflt (refine p_item0 (by with_reducible assumption) ?_))
  k_with "subscriptTail Name Constant ref int" => (k_here; (with_reducible show wpAny _ _ (subscriptTail _ _ (Value.ref _) (Value.int 1 _)) _ _ _); k_dflt (refine p_item1 (by with_reducible assumption) ?_))
  k_with "call ref" => ((with_reducible show wpAny _ _ (call (Value.ref 464) _ _) _ _ _); refine Stop.go ?_)
  k_with "call ref" => ((with_reducible show wpAny _ _ (call (Value.ref 231) _ _) _ _ _); refine Stop.go ?_)
  k_with "call ref" => ((with_reducible show wpAny _ _ (call (Value.ref 88) _ _) _ _ _); refine Stop.go ?_)
  k_with "call ref" => ((with_reducible show wpAny _ _ (call (Value.ref 436) _ _) _ _ _); refine Stop.go ?_)
  k_with "call ref" => ((with_reducible show wpAny _ _ (call (Value.ref 450) _ _) _ _ _); refine Stop.go ?_)
  k_with "call ref" => ((with_reducible show wpAny _ _ (call (Value.ref 471) _ _) _ _ _); refine Stop.go ?_)
  k_with "call ref" => ((with_reducible show wpAny _ _ (call (Value.ref 485) _ _) _ _ _); refine Stop.go ?_)
  k_with "call ref" => ((with_reducible show wpAny _ _ (call (Value.ref 490) _ _) _ _ _); refine Stop.go ?_)
  k_with "call ref" => ((with_reducible show wpAny _ _ (call (Value.ref 497) _ _) _ _ _); refine Stop.go ?_)
  k_with "call ref" => ((with_reducible show wpAny _ _ (call (Value.ref 504) _ _) _ _ _); refine Stop.go ?_)
  k_with "call ref" => (k_here; (with_reducible show wpAny _ _ (call (Value.ref 443) _ _) _ _ _); first | ((with_reducible rename Fr _ _ _ _ => Fz); (with_reducible rename News _ _ _ _ => Nz); (k_dflt (refine' take_spec (rd_hide ?B Fz Nz (sub1 ?M) ?X ?T rfl rfl ?d ?u) (foot1 Nz ?M2) ?p0 ?p1 ?p2 ?p3 ?p4 ?_; (case B => assumption); (case X => assumption); (case T => assumption); (case d => (first | ((with_reducible apply dle); (with_reducible assumption); exact rfl) | omega)); (case u => (first | ((with_reducible apply ule); (with_reducible assumption); exact rfl) | omega)); (case M => k_mem); (case M2 => k_mem); (case p0 => first | with_reducible assumption | omega); (case p1 => first | with_reducible assumption | omega); (case p2 => first | with_reducible assumption | omega); (case p3 => first | with_reducible assumption | omega); (case p4 => first | with_reducible assumption | omega); k_whole)); intro v9; (first | ((fail_if_success (have qq9 := n30)); rename Int => n30) | ((fail_if_success (have qq9 := n4)); rename Int => n4) | ((fail_if_success (have qq9 := n20)); rename Int => n20) | skip); intro tv9 a9 b9 ta9 tb9 h9 tk9 hv0 hv1 ha0 hb0 hb1 st9 hn9; k_dflt ((refine backU_k Fz Nz hn9 (by first | k_upd | ((repeat (refine Upd.tail (by k_ne) ?_)); exact Upd.head (by with_reducible assumption))) st9 ?_; intro F9 N9)); clear Fz Nz st9 hn9; (try dsimp only); (try k_fold)) | refine Stop.go ?_)
  k_with "call ref" => (k_here; (with_reducible show wpAny _ _ (call (Value.ref 81) _ _) _ _ _); first | ((with_reducible rename Fr _ _ _ _ => Fz); (with_reducible rename News _ _ _ _ => Nz); (k_dflt (refine' fraction_spec (rd_of ?B Fz ?X ?T rfl rfl ?d ?u) ?p0 ?p1 ?_; (case B => assumption); (case X => assumption); (case T => assumption); (case d => (first | ((with_reducible apply dle); (with_reducible assumption); exact rfl) | omega)); (case u => (first | ((with_reducible apply ule); (with_reducible assumption); exact rfl) | omega)); (case p0 => (first | with_reducible assumption | omega)); (case p1 => (first | with_reducible assumption | omega)); k_whole)); intro r9 t9 u9 h9 tk9 st9 hl9 hr9; k_dflt ((refine back1_k Fz Nz st9 hl9 hr9 ?_; intro F9 N9 l9 m9)); clear Fz Nz st9 hl9 hr9; (try k_lt l9); (try k_lt2 m9); (try dsimp only); (try k_fold)) | refine Stop.go ?_)
  k_with "compareOp NotEq ref ref" => (refine Stop.go ?_)
  k_with "pyIter ref" => (refine Stop.go ?_)
  k_with "eval Lambda" => (refine Stop.go ?_)
  k_with "exec For Name Call cons nil" => (k_here; (rename Fr _ _ _ _ => lF'); (with_unfolding_all refine' For_invVF lF' ?kf1 ?kf2 ?_; (case kf1 => exact rfl); (case kf2 => exact rfl); k_whole))
  trivial
theorem codeHd_keep {g g' : Heap} {c P : Addr} (h : CodeHd g c P) (k : ∀ o, g.get? c = some o → g'.get? c = some o) : CodeHd g' c P := by
  obtain ⟨o, vs, file, tf, flags, tg, inF, text, tt, e, r⟩ := h
  exact ⟨o, vs, file, tf, flags, tg, inF, text, tt, k _ e, r⟩
theorem name_law {g h : Heap} {L D a : Addr} {p q : Addr × Obj} {l c : Obj} {r : List (Addr × Obj)} (_ : News g L h (p :: q :: (D, l) :: (a, c) :: r)) : ∃ D' c', D' = D ∧ c' = c := ⟨_, _, rfl, rfl⟩
theorem name_src {g h : Heap} {L x : Addr} {l : List (Addr × Obj)} {a b : Int} {ta tb : Tok} (_ : News g L h l) (_ : (x, srcO a b ta tb) ∈ l) : ∃ a' b' ta' tb', a' = a ∧ b' = b ∧ ta' = ta ∧ tb' = tb := ⟨_, _, _, _, rfl, rfl, rfl, rfl⟩
theorem law_spec {w : World} {A : Around} {s : Shared} {sc : Addr} {vs : List Value} {g : Heap} {Q E : Value → Shared → Prop}
    (R : RdX (hd.heap_1 w.params) 20 A g s) (hfoot : ∀ p ∈ [(499, tabObj #[]), (506, tabObj #[])], s.heap.get? p.1 = some p.2 ∧ g.get? p.1 = none) (hC1 : CodeHd g 503 499) (hC2 : CodeHd g 510 506) (hfr : A.frames = some []) (hls : g.IsList sc vs.toArray) (hv : ∀ v ∈ vs, ∃ n t, v = .int n t) (hz : vs.length < 100)
    (hret : ∀ h' tk', (∃ ps, h'.get? 499 = some (tabObj ps)) → (∃ ps, h'.get? 506 = some (tabObj ps)) → g.StaysIn h' → Q (.bool true) { s with heap := h', toks := tk' }) :
    wpAny (model PySem.Challenge.rw_pf0197_01.row.prog w) A (call (.ref 511) [.ref sc] []) Q E s := by
  revert R; k_fill; intro R
  have hsz := R.sz
  refine' enterCX (news := [(499, tabObj #[]), (506, tabObj #[])]) (args := ⟨[.ref sc], []⟩) (binds := [(Str.ofString "script", .ref sc)]) R ?foot ?ho ?hcd ?hbind ?hkind ?hnd ?h ?hco ?hgen ?hk
  case foot => exact hfoot
  case ho => k_is
  case hcd => k_is
  case hbind => exact BindsTo.of_eq rfl
  case hkind => exact rfl
  case hnd => decide +kernel
  case hco => exact rfl
  case hgen => exact rfl
  case hk => exact rfl
  clear R
  intro base dp un outer p loose mean mg mb L h₁ tk0 cells F' N' Y' B' XB TB X' T' hDp hUn hl hs hA
  k_cells Y'
  (try k_lt hl)
  (try simp only [List.cons_append, List.nil_append] at N')
  (try dsimp only); (try k_fold)
  rename Obj => ocW
  rename Obj => ocS
  refine cutK 2 (fun Ki => ∀ s' m x cW cS a b ta tb, Same s s' → Fr g L s'.heap m → News g L s'.heap [ (L + 1 + 1, cW), (L + 1, cS), (x, srcO a b ta tb), (499, tabObj #[]), (506, tabObj #[])] → cS.data = .cell (some (.ref x)) → (∃ c, cW.data = .cell c) → 0 ≤ a → 0 ≤ b → b < 2147483647 → @LT.lt Nat _ (L + 1 + 1) x → Ki s') ?_ ?_
  · intro Ic1 hIc1
    dsimp only [List.take]
    k_steps
    refine Stop.out ?_
    (with_reducible rename Fr _ _ _ _ => Fz)
    (with_reducible rename News _ _ _ _ => Nz)
    refine length2_spec' (rd_of B' Fz X' T' rfl rfl (by (first | ((with_reducible apply dle); (with_reducible assumption); exact rfl) | omega)) (by (first | ((with_reducible apply ule); (with_reducible assumption); exact rfl) | omega))) reads_1pc (Nz.get (by k_mem)) (by decide) (by decide) (by decide) (by decide) ?_
    intro r1 t1 t1' h1x tk1 st1 hl1 hg1
    (refine back1_k Fz Nz st1 hl1 hg1 ?_; intro F9 N9 w1 v1)
    clear Fz Nz st1 hl1 hg1
    k_lt w1; k_lt2 v1
    k_steps
    refine Stop.out ?_
    (with_reducible rename Fr _ _ _ _ => Fz)
    (with_reducible rename News _ _ _ _ => Nz)
    refine length2_spec' (rd_of B' Fz X' T' rfl rfl (by (first | ((with_reducible apply dle); (with_reducible assumption); exact rfl) | omega)) (by (first | ((with_reducible apply ule); (with_reducible assumption); exact rfl) | omega))) reads_mm (Nz.get (by k_mem)) (by decide) (by decide) (by decide) (by decide) ?_
    intro r2 t2 t2' h2x tk2 st2 hl2 hg2
    (refine back1_k Fz Nz st2 hl2 hg2 ?_; intro F9 N9 w2 v2)
    clear Fz Nz st2 hl2 hg2
    k_lt w2; k_lt2 v2
    k_steps
    refine Stop.out ?_
    (with_reducible rename Fr _ _ _ _ => Fz)
    (with_reducible rename News _ _ _ _ => Nz)
    refine length2_spec' (rd_of B' Fz X' T' rfl rfl (by (first | ((with_reducible apply dle); (with_reducible assumption); exact rfl) | omega)) (by (first | ((with_reducible apply ule); (with_reducible assumption); exact rfl) | omega))) reads_half (Nz.get (by k_mem)) (by decide) (by decide) (by decide) (by decide) ?_
    intro r3 t3 t3' h3x tk3 st3 hl3 hg3
    (refine back1_k Fz Nz st3 hl3 hg3 ?_; intro F9 N9 w3 v3)
    clear Fz Nz st3 hl3 hg3
    k_lt w3; k_lt2 v3
    k_steps
    refine Stop.out ?_
    (with_reducible rename Fr _ _ _ _ => Fz)
    (with_reducible rename News _ _ _ _ => Nz)
    refine length_spec' (rd_of B' Fz X' T' rfl rfl (by (first | ((with_reducible apply dle); (with_reducible assumption); exact rfl) | omega)) (by (first | ((with_reducible apply ule); (with_reducible assumption); exact rfl) | omega))) reads_2em5 (Nz.get (by k_mem)) (Nz.get (by k_mem)) (by decide) (by decide) (by decide) (by decide) (by decide) (by decide) (by decide) (by decide) ?_
    intro r4 t4 t4' h4x tk4 st4 hl4 hg4
    (refine back1_k Fz Nz st4 hl4 hg4 ?_; intro F9 N9 w4 v4)
    clear Fz Nz st4 hl4 hg4
    k_lt w4; k_lt2 v4
    k_steps
    refine Stop.out ?_
    (with_reducible rename Fr _ _ _ _ => Fz)
    (with_reducible rename News _ _ _ _ => Nz)
    refine plus_spec (rd_of B' Fz X' T' rfl rfl (by (first | ((with_reducible apply dle); (with_reducible assumption); exact rfl) | omega)) (by (first | ((with_reducible apply ule); (with_reducible assumption); exact rfl) | omega))) (Nz.get (by k_mem)) (Nz.get (by k_mem)) (by decide) (by decide) (by decide) (by decide) (by decide) (by decide) (by decide) (by decide) ?_
    rw [plus_17]
    intro r5 t5 t5' h5x tk5 st5 hl5 hg5
    (refine back1_k Fz Nz st5 hl5 hg5 ?_; intro F9 N9 w5 v5)
    clear Fz Nz st5 hl5 hg5
    k_lt w5; k_lt2 v5
    k_steps
    refine Stop.out ?_
    (with_reducible rename Fr _ _ _ _ => Fz)
    (with_reducible rename News _ _ _ _ => Nz)
    (try dsimp only at Nz)
    have na4 := (Nz _ (.tail _ (.tail _ (.tail _ (.tail _ (List.mem_cons_self ..)))))).1
    have nb4 := (Nz _ (List.mem_cons_self ..)).1
    (try dsimp only)
    refine r_ne_list3 ⟨_, na4, rfl, _, rfl⟩ ⟨_, nb4, rfl, _, rfl⟩ (Nz.get (by k_mem)) (Nz.get (by k_mem)) (Nz.get (by k_mem)) (Nz.get (by k_mem)) (Nz.get (by k_mem)) (Nz.get (by k_mem)) (by show un + 3 < 9000; omega) ?_
    clear na4 nb4
    k_steps
    refine Stop.out ?_
    (with_reducible rename Fr _ _ _ _ => Fz)
    (with_reducible rename News _ _ _ _ => Nz)
    refine pool_spec (rd_of B' Fz X' T' rfl rfl (by (first | ((with_reducible apply dle); (with_reducible assumption); exact rfl) | omega)) (by (first | ((with_reducible apply ule); (with_reducible assumption); exact rfl) | omega))) (hls.at fun o e => Fz.keep _ _ e) hv hz ?_
    intro x a b ta tb h6x tk6 st6 hl6 hg6 ha hb hb'
    (refine back1_k Fz Nz st6 hl6 hg6 ?_; intro F9 N9 w6 v6)
    clear Fz Nz st6 hl6 hg6
    k_lt w6; k_lt2 v6
    k_steps
    (with_reducible rename Fr _ _ _ _ => Fz)
    (with_reducible rename News _ _ _ _ => Nz)
    have Nq := ntail (ntail (ntail (ntail (ntail (ntail (ntail (ntail (ntail (ntail (ntail (ntail (ntail (ntail (ntail (ntail Nz)))))))))))))))
    exact Stop.out ⟨rfl, hIc1 _ _ x _ _ a b ta tb Same.mk Fz (consN Nq (List.mem_cons_self ..) (consN Nq (.tail _ (List.mem_cons_self ..)) (consN Nz (List.mem_cons_self ..) (ntail (ntail Nq))))) (by with_reducible assumption) ⟨_, by with_reducible assumption⟩ ha hb hb' (by omega)⟩
  clear F' N' hls hv hz
  rintro s2 m x cW cS a b ta tb hS2 F2 N2 hcS ⟨c0, hcW⟩ ha hb hb' hLx
  dsimp only [List.drop]
  refine cutK 1 (fun Ki => ∀ s' m a b ta tb, Same s s' → Fr g L s'.heap m → News g L s'.heap [ (L + 1 + 1, cW), (L + 1, cS), (x, srcO a b ta tb), (499, tabObj #[]), (506, tabObj #[])] → 0 ≤ a → 0 ≤ b → b < 2147483647 → Ki s') ?_ ?_
  · intro Ic2 hIc2
    dsimp only [List.take]
    k_steps
    refine Stop.out ?_
    (with_reducible rename Fr _ _ _ _ => Fz)
    (with_reducible rename News _ _ _ _ => Nz)
    (with_reducible rename IsRange _ _ _ _ _ _ _ _ => hr)
    refine range_turns (x := Str.ofString "turn") (n := 6) (fun i m nx => ∀ Gj : Prop, (∀ a b ta tb, nx = [ (L + 1 + 1, cW), (L + 1, cS), (x, srcO a b ta tb), (499, tabObj #[]), (506, tabObj #[])] → 0 ≤ a → 0 ≤ b → b < 2147483647 → Gj) → Gj) rfl Fz Nz hr (by decide) (by decide) (fun _ kJ => kJ a b ta tb rfl ha hb hb') ?_ ?_
    · intro i v m₁ nx h tk own hi hmap hoff hJ F N
      refine hJ _ ?_
      clear hJ
      intro a2 b2 ta2 tb2 hnx ha2 hb2 hb2'
      subst hnx
      clear Fz Nz hr hmap
      have hxo : ∀ p ∈ (499, tabObj #[]) :: (506, tabObj #[]) :: own, p.1 ≠ x := by
        intro p hp
        rcases List.mem_cons.mp hp with rfl | hp
        · show @Ne Nat 499 x; omega
        · rcases List.mem_cons.mp hp with rfl | hp
          · show @Ne Nat 506 x; omega
          · exact hoff.ne (by simp) p hp
      simp only [List.cons_append, List.nil_append] at N
      k_steps
      refine Stop.out ?_
      (with_reducible rename Fr _ _ _ _ => Fz)
      (with_reducible rename News _ _ _ _ => Nz)
      rename _ < (30 : Int) => h30
      rename _ < (4 : Int) => h4
      rename _ < (20 : Int) => h20
      have z30 : 0 ≤ n30 := by with_reducible assumption
      have z4 : 0 ≤ n4 := by with_reducible assumption
      have z20 : 0 ≤ n20 := by with_reducible assumption
      have g1 := fr_le (x := 1 + n30) (y := 1 + n4) (X := 31) (by omega) (by omega) (by omega)
      have g2 := fr_pos (x := 1 + n30) (y := 1 + n4) (by omega)
      have g3 := fr_le (x := 1 + n20) (y := 2) (X := 31) (by decide) (by omega) (by omega)
      have g4 := fr_pos (x := 1 + n20) (y := 2) (by decide)
      have g5 := g2.1
      have g6 := g2.2
      have g7 := g4.1
      have g8 := g4.2
      clear g2 g4
      have q3 := g1.1
      have q4 := g1.2
      have q5 : (fr (1 + n30) (1 + n4)).2 ≤ 4 := by omega
      have q6 := g3.1
      have q7 := g3.2
      have q8 := g8
      clear g1 g6 g3 g8 h30 h4 h20 z30 z4 z20
      have ha9 : 0 ≤ a9 := by with_reducible assumption
      have hb9 : 0 ≤ b9 := by with_reducible assumption
      have hb9' : b9 < 2147483647 := by with_reducible assumption
      refine lawlength_spec (rd_hide B' Fz Nz (sub1 (o := srcO a9 b9 ta9 tb9) (by k_mem)) X' T' rfl rfl (by (first | ((with_reducible apply dle); (with_reducible assumption); exact rfl) | omega)) (by (first | ((with_reducible apply ule); (with_reducible assumption); exact rfl) | omega))) (hid1 (Nz.get (by k_mem)) (by k_ne)) (hid1 (Nz.get (by k_mem)) (by k_ne)) (foot1 Nz (by k_mem)) ha9 hb9 hb9' (by omega) (by omega) g5 (by omega) (by omega) (by omega) g7 (by omega) ?_
      intro l8 p8 q9 t8 u9 u8 r9 r8 a8 b8 ta8 tb8 h9 tk9 i1 i2 hn9 ha8 hb8 hb8' st9 hN9 s1 s2' ne9
      (refine back2U_k Fz Nz hn9 (by first | k_upd | ((repeat (refine Upd.tail (by k_ne) ?_)); exact Upd.head (by with_reducible assumption))) st9 s1 s2' ne9 i1 i2 ?_; intro F9 N9 L1 L2 M1 M2)
      clear Fz Nz st9 hn9 s1 s2' i1 i2 ha9 hb9 hb9'
      (try k_lt M1); (try k_lt M2)
      (try dsimp only); (try k_fold)
      have hR := (len_reads 10000 1000 hN9 g5 g7 (by omega) (by omega) (by omega) (by omega) (by decide) (by omega) (by omega) (by decide) (by decide) (by decide)).1
      clear hN9
      k_steps
      refine Stop.out ?_
      (with_reducible rename Fr _ _ _ _ => Fz)
      (with_reducible rename News _ _ _ _ => Nz)
      refine length_spec' (rd_of B' Fz X' T' rfl rfl (by (first | ((with_reducible apply dle); (with_reducible assumption); exact rfl) | omega)) (by (first | ((with_reducible apply ule); (with_reducible assumption); exact rfl) | omega))) hR (Nz.get (by k_mem)) (Nz.get (by k_mem)) (by omega) (by omega) g5 (by omega) (by omega) (by omega) g7 (by omega) ?_
      intro r7 t7 t7' h7x tk7 st7 hl7 hg7
      (refine back1_k Fz Nz st7 hl7 hg7 ?_; intro F9 N9 w7 v7)
      clear Fz Nz st7 hl7 hg7
      k_lt w7; k_lt2 v7
      k_steps
      refine Stop.out ?_
      (with_reducible rename Fr _ _ _ _ => Fz)
      (with_reducible rename News _ _ _ _ => Nz)
      refine r_ne_tup2 (Nz.get (by k_mem)) (Nz.get (by k_mem)) (by show un + 3 < 9000; omega) ?_
      k_steps
      refine Stop.out ?_
      (with_reducible rename Fr _ _ _ _ => Fz)
      (with_reducible rename News _ _ _ _ => Nz)
      exact ⟨_, _, _, _, [(L + 1 + 1, cW), (L + 1, cS), (x, srcO a8 b8 ta8 tb8), (499, tabObj #[]), (506, tabObj #[])], rfl, Fz, Nz, (by k_subL), (by intro q hq; simp [hq]), rfl, fun _ kJ => kJ a8 b8 ta8 tb8 rfl ha8 hb8 hb8'⟩
    · intro m₁ nx h tk hJ F N
      refine hJ _ ?_
      clear hJ
      intro a2 b2 ta2 tb2 hnx ha2 hb2 hb2'
      subst hnx
      clear Fz Nz hr
      k_steps
      (with_reducible rename Fr _ _ _ _ => Fz)
      (with_reducible rename News _ _ _ _ => Nz)
      exact Stop.out ⟨rfl, hIc2 _ _ a2 b2 ta2 tb2 hS2.on Fz Nz ha2 hb2 hb2'⟩
  clear F2 N2 ha hb hb' hS2
  rintro s3 m3 a3 b3 ta3 tb3 hS3 F3 N3 ha3 hb3 hb3'
  dsimp only [List.drop]
  obtain rfl : outer = [] := by rw [hA] at hfr; exact Option.some.inj hfr
  refine cutK 2 (fun Ki => ∀ s' g7 m cW a b ta tb ps, Same s s' → g.StaysIn g7 → Below (top dp [] un) base [] g7 → Fr g7 L s'.heap m → News g7 L s'.heap [(L + 1 + 1, cW), (L + 1, cS), (x, srcO a b ta tb), (499, tabObj #[]), (506, tabObj ps)] → 0 ≤ a → 0 ≤ b → b < 2147483647 → Ki s') ?_ ?_
  · intro Ic3 hIc3
    dsimp only [List.take]
    k_steps
    refine Stop.out ?_
    (with_reducible rename Fr _ _ _ _ => Fz)
    (with_reducible rename News _ _ _ _ => Nz)
    refine' kla_eval rfl ?_
    refine' kla_nest Fz Nz T' hC2 rfl ?Uq1 ?tq1 ?nq1 rfl ?_
    case Uq1 => k_updF
    case tq1 => kn_triples
    case nq1 => kn_among
    intro lf lc loc lvs lt lct lh ltk F9 N9 d1 d2 l1 l2
    clear Fz Nz
    (try dsimp only at N9)
    k_lt l1; k_lt2 l2
    k_steps
    refine Stop.out ?_
    (with_reducible rename Fr _ _ _ _ => Fz)
    (with_reducible rename News _ _ _ _ => Nz)
    obtain ⟨DW, cW2, e1, e2⟩ := name_law Nz
    subst e1; subst e2
    have hcW2 : cW2.data = .cell (some (.ref DW)) := by with_reducible assumption
    have hgf := hid3 (p := (L + 1 + 1, cW2)) (q := (L + 1, cS)) (r := (x, srcO a3 b3 ta3 tb3)) (Nz _ (List.mem_cons_self ..)).1 (by k_ne) (by k_ne) (by k_ne)
    have hgc := hid3 (p := (L + 1 + 1, cW2)) (q := (L + 1, cS)) (r := (x, srcO a3 b3 ta3 tb3)) (Nz _ (List.mem_cons_of_mem _ (List.mem_cons_self ..))).1 (by k_ne) (by k_ne) (by k_ne)
    have hgl := hid3 (p := (L + 1 + 1, cW2)) (q := (L + 1, cS)) (r := (x, srcO a3 b3 ta3 tb3)) (Nz _ (List.mem_cons_of_mem _ (List.mem_cons_of_mem _ (List.mem_cons_self ..)))).1 (by k_ne) (by k_ne) (by k_ne)
    have Nc : News g L lh [(L + 1 + 1, cW2), (L + 1, cS), (x, srcO a3 b3 ta3 tb3)] := pick3 Nz (by k_mem) (by k_mem) (by k_mem)
    have N1 : (499, tabObj #[]) ∈ _ := tab_mem Nz (by k_mem)
    obtain ⟨psx, N2⟩ : ∃ ps, (506, tabObj ps) ∈ _ := ⟨_, tab_mem Nz (by k_mem)⟩
    have hg1 := hid3 (p := (L + 1 + 1, cW2)) (q := (L + 1, cS)) (r := (x, srcO a3 b3 ta3 tb3)) (Nz _ N1).1 (by k_ne) (by k_ne) (by k_ne)
    have hg2 := hid3 (p := (L + 1 + 1, cW2)) (q := (L + 1, cS)) (r := (x, srcO a3 b3 ta3 tb3)) (Nz _ N2).1 (by k_ne) (by k_ne) (by k_ne)
    have hDx : @LT.lt Nat _ x DW := by omega
    refine refused_spec (k := 12) (own := [(L + 1 + 1, cW2), (L + 1, cS), (x, srcO a3 b3 ta3 tb3)]) (P := fun o => ∃ a b ta tb, o = [(L + 1 + 1, cW2), (L + 1, cS), (x, srcO a b ta tb)] ∧ 0 ≤ a ∧ 0 ≤ b ∧ b < 2147483647) (rdx_hide B' Fz Nc (fun _ hp => hp) XB TB rfl rfl (by (first | ((with_reducible apply dle); (with_reducible assumption); exact rfl) | omega)) (by (first | ((with_reducible apply ule); (with_reducible assumption); exact rfl) | omega))) ⟨_, _, _, _, hgf⟩ (fun q hq => ⟨(Nc q hq).1, hideAll_none _ (List.mem_map.mpr ⟨q, hq, rfl⟩)⟩) ?_ ?_
    · clear hg1 hg2
      intro A' G' s' R' hG hfoot' Q' E' hE'
      refine enterLam (news := [(L + 1 + 1, cW2), (L + 1, cS), (x, srcO a3 b3 ta3 tb3)]) R' hfoot' (hG _ _ hgf) ⟨lc, loc, lvs, lt, rfl, hG _ _ hgc, d1, d2⟩ rfl ?_ (by decide) rfl rfl rfl
      intro base2 dp2 un2 outer2 p2 loose2 mean2 mg2 mb2 L2 hh2 F2 N2' B2 XB2 TB2 X2 T2 hDp2 hUn2 hl2 hs2 hA2
      replace hgl := hG _ _ hgl
      clear Fz Nz Nc B' XB TB X' T' hret hgf hgc N1 N2 hG hfoot'
      (try dsimp only); (try k_fold)
      k_lt hl2
      (try dsimp only at hgl)
      k_steps
      refine Stop.out ?_
      (with_reducible rename Fr _ _ _ _ => Fz)
      (with_reducible rename News _ _ _ _ => Nz)
      refine oneT_spec (rd_hide B2 Fz Nz (sub1 (o := srcO a3 b3 ta3 tb3) (by k_mem)) X2 T2 rfl rfl (by (first | ((with_reducible apply dle); (with_reducible assumption); exact rfl) | omega)) (by (first | ((with_reducible apply ule); (with_reducible assumption); exact rfl) | omega))) (hid1 (Fz.keep _ _ hgl) (by show @Ne Nat DW x; omega)) (foot1 Nz (by k_mem)) ha3 hb3 hb3' (ls := wrongL) (by repeat constructor) (by decide) (by decide) (by decide) ?_
      intro gl tg a9 b9 ta9 tb9 h9 tk9 ha9 hb9 hb9' st9 hn9 hgl9 hgl2
      (refine backU_k Fz Nz hn9 (by k_upd) st9 ?_; intro F9 N9)
      clear Fz Nz st9 hn9 hgl
      obtain ⟨w1, w2, w3⟩ := wrong_ok gl hgl9
      (try dsimp only)
      k_steps
      refine Stop.out ?_
      (with_reducible rename Fr _ _ _ _ => Fz)
      (with_reducible rename News _ _ _ _ => Nz)
      refine length_raise (rdx_of B2 Fz XB2 TB2 rfl rfl (by (first | ((with_reducible apply dle); (with_reducible assumption); exact rfl) | omega)) (by (first | ((with_reducible apply ule); (with_reducible assumption); exact rfl) | omega))) (nl := (unitOf gl).1) (u := (unitOf gl).2) (tw := ta9) (tw' := ta9) (by omega) rfl w2 (bad_of w3) ?_
      intro o7 c7 e7 h7 tk7 hf7 f7
      obtain rfl := Option.some.inj hf7
      have Nq : News G' L2 _ [(L + 1 + 1, cW2), (L + 1, cS), (x, srcO a9 b9 ta9 tb9)] := pick3 Nz (by k_mem) (by k_mem) (by k_mem)
      refine leave_onE (own' := [(L + 1 + 1, cW2), (L + 1, cS), (x, srcO a9 b9 ta9 tb9)]) rfl B2 Fz Fz.keep f7 (fun q hq => ⟨Or.inl ⟨(Nq q hq).1, (Nq q hq).2.1⟩, (Nq q hq).2.2⟩) fun h8 f8 => ?_
      exact hE' outer2 _ _ e7 h8 tk7 ⟨a9, b9, ta9, tb9, rfl, ha9, hb9, hb9'⟩ (by rw [hA2]) f8
    · intro own' h7 tk7 hP hT hown
      obtain ⟨a7, b7, ta7, tb7, rfl, ha7, hb7, hb7'⟩ := hP
      obtain ⟨g7, T7, F7, B7, N7, _⟩ := backT (news := [(L + 1 + 1, cW2), (L + 1, cS), (x, srcO a7 b7 ta7 tb7), (499, tabObj #[]), (506, tabObj psx)]) B' (fr_hide Fz Nc) (hT _ rfl) rfl (fun q hq => by
        simp only [List.mem_cons, List.not_mem_nil, or_false] at hq
        rcases hq with rfl | rfl | rfl | rfl | rfl
        · exact ⟨Or.inr (hown _ (by simp)), (Nc (L + 1 + 1, cW2) (by simp)).2⟩
        · exact ⟨Or.inr (hown _ (by simp)), (Nc (L + 1, cS) (by simp)).2⟩
        · exact ⟨Or.inr (hown _ (by simp)), (Nc (x, srcO a3 b3 ta3 tb3) (by simp)).2⟩
        · exact ⟨Or.inl hg1, (Nz _ N1).2⟩
        · exact ⟨Or.inl hg2, (Nz _ N2).2⟩)
      have gk : g.StaysIn g7 := fun b o e => T7.other b o e (fun hm => nomatch hm)
      clear Fz Nz Nc B' X' T' hgf hgc hgl hg1 hg2 hT hown N1 N2
      k_steps
      (with_reducible rename Fr _ _ _ _ => Fz)
      (with_reducible rename News _ _ _ _ => Nz)
      exact Stop.out ⟨rfl, hIc3 _ g7 _ cW2 a7 b7 ta7 tb7 psx hS3.on gk B7 Fz Nz ha7 hb7 hb7'⟩
  clear F3 N3 ha3 hb3 hb3' hS3 B' X' T'
  rintro s4 g7 m cW4 a b ta tb ps hS4 gk B' F4 N4 ha hb hb'
  dsimp only [List.drop]
  have X' : (hd.heap_1 w.params).In g7 := XB.keeps B'.stays
  have T' := TB.keeps B'.stays
  k_steps
  refine Stop.out ?_
  (with_reducible rename Fr _ _ _ _ => Fz)
  (with_reducible rename News _ _ _ _ => Nz)
  refine letters_spec (rd_hide B' Fz Nz (sub1 (o := srcO a b ta tb) (by k_mem)) X' T' rfl rfl (by (first | ((with_reducible apply dle); (with_reducible assumption); exact rfl) | omega)) (by (first | ((with_reducible apply ule); (with_reducible assumption); exact rfl) | omega))) (foot1 Nz (by k_mem)) ha hb hb' ?_
  intro a5 b5 ta5 tb5 h5x tk5 hn5 ha5 hb5 hc5 st5
  (refine backU_k Fz Nz hn5 (by k_upd) st5 ?_; intro F9 N9)
  clear Fz Nz st5 hn5
  (try dsimp only); (try k_fold)
  k_steps
  refine Stop.out ?_
  (with_reducible rename Fr _ _ _ _ => Fz)
  (with_reducible rename News _ _ _ _ => Nz)
  refine lawlist_spec (rd_hide B' Fz Nz (sub1 (o := srcO a5 b5 ta5 tb5) (by k_mem)) X' T' rfl rfl (by (first | ((with_reducible apply dle); (with_reducible assumption); exact rfl) | omega)) (by (first | ((with_reducible apply ule); (with_reducible assumption); exact rfl) | omega))) (foot1 Nz (by k_mem)) ha5 hb5 hc5 ?_
  intro a6 b6 ta6 tb6 h6x tk6 hn6 ha6 hb6 hc6 st6
  (refine backU_k Fz Nz hn6 (by k_upd) st6 ?_; intro F9 N9)
  clear Fz Nz st6 hn6
  (try dsimp only); (try k_fold)
  k_steps
  refine Stop.out ?_
  (with_reducible rename Fr _ _ _ _ => Fz)
  (with_reducible rename News _ _ _ _ => Nz)
  refine lawopacity_spec (rd_hide B' Fz Nz (sub1 (o := srcO a6 b6 ta6 tb6) (by k_mem)) X' T' rfl rfl (by (first | ((with_reducible apply dle); (with_reducible assumption); exact rfl) | omega)) (by (first | ((with_reducible apply ule); (with_reducible assumption); exact rfl) | omega))) (foot1 Nz (by k_mem)) ha6 hb6 hc6 ?_
  intro a7 b7 ta7 tb7 h7x tk7 hn7 ha7 hb7 hc7 st7
  (refine backU_k Fz Nz hn7 (by k_upd) st7 ?_; intro F9 N9)
  clear Fz Nz st7 hn7
  (try dsimp only); (try k_fold)
  k_steps
  refine Stop.out ?_
  (with_reducible rename Fr _ _ _ _ => Fz)
  (with_reducible rename News _ _ _ _ => Nz)
  have Nc : News g7 L _ [(x, srcO a7 b7 ta7 tb7), (499, tabObj #[])] := fun q hq => Nz q ((by k_subL : ∀ q, q ∈ [(x, srcO a7 b7 ta7 tb7), (499, tabObj #[])] → q ∈ _) q hq)
  have h503 : @LT.lt Nat _ 503 L := by
    obtain ⟨o5, _, _, _, _, _, _, _, _, e5, _⟩ := hC1
    have := Heap.lt_size e5
    rw [hs] at this
    exact this
  refine lawframe_spec (rdx_hide B' Fz Nc (fun _ hp => hp) XB TB rfl rfl (by (first | ((with_reducible apply dle); (with_reducible assumption); exact rfl) | omega)) (by (first | ((with_reducible apply ule); (with_reducible assumption); exact rfl) | omega))) (fun q hq => ⟨(Nc q hq).1, hideAll_none _ (List.mem_map.mpr ⟨q, hq, rfl⟩)⟩) (codeHd_keep hC1 fun o e => hideAll_get _ (Fz.keep _ _ (gk _ _ e)) (by simp only [List.map_cons, List.map_nil, List.mem_cons, List.not_mem_nil, or_false, not_or]; exact ⟨(by show @Ne Nat 503 x; omega), (by decide)⟩)) ha7 hb7 hc7 ?_
  intro h8 tk8 hps hT
  obtain ⟨g8, T8, F8, B8, N8, _⟩ := backT (news := [(506, tabObj ps)]) B' (fr_hide Fz Nc) (hT _ rfl) rfl (fun q hq => by
    rw [List.mem_singleton.mp hq]
    exact ⟨Or.inl (hideAll_get _ (Nz (506, tabObj ps) (by simp)).1 (by simp only [List.map_cons, List.map_nil, List.mem_cons, List.not_mem_nil, or_false, not_or]; exact ⟨(by show @Ne Nat 506 x; omega), (by decide)⟩)), (Nz (506, tabObj ps) (by simp)).2⟩)
  exact hS4.q (hret h8 tk8 hps ⟨_, (N8 _ (List.mem_cons_self ..)).1⟩ fun b o e => F8.keep b o (T8.other b o (gk _ _ e) fun hm => nomatch hm))
end Mine
end
section --HdM
set_option maxHeartbeats 8000000
namespace Mine
theorem main.tw10047389527955405517 : True := trivial
theorem main.tw10094358506670053839 : True := trivial
theorem main.tw10114013102757674387 : True := trivial
theorem main.tw10140136200207757160 : True := trivial
theorem main.tw10159738436595150677 : True := trivial
theorem main.tw10177057350305019805 : True := trivial
theorem main.tw10199874654664476236 : True := trivial
theorem main.tw10204856939554784155 : True := trivial
theorem main.tw10234815189450012239 : True := trivial
theorem main.tw10334261112615635914 : True := trivial
theorem main.tw10363585996791799541 : True := trivial
theorem main.tw10391951854915411234 : True := trivial
theorem main.tw104360540948158410 : True := trivial
theorem main.tw10450603732522932521 : True := trivial
theorem main.tw10455743928339290457 : True := trivial
theorem main.tw1054321117371714560 : True := trivial
theorem main.tw10609540516017602915 : True := trivial
theorem main.tw10625486282989778954 : True := trivial
theorem main.tw10665089971535097683 : True := trivial
theorem main.tw10665469846841522134 : True := trivial
theorem main.tw10707853282979444102 : True := trivial
theorem main.tw10717781254789130011 : True := trivial
theorem main.tw10821422270917381399 : True := trivial
theorem main.tw10825838108423173272 : True := trivial
theorem main.tw1084809587757533035 : True := trivial
theorem main.tw10864377008497418100 : True := trivial
theorem main.tw10877679251791092727 : True := trivial
theorem main.tw10896356407431480244 : True := trivial
theorem main.tw10928175160051115300 : True := trivial
theorem main.tw1099256609624015869 : True := trivial
theorem main.tw11001617756164336837 : True := trivial
theorem main.tw11003572833241299968 : True := trivial
theorem main.tw11086099901593105684 : True := trivial
theorem main.tw11092141859048813250 : True := trivial
theorem main.tw11101190512080308003 : True := trivial
theorem main.tw11129264269027447598 : True := trivial
theorem main.tw11135027115929721415 : True := trivial
theorem main.tw11156056980113079860 : True := trivial
theorem main.tw11181722664286889309 : True := trivial
theorem main.tw11221353774195762014 : True := trivial
theorem main.tw11251407683458634364 : True := trivial
theorem main.tw1130211791997205004 : True := trivial
theorem main.tw11374851513655246148 : True := trivial
theorem main.tw11403851563620829512 : True := trivial
theorem main.tw11487549891475536569 : True := trivial
theorem main.tw11544348965984651327 : True := trivial
theorem main.tw1156462466702112376 : True := trivial
theorem main.tw11595355409239048105 : True := trivial
theorem main.tw11646826074482590764 : True := trivial
theorem main.tw11752208632293872130 : True := trivial
theorem main.tw11785714552879321826 : True := trivial
theorem main.tw1178595665728414349 : True := trivial
theorem main.tw11815829001073249272 : True := trivial
theorem main.tw11854833303349568318 : True := trivial
theorem main.tw11857135199678951331 : True := trivial
theorem main.tw11883459871715217827 : True := trivial
theorem main.tw11982392923317675503 : True := trivial
theorem main.tw11987853993630220354 : True := trivial
theorem main.tw12027323910402764344 : True := trivial
theorem main.tw12057704586751987240 : True := trivial
theorem main.tw12077450504624328385 : True := trivial
theorem main.tw12205347405646519318 : True := trivial
theorem main.tw12252054271945606052 : True := trivial
theorem main.tw12273490649430754879 : True := trivial
theorem main.tw12298629886278197574 : True := trivial
theorem main.tw12343854547171428336 : True := trivial
theorem main.tw12361340156312767134 : True := trivial
theorem main.tw1236483940969888574 : True := trivial
theorem main.tw12431561837914552411 : True := trivial
theorem main.tw12431731261707249289 : True := trivial
theorem main.tw12455012482086183272 : True := trivial
theorem main.tw12483276189755474720 : True := trivial
theorem main.tw12498799080166339403 : True := trivial
theorem main.tw12518504611687188807 : True := trivial
theorem main.tw12564604832814323664 : True := trivial
theorem main.tw12590340796369385619 : True := trivial
theorem main.tw12623159325031504133 : True := trivial
theorem main.tw12646911602827044314 : True := trivial
theorem main.tw12702744160499308131 : True := trivial
theorem main.tw1277820614484962519 : True := trivial
theorem main.tw12872379398031375081 : True := trivial
theorem main.tw12885385263037960081 : True := trivial
theorem main.tw12885673836220544336 : True := trivial
theorem main.tw12900284412222446716 : True := trivial
theorem main.tw12915833801598196605 : True := trivial
theorem main.tw12922898485456448571 : True := trivial
theorem main.tw12927740378394474205 : True := trivial
theorem main.tw12941917028564957548 : True := trivial
theorem main.tw1306636233014830658 : True := trivial
theorem main.tw13113777628852026922 : True := trivial
theorem main.tw13132915859168520264 : True := trivial
theorem main.tw13180746182150919023 : True := trivial
theorem main.tw13219505800766818778 : True := trivial
theorem main.tw13224007501803129859 : True := trivial
theorem main.tw13270728482189477470 : True := trivial
theorem main.tw13293747886898857621 : True := trivial
theorem main.tw13312744506703586535 : True := trivial
theorem main.tw13348322127785295214 : True := trivial
theorem main.tw13350764725976880583 : True := trivial
theorem main.tw13355152605343272895 : True := trivial
theorem main.tw13402765919934010277 : True := trivial
theorem main.tw13503263706703578961 : True := trivial
theorem main.tw13626721169425172152 : True := trivial
theorem main.tw13642826006792871662 : True := trivial
theorem main.tw13667920496262714385 : True := trivial
theorem main.tw13676971244355772609 : True := trivial
theorem main.tw13724616953566380437 : True := trivial
theorem main.tw13777938177461255882 : True := trivial
theorem main.tw13803360072150633466 : True := trivial
theorem main.tw13838900630717943254 : True := trivial
theorem main.tw13876859957761632879 : True := trivial
theorem main.tw1390771862084280389 : True := trivial
theorem main.tw13962693860625380366 : True := trivial
theorem main.tw14009396871252706886 : True := trivial
theorem main.tw14027531716089632829 : True := trivial
theorem main.tw14060465935940456498 : True := trivial
theorem main.tw14061640607465278742 : True := trivial
theorem main.tw14064073609400967072 : True := trivial
theorem main.tw14080665800827857628 : True := trivial
theorem main.tw14097447854668400296 : True := trivial
theorem main.tw1409966394225722968 : True := trivial
theorem main.tw1429040668314091153 : True := trivial
theorem main.tw14313897822631088780 : True := trivial
theorem main.tw1439166485080882 : True := trivial
theorem main.tw14439473939278146460 : True := trivial
theorem main.tw14492832472218066102 : True := trivial
theorem main.tw1453356044741674121 : True := trivial
theorem main.tw14539993770535171780 : True := trivial
theorem main.tw14635473669698735251 : True := trivial
theorem main.tw14639212616227390028 : True := trivial
theorem main.tw14646587721710459877 : True := trivial
theorem main.tw14662554035588321541 : True := trivial
theorem main.tw14672674291997333471 : True := trivial
theorem main.tw14722489848711283861 : True := trivial
theorem main.tw14759895335926876869 : True := trivial
theorem main.tw14771111431291430275 : True := trivial
theorem main.tw14788915703135433725 : True := trivial
theorem main.tw14793117695081215449 : True := trivial
theorem main.tw14907226015203709474 : True := trivial
theorem main.tw14909365282108701170 : True := trivial
theorem main.tw15017983477296125989 : True := trivial
theorem main.tw15060185592220127646 : True := trivial
theorem main.tw15079240505294077160 : True := trivial
theorem main.tw15109750227778091905 : True := trivial
theorem main.tw15131278010643852716 : True := trivial
theorem main.tw15356762974548107741 : True := trivial
theorem main.tw15365013842991253249 : True := trivial
theorem main.tw15410482203810522393 : True := trivial
theorem main.tw1545906260438175962 : True := trivial
theorem main.tw15465920861327815835 : True := trivial
theorem main.tw15467891735981029475 : True := trivial
theorem main.tw15485851114877660061 : True := trivial
theorem main.tw15491723280356408159 : True := trivial
theorem main.tw15514936471743626214 : True := trivial
theorem main.tw15554039934745177238 : True := trivial
theorem main.tw15595112118272840620 : True := trivial
theorem main.tw15616401959046598769 : True := trivial
theorem main.tw15624239662980076321 : True := trivial
theorem main.tw15643365686152983790 : True := trivial
theorem main.tw15734200111481486640 : True := trivial
theorem main.tw15737690656516749961 : True := trivial
theorem main.tw15768048840197415361 : True := trivial
theorem main.tw15803610866087392283 : True := trivial
theorem main.tw15806524323241146399 : True := trivial
theorem main.tw1587290215689348708 : True := trivial
theorem main.tw15928290008803537013 : True := trivial
theorem main.tw15955573374722617477 : True := trivial
theorem main.tw16008252555379753968 : True := trivial
theorem main.tw16008457594558532635 : True := trivial
theorem main.tw16035907590883218939 : True := trivial
theorem main.tw16046730324260685337 : True := trivial
theorem main.tw16049902774474827687 : True := trivial
theorem main.tw16135426469972691074 : True := trivial
theorem main.tw16136984950599521427 : True := trivial
theorem main.tw1615045767204293396 : True := trivial
theorem main.tw16153842264607907944 : True := trivial
theorem main.tw16187894506366716058 : True := trivial
theorem main.tw16193401482309157537 : True := trivial
theorem main.tw16250307710129154182 : True := trivial
theorem main.tw16251939892948500945 : True := trivial
theorem main.tw1628013610222277130 : True := trivial
theorem main.tw16320729459185622934 : True := trivial
theorem main.tw16411370214107742406 : True := trivial
theorem main.tw16451033083921036709 : True := trivial
theorem main.tw16452447596832230105 : True := trivial
theorem main.tw16480584520131690045 : True := trivial
theorem main.tw16519101796099990279 : True := trivial
theorem main.tw16572128252103988241 : True := trivial
theorem main.tw16641786646906312760 : True := trivial
theorem main.tw16656740534632174751 : True := trivial
theorem main.tw16721930046160240684 : True := trivial
theorem main.tw16778611742570070204 : True := trivial
theorem main.tw1678875084529416142 : True := trivial
theorem main.tw16798622893749714585 : True := trivial
theorem main.tw16819838333489098493 : True := trivial
theorem main.tw16826212616301561204 : True := trivial
theorem main.tw16832360635688203351 : True := trivial
theorem main.tw16950194794029067938 : True := trivial
theorem main.tw16952715711813285254 : True := trivial
theorem main.tw16965079339398995527 : True := trivial
theorem main.tw17091655785135471103 : True := trivial
theorem main.tw17118054049896295152 : True := trivial
theorem main.tw17146568849442343683 : True := trivial
theorem main.tw1714950047550659301 : True := trivial
theorem main.tw17201416709059790184 : True := trivial
theorem main.tw17223442867436993403 : True := trivial
theorem main.tw17292155258170135553 : True := trivial
theorem main.tw17297283025540448806 : True := trivial
theorem main.tw17353955331779342651 : True := trivial
theorem main.tw17402982504261768225 : True := trivial
theorem main.tw17450470499104002142 : True := trivial
theorem main.tw17510229520200029679 : True := trivial
theorem main.tw17561526911342447988 : True := trivial
theorem main.tw17644181745481072423 : True := trivial
theorem main.tw17679725944135375923 : True := trivial
theorem main.tw17695171507069755227 : True := trivial
theorem main.tw17708487481403421675 : True := trivial
theorem main.tw17715262827843222689 : True := trivial
theorem main.tw17725498274588495791 : True := trivial
theorem main.tw17737603089517620647 : True := trivial
theorem main.tw17767330081159143506 : True := trivial
theorem main.tw1777545030009416734 : True := trivial
theorem main.tw17871620999419790863 : True := trivial
theorem main.tw17958375852430007124 : True := trivial
theorem main.tw18031918436515192882 : True := trivial
theorem main.tw18063282731904131703 : True := trivial
theorem main.tw18134284020713443437 : True := trivial
theorem main.tw18195925520682101353 : True := trivial
theorem main.tw18218335207050127959 : True := trivial
theorem main.tw18238007617527299592 : True := trivial
theorem main.tw1826329307503635854 : True := trivial
theorem main.tw18284262389922463811 : True := trivial
theorem main.tw18302796317244248524 : True := trivial
theorem main.tw18332899500509843999 : True := trivial
theorem main.tw18403998269306519403 : True := trivial
theorem main.tw18421580907717582127 : True := trivial
theorem main.tw18431692314602308842 : True := trivial
theorem main.tw1850612553970854742 : True := trivial
theorem main.tw1886080085820668685 : True := trivial
theorem main.tw2007339730380871907 : True := trivial
theorem main.tw2019394398466159022 : True := trivial
theorem main.tw202243217284325724 : True := trivial
theorem main.tw2110754180369666209 : True := trivial
theorem main.tw2164743871083121425 : True := trivial
theorem main.tw2190695567426971638 : True := trivial
theorem main.tw2195194259037543316 : True := trivial
theorem main.tw223528310411579522 : True := trivial
theorem main.tw2238316416991798583 : True := trivial
theorem main.tw2279707942289718827 : True := trivial
theorem main.tw2287757881348798766 : True := trivial
theorem main.tw2406621943657119228 : True := trivial
theorem main.tw2433702464844828792 : True := trivial
theorem main.tw2494417324486933972 : True := trivial
theorem main.tw2496676261509829067 : True := trivial
theorem main.tw2524017781993486291 : True := trivial
theorem main.tw2538046985915079169 : True := trivial
theorem main.tw2544328076492683441 : True := trivial
theorem main.tw2566753976717531306 : True := trivial
theorem main.tw2583023086579268501 : True := trivial
theorem main.tw2629084897520917108 : True := trivial
theorem main.tw2647654807098235363 : True := trivial
theorem main.tw2702614204127132176 : True := trivial
theorem main.tw2724176850512262202 : True := trivial
theorem main.tw2729793432009153956 : True := trivial
theorem main.tw2744014450722944760 : True := trivial
theorem main.tw2759098988195820126 : True := trivial
theorem main.tw2852251193174398662 : True := trivial
theorem main.tw2895952525429962455 : True := trivial
theorem main.tw2906824675625879941 : True := trivial
theorem main.tw2921621734765799159 : True := trivial
theorem main.tw2921958311620399285 : True := trivial
theorem main.tw302440914744352476 : True := trivial
theorem main.tw3027586509356016917 : True := trivial
theorem main.tw3045742163950154196 : True := trivial
theorem main.tw3137596982192898869 : True := trivial
theorem main.tw3164071578474256198 : True := trivial
theorem main.tw31828345220925962 : True := trivial
theorem main.tw3299218664060906527 : True := trivial
theorem main.tw330327031418712150 : True := trivial
theorem main.tw3314904115985164895 : True := trivial
theorem main.tw3343439749351644125 : True := trivial
theorem main.tw33456957511925785 : True := trivial
theorem main.tw3394367416137920725 : True := trivial
theorem main.tw341453280667917650 : True := trivial
theorem main.tw3454311308915712629 : True := trivial
theorem main.tw3491332818749588091 : True := trivial
theorem main.tw3532412968194664532 : True := trivial
theorem main.tw3549514262204291990 : True := trivial
theorem main.tw3557749057250611081 : True := trivial
theorem main.tw3583811862363856187 : True := trivial
theorem main.tw3613476055612923068 : True := trivial
theorem main.tw3627144658338631552 : True := trivial
theorem main.tw3779293765908593550 : True := trivial
theorem main.tw3796207824708393856 : True := trivial
theorem main.tw3848698983108048278 : True := trivial
theorem main.tw3864827586467847463 : True := trivial
theorem main.tw3960113756560652017 : True := trivial
theorem main.tw3994622017586750766 : True := trivial
theorem main.tw4026956272090484662 : True := trivial
theorem main.tw4038153913678941442 : True := trivial
theorem main.tw4039676971129161736 : True := trivial
theorem main.tw4044139247061151142 : True := trivial
theorem main.tw4072190877284726289 : True := trivial
theorem main.tw4126091431370883743 : True := trivial
theorem main.tw4156125974679941130 : True := trivial
theorem main.tw4189750870438640210 : True := trivial
theorem main.tw4261964983698606537 : True := trivial
theorem main.tw4324958949535026087 : True := trivial
theorem main.tw4333880214566435006 : True := trivial
theorem main.tw4365514962571936147 : True := trivial
theorem main.tw4452170602077327944 : True := trivial
theorem main.tw4475767826048309731 : True := trivial
theorem main.tw450273134140183931 : True := trivial
theorem main.tw451873465583785326 : True := trivial
theorem main.tw4544244032028310869 : True := trivial
theorem main.tw4573282807186111410 : True := trivial
theorem main.tw4585930131862741453 : True := trivial
theorem main.tw4605139254293405059 : True := trivial
theorem main.tw4637267157515435788 : True := trivial
theorem main.tw4650958065196391918 : True := trivial
theorem main.tw4651154628705390771 : True := trivial
theorem main.tw4681395471914393968 : True := trivial
theorem main.tw4749052000479324790 : True := trivial
theorem main.tw4812270449578504274 : True := trivial
theorem main.tw4816531377298285970 : True := trivial
theorem main.tw4839478117068044826 : True := trivial
theorem main.tw4900431672193113347 : True := trivial
theorem main.tw4990475226369331113 : True := trivial
theorem main.tw5061512775090418087 : True := trivial
theorem main.tw5084117380071580128 : True := trivial
theorem main.tw5091726699305991454 : True := trivial
theorem main.tw5102693214775723256 : True := trivial
theorem main.tw5127751686995613262 : True := trivial
theorem main.tw5160751907100791332 : True := trivial
theorem main.tw5203219222101121401 : True := trivial
theorem main.tw52199770228462824 : True := trivial
theorem main.tw5240536507193477226 : True := trivial
theorem main.tw5240779543111244032 : True := trivial
theorem main.tw5243159528196176124 : True := trivial
theorem main.tw5372645768047454471 : True := trivial
theorem main.tw5396188567872606041 : True := trivial
theorem main.tw5400957986263281647 : True := trivial
theorem main.tw5401703158475992631 : True := trivial
theorem main.tw5418533224930618480 : True := trivial
theorem main.tw5450094653865882931 : True := trivial
theorem main.tw5571399437266216444 : True := trivial
theorem main.tw5585478044538960755 : True := trivial
theorem main.tw5602234197418806665 : True := trivial
theorem main.tw5613160597433933154 : True := trivial
theorem main.tw5649967823195072380 : True := trivial
theorem main.tw5665406974723832613 : True := trivial
theorem main.tw5677329702179833609 : True := trivial
theorem main.tw5781596087445459943 : True := trivial
theorem main.tw5797031442667253490 : True := trivial
theorem main.tw5871769198996169552 : True := trivial
theorem main.tw5995161000843957690 : True := trivial
theorem main.tw6044114016751833949 : True := trivial
theorem main.tw6053611964639427726 : True := trivial
theorem main.tw6075091234017535682 : True := trivial
theorem main.tw6112859857366181021 : True := trivial
theorem main.tw6161133996638707016 : True := trivial
theorem main.tw6162249291895867263 : True := trivial
theorem main.tw6183352029847204284 : True := trivial
theorem main.tw6334894449686545209 : True := trivial
theorem main.tw6361450105264607166 : True := trivial
theorem main.tw6385024630547198690 : True := trivial
theorem main.tw6389877041954997217 : True := trivial
theorem main.tw6418098437765475518 : True := trivial
theorem main.tw6449824600675878752 : True := trivial
theorem main.tw645136716886899192 : True := trivial
theorem main.tw6508729118710982530 : True := trivial
theorem main.tw6511744376749373798 : True := trivial
theorem main.tw6519269512792494810 : True := trivial
theorem main.tw6541472054586571296 : True := trivial
theorem main.tw6545385358150927430 : True := trivial
theorem main.tw6557543464795787104 : True := trivial
theorem main.tw656089360051881306 : True := trivial
theorem main.tw65644731488775911 : True := trivial
theorem main.tw6635558491612396129 : True := trivial
theorem main.tw6655696309031964122 : True := trivial
theorem main.tw6657087868060814 : True := trivial
theorem main.tw6660377722381337597 : True := trivial
theorem main.tw6696893160125735727 : True := trivial
theorem main.tw6697339332421208802 : True := trivial
theorem main.tw6741292078354696603 : True := trivial
theorem main.tw6785657489111691699 : True := trivial
theorem main.tw6801380410627298636 : True := trivial
theorem main.tw6855474311058116810 : True := trivial
theorem main.tw6886502059237256666 : True := trivial
theorem main.tw6910295442248876197 : True := trivial
theorem main.tw6912675738884088206 : True := trivial
theorem main.tw6964966759447816979 : True := trivial
theorem main.tw6981815665589151136 : True := trivial
theorem main.tw7074144079889050967 : True := trivial
theorem main.tw7083192437325867461 : True := trivial
theorem main.tw7113585516715319716 : True := trivial
theorem main.tw7153082081811710619 : True := trivial
theorem main.tw716429049611869786 : True := trivial
theorem main.tw7186131708394509389 : True := trivial
theorem main.tw7214478077546791972 : True := trivial
theorem main.tw7237411587787531456 : True := trivial
theorem main.tw7268301785047649679 : True := trivial
theorem main.tw7293298908176781663 : True := trivial
theorem main.tw7298748307773712898 : True := trivial
theorem main.tw7308723440029596264 : True := trivial
theorem main.tw7332330508316399935 : True := trivial
theorem main.tw7332552209862256014 : True := trivial
theorem main.tw73751810991705359 : True := trivial
theorem main.tw7411558596216406370 : True := trivial
theorem main.tw7439787175107056256 : True := trivial
theorem main.tw7469313859021357782 : True := trivial
theorem main.tw750237026923860459 : True := trivial
theorem main.tw7514964652732493775 : True := trivial
theorem main.tw7590696779544312186 : True := trivial
theorem main.tw7647378279178456250 : True := trivial
theorem main.tw765107192605250810 : True := trivial
theorem main.tw7691172733374981047 : True := trivial
theorem main.tw7698036289167662538 : True := trivial
theorem main.tw7699798408344515789 : True := trivial
theorem main.tw7751025194823839400 : True := trivial
theorem main.tw7761410557224570781 : True := trivial
theorem main.tw7846812961960373227 : True := trivial
theorem main.tw7875838824674609581 : True := trivial
theorem main.tw7904437144335635152 : True := trivial
theorem main.tw7974275031393228247 : True := trivial
theorem main.tw8079908401900000222 : True := trivial
theorem main.tw8211959896082780389 : True := trivial
theorem main.tw8228058824784995430 : True := trivial
theorem main.tw8260724100714396741 : True := trivial
theorem main.tw832900586485598795 : True := trivial
theorem main.tw8440099810896429113 : True := trivial
theorem main.tw8466321980469482115 : True := trivial
theorem main.tw8467378866343419333 : True := trivial
theorem main.tw8475525182357872103 : True := trivial
theorem main.tw8478376212529829071 : True := trivial
theorem main.tw8484041278411425421 : True := trivial
theorem main.tw8557395850702784662 : True := trivial
theorem main.tw8652556701797213591 : True := trivial
theorem main.tw8663697691656813868 : True := trivial
theorem main.tw8729708805864041840 : True := trivial
theorem main.tw8808949154728543533 : True := trivial
theorem main.tw8905464785575363620 : True := trivial
theorem main.tw8930851030842425676 : True := trivial
theorem main.tw8947760058931562597 : True := trivial
theorem main.tw9069182735580402390 : True := trivial
theorem main.tw9121559901702372667 : True := trivial
theorem main.tw9155575984036265788 : True := trivial
theorem main.tw917386388269078853 : True := trivial
theorem main.tw9190990891756207365 : True := trivial
theorem main.tw9265829497004654079 : True := trivial
theorem main.tw9268297945177815525 : True := trivial
theorem main.tw9272984997812220495 : True := trivial
theorem main.tw9302470337196694018 : True := trivial
theorem main.tw9360745474812902239 : True := trivial
theorem main.tw9361300454564663673 : True := trivial
theorem main.tw9369988214560726041 : True := trivial
theorem main.tw9376575566392132001 : True := trivial
theorem main.tw9381277316556691805 : True := trivial
theorem main.tw9406782406253462049 : True := trivial
theorem main.tw9417822746687237092 : True := trivial
theorem main.tw9483120023164983764 : True := trivial
theorem main.tw9498315638749924794 : True := trivial
theorem main.tw9557352009045844224 : True := trivial
theorem main.tw9561784451562097942 : True := trivial
theorem main.tw9563168847844234846 : True := trivial
theorem main.tw961187720498965250 : True := trivial
theorem main.tw962032349192862916 : True := trivial
theorem main.tw9656510801202774680 : True := trivial
theorem main.tw9670510015898674028 : True := trivial
theorem main.tw9681375758050803366 : True := trivial
theorem main.tw9682133043923132273 : True := trivial
theorem main.tw9756827057097773860 : True := trivial
theorem main.tw9808303207383738048 : True := trivial
theorem main.tw9848185148710128376 : True := trivial
theorem main.tw9897820754763898449 : True := trivial
theorem main.tw9925469786538053656 : True := trivial
theorem main.tw9957550378297406723 : True := trivial
theorem main.tw9976160756891316704 : True := trivial
theorem main.tw9994787619460420439 : True := trivial
set_option Elab.async true in
theorem main : PySem.Challenge.rw_pf0197_01.Holds := by
  w_on; o_law; k_head; (case hw => w_witness2)
  k_fill
  intro w s₀ s₁ mg mb G Y fa o pm cd doc dV kV ho hd' hcd hD hmg hg args vals as hpre hlay hrd hwl hlo
  have KX := km_in_of Y
  have hT8 := km_tabs_of Y
  refine Ground.open G ?_
  intro T B D TE TW
  have hfa := mg_of (n := Str.ofString "law") (v := .ref 511) KX T.g (by kernel_rfl)
  have hfa2 : fa = 511 := by
    have := hfa.symm.trans hmg
    injection this with this
    injection this with this
    exact this.symm
  subst hfa2
  have hT9 : TabsAt [(503, 499), (510, 506)] s₁.heap := List.forall_mem_cons.mpr ⟨⟨codeHd_of_K (c := 503) (P := 499) KX (by kernel_rfl), hT8 499 (by k_mem)⟩, List.forall_mem_cons.mpr ⟨⟨codeHd_of_K (c := 510) (P := 506) KX (by kernel_rfl), hT8 506 (by k_mem)⟩, fun _ h => nomatch h⟩⟩
  wrow_args hpre hlay hrd hwl hlo
  (with_reducible rename Heap.IsList _ _ _ => hL)
  (with_reducible rename IntsAre _ _ => hI)
  (with_reducible rename ¬ _ < _ => hn)
  have KX2 : (Mine.hd.heap_1 w.params).In s₁.heap := KX
  have C' := ghost_code hT9
  have X' := ghost_K hT9 KX2 (by kernel_rfl)
  have T' := ghost_top hT9 T
  have hlen := ints_len hI
  have hid : ∀ P, P ∈ [499, 506] → (ghostOf s₁.heap [(503, 499), (510, 506)]).get? P = none := fun P hP => hideAll_none _ hP
  refine law_spec (g := ghostOf s₁.heap [(503, 499), (510, 506)]) ⟨rfl, rfl, by decide, by decide, ⟨_, [], topProg, _, _, mg, mb, below_caller _, X', T'⟩, fun _ _ e => of_hideAll _ e, hideAll_size _ _⟩ ?_ C'.1 C'.2.1 rfl (ghost_list hT9 hL) (ints_all hI) (by omega) ?_
  · intro p hp
    simp only [List.mem_cons, List.not_mem_nil, or_false] at hp
    rcases hp with rfl | rfl
    · exact ⟨hT8 499 (by simp), hid 499 (by simp)⟩
    · exact ⟨hT8 506 (by simp), hid 506 (by simp)⟩
  · intro h' tk' h1 h2 h3
    refine good_true hT9 (fun _ => rfl) ?_ hg (fun q hq => ?_) h3
    · wrow_post
    · simp only [List.mem_cons, List.not_mem_nil, or_false] at hq
      rcases hq with rfl | rfl
      · exact h1
      · exact h2
end Mine
end
theorem PySem.Challenge.cw_pf0197_01_holds : PySem.Challenge.rw_pf0197_01.Holds :=
  Mine.main
