import PyProof.Rows.All
import Wide.All
import OpenK.AllK
import Wide.FinOn
import PySem.Challenge.RW_pf0228_01
set_option Elab.async false
set_option linter.all false
set_option compiler.extract_closed false
set_option maxRecDepth 100000
set_option maxHeartbeats 0
section
open PySem PySem.W PyProof.Rows
set_option Elab.async false
set_option maxRecDepth 100000
set_option maxHeartbeats 0
namespace Mine
open_top hd for PySem.Challenge.rw_pf0228_01
end Mine
end
local macro_rules | `(tactic| k_room) => `(tactic| ktr_room)
section
open PySem PySem.W PyProof.Rows PySem.Calls PySem.Spec
set_option Elab.async false
set_option maxRecDepth 100000
set_option maxHeartbeats 0
namespace Mine
abbrev Led := List (Addr × Obj)
/-- a call of the text's own def, from any frame, over a ledger: what it hands back and what the ledger is then -/
def Meet (w : World) (dep : Nat) (f : Addr) (vs : List Value) (news : Led) (Out : Value → Led → Prop) : Prop :=
  ∀ (dp un : Nat) (gd : Option (List Code)) (cn : Str) (cs : Scope) (a : Addr) (ccd : Value) (cl : List (Str × Addr)) (outer : List Env) (A₀ : Around) (base h₀ hb : Heap) (mg mb : Str → Option Value) (L : Addr) (m : Str → Option Value) (s : Shared) (Q E : Value → Shared → Prop),
    Below A₀ base outer h₀ → Fr h₀ L s.heap m → (hd.heap_39 w.params).In h₀ → News h₀ L s.heap news → Top hd.view_39 (looseW hd.view_39 [Str.ofString "Piece"]) (ExcName.means hb) mg mb h₀ → cs.kind = .function →
    dp + dep < 900 → un + 8 * dep < 900 →
    (∀ v news' h' tk', Fr h₀ L h' m → News h₀ L h' news' → Out v news' → Q v { s with heap := h', toks := tk' }) →
    wpAny (model PySem.Challenge.rw_pf0228_01.row.prog w) (ktrTop dp un gd cn cs L a ccd cl outer) (call (.ref f) vs) Q E s

theorem meet_use {w : World} {dep : Nat} {f : Addr} {vs : List Value} {news : Led} {Out : Value → Led → Prop} {dp un : Nat} {gd : Option (List Code)} {cn : Str} {cs : Scope} {a : Addr} {ccd : Value} {cl : List (Str × Addr)} {outer : List Env} {A₀ : Around} {base h₀ hb : Heap} {mg mb : Str → Option Value} {L : Addr} {m : Str → Option Value} {s : Shared} {Q E : Value → Shared → Prop}
    (C : Meet w dep f vs news Out) (B : Below A₀ base outer h₀) (F : Fr h₀ L s.heap m) (X : (hd.heap_39 w.params).In h₀) (N : News h₀ L s.heap news) (T : Top hd.view_39 (looseW hd.view_39 [Str.ofString "Piece"]) (ExcName.means hb) mg mb h₀) (hk : cs.kind = .function)
    (hd : dp + dep < 900) (hu : un + 8 * dep < 900)
    (hret : ∀ v news' h' tk', Fr h₀ L h' m → News h₀ L h' news' → Out v news' → Q v { s with heap := h', toks := tk' }) :
    wpAny (model PySem.Challenge.rw_pf0228_01.row.prog w) (ktrTop dp un gd cn cs L a ccd cl outer) (call (.ref f) vs) Q E s := C _ _ _ _ _ _ _ _ _ _ _ _ _ _ _ _ _ _ _ _ B F X N T hk hd hu hret
/-- a def that leaves the ledger alone: its body is walked over an empty one -/
theorem code_pure {prog : Program} {w : World} {A₀ A : Around} {s : Shared} {K : Frag} {L : Addr} {h₀ base : Heap} {m mg mb : Str → Option Value} {news : Led} {p : Program} {loose : List Str} {mean : ExcName → Option Value}
    {env : Env} {outer : List Env} {R : Result → Shared → Prop} {name qual : Str} {params : Arguments} {body : List Stmt} {scope : Scope} {dV kV doc pm cdv ct oc : Value} {an od : Option Addr} {osl : Array (Option Value)} {f : Addr} {args : Args} {binds : List (Str × Value)}
    (B : Below A₀ base outer h₀) (F : Fr h₀ L s.heap m) (X₀ : K.In h₀) (N : News h₀ L s.heap news) (T : Top p loose mean mg mb h₀) (hA : A.frames = some (env :: outer)) (hf : env.frame = some L) (hke : env.scope.kind = .function)
    (ho : K.lookup f = some ⟨oc, od, .func (fnOf name qual params body scope dV kV doc pm an cdv ct), osl⟩) (hcd : codeIn K cdv qual = true) (hroom : A.depth < recursionLimit)
    (hbind : BindsTo s (fnOf name qual params body scope dV kV doc pm an cdv ct) args binds) (hloc : ∀ y ∈ binds, scope.names.lookup y.1 = some .local)
    (h : ∀ g L' h₁, Fr h₀ L g m → News h₀ L g news → Fr g L' h₁ (fun y => binds.reverse.lookup y) → News g L' h₁ [] → Below A base (env :: outer) g → K.In g → Top p loose mean mg mb g →
      wpAny (model prog w) (A.deeper (envOf qual scope L' f cdv)) (execs body (envOf qual scope L' f cdv))
        (fun fl s' => LeaveK h₀ L m g (fun r s' => News h₀ L s'.heap news → R r s') (match fl with | .ret v => v | _ => .none) s')
        (fun e s' => wpAny (model prog w) (A.deeper (envOf qual scope L' f cdv)) (leaving (envOf qual scope L' f cdv) e) (fun _ s'' => R (.error e) s'') (fun e' s'' => R (.error e') s'') s')
        { s with heap := h₁, toks := s.toks + binds.length })
    (hco : scope.isCoroutine = false) (hgen : scope.isGenerator = false) (hk : scope.kind = .function)
    (hcell : ∀ x ∈ scope.names, x.2 ≠ .cell) : codeAny (model prog w) A (.call (.ref f) args) R s := by
  obtain ⟨FG, BG, st, lv⟩ := groundX (R := fun r s' => News h₀ L s'.heap news → R r s') B F (News.nil (L := L)) hA hf hke
  refine codeAny_call_def (fd := fnOf name qual params body scope dV kV doc pm an cdv ct) (body := body) (binds := binds) hroom ((X₀.keeps F.keep) _ _ ho) rfl (T.nolimit.keeps F.keep) (codeRec_of (X₀.keeps F.keep) hcd) rfl hbind hcell hloc (fun h₁ hns hk₁ => ?_) hco hgen hk
  refine wpAny_mono (h s.heap s.heap.objs.size h₁ FG N ⟨hns, hk₁, Nat.le_refl _⟩ News.nil BG (X₀.keeps F.keep) (T.keeps F.keep)) (fun fl s' hl => ?_) fun _ _ y => y
  refine lv _ _ hl fun q hq => ?_
  obtain ⟨_, _, _, F', _, _⟩ := hl
  exact ⟨F'.keep _ _ (N q hq).1, (N q hq).2⟩
end Mine
end
section
open PySem PySem.W PyProof.Rows PySem.Calls
set_option Elab.async false
set_option maxRecDepth 100000
set_option maxHeartbeats 0
namespace Mine

abbrev seedObj (a b : Int) (ta tb : Tok) (n : Nat) : Obj := listOf #[.int a ta, .int b tb] n
local macro_rules | `(tactic| k_all) => `(tactic| assumption)
def digitOut (l : Addr) (rest : Led) (many : Int) (v : Value) (news' : Led) : Prop :=
  ∃ (r : Int) (t : Tok) (a' b' : Int) (ta' tb' : Tok) (n' : Nat), v = .int r t ∧ 0 ≤ r ∧ r < many ∧ 0 ≤ a' ∧ 0 ≤ b' ∧ b' < 2147483648 ∧ news' = (l, seedObj a' b' ta' tb' n') :: rest
theorem digit_meets (w : World) (l : Addr) (a b many : Int) (ta tb tm : Tok) (n : Nat) (rest : Led) (hr : ∀ p ∈ rest, p.1 ≠ l) (ha : 0 ≤ a) (hb : 0 ≤ b) (hb2 : b < 2147483648) (hm : 0 < many) (hm2 : many < 257) :
    Meet w 1 141 [.ref l, .int many tm] ((l, seedObj a b ta tb n) :: rest) (digitOut l rest many) := by
  unfold Meet
  k_fill
  w_top off
  intro dp un gd cn cs aa ccd cl outer A₀ base h₀ hb0 mg mb L m s Q E B F X N T hk hdp hun hret
  refine wpAny_call ?_
  k_dflt cell_enter
  k_steps
  · refine hret _ _ _ _ (by assumption) (by assumption) ⟨_, _, _, _, _, _, _, rfl, ?_, ?_, ?_, hb, hb2, rfl⟩
    · exact Int.fmod_nonneg_of_pos _ hm
    · exact Int.fmod_lt_of_pos _ hm
    · exact Int.fdiv_nonneg ha (Int.le_of_lt hm)
  · refine hret _ _ _ _ (by assumption) (by assumption) ⟨_, _, _, _, _, _, _, rfl, ?_, ?_, ha, ?_, ?_, rfl⟩
    · exact Int.fmod_nonneg_of_pos _ hm
    · exact Int.fmod_lt_of_pos _ hm
    · exact Int.fmod_nonneg_of_pos _ (by decide)
    · exact Int.lt_trans (Int.fmod_lt_of_pos _ (by decide)) (by decide)
end Mine
end
section
open PySem PySem.W PyProof.Rows PySem.Calls
set_option Elab.async false
set_option maxRecDepth 100000
set_option maxHeartbeats 0
namespace Mine
def SeedMeet (w : World) (l : Addr) (vs : List Value) (ns : List Int) (news : Led) : Prop :=
  ∀ (dp un : Nat) (gd : Option (List Code)) (cn : Str) (cs : Scope) (a : Addr) (ccd : Value) (cl : List (Str × Addr)) (outer : List Env) (A₀ : Around) (base h₀ hb : Heap) (mg mb : Str → Option Value) (L : Addr) (m : Str → Option Value) (s : Shared) (Q E : Value → Shared → Prop),
    Below A₀ base outer h₀ → Fr h₀ L s.heap m → (hd.heap_39 w.params).In h₀ → News h₀ L s.heap news → Top hd.view_39 (looseW hd.view_39 [Str.ofString "Piece"]) (ExcName.means hb) mg mb h₀ → cs.kind = .function →
    base.IsList l vs.toArray → IntsAre vs ns → ns.length < 2 ^ 62 →
    dp + 1 < 900 → un + 8 < 900 →
    (∀ r ta tb n a b h' tk', Fr h₀ L h' m → News h₀ L h' ((r, seedObj a b ta tb n) :: news) → (∀ p ∈ news, p.1 < r) → 0 ≤ a → 0 ≤ b → b < 2147483648 → Q (.ref r) { s with heap := h', toks := tk' }) →
    wpAny (model PySem.Challenge.rw_pf0228_01.row.prog w) (ktrTop dp un gd cn cs L a ccd cl outer) (call (.ref 134) [.ref l]) Q E s
theorem news_drop2 {h₀ h : Heap} {L : Addr} {x y : Addr × Obj} {r : Led} (N : News h₀ L h (x :: y :: r)) : News h₀ L h (x :: r) := fun p hp => N p (by
  rcases List.mem_cons.mp hp with e | e
  · exact e ▸ .head _
  · exact .tail _ (.tail _ e))
theorem seed_lo (x : Int) : 0 ≤ x.fmod 1000003 + 41 := by
  have := Int.fmod_nonneg_of_pos x (b := 1000003) (by decide)
  omega
theorem seed_hi (x : Int) : x.fmod 1000003 + 41 < 2147483648 := by
  have := Int.fmod_lt_of_pos x (b := 1000003) (by decide)
  omega
local macro_rules | `(tactic| units_room) => `(tactic| ((have hcL' := cLine_is); (try simp only [units_in1, units_deeper, Around.mark_units]); (try dsimp only [ktrTop]); omega))
theorem seed_meets (w : World) (l : Addr) (vs : List Value) (ns : List Int) (news : Led) : SeedMeet w l vs ns news := by
  unfold SeedMeet
  k_fill
  w_top off
  intro dp un gd cn cs aa ccd cl outer A₀ base h₀ hb0 mg mb L m s Q E B F X N T hk hl hi hfit hdp hun hret
  rcases ns with _ | ⟨c, r⟩
  all_goals refine wpAny_call ?_
  all_goals k_dflt cell_enter
  all_goals k_steps
  all_goals (refine hret _ _ _ _ _ _ _ _ (by assumption) (news_drop2 (by assumption)) (ktn_ltOf (And.right (by assumption))) ?_ ?_ ?_)
  all_goals first
    | exact Int.le_refl _
    | omega
    | exact seed_lo _
    | exact seed_hi _
end Mine
end
section
open PySem PySem.W PyProof.Rows PySem.Calls PySem.Spec PyProof.V
set_option Elab.async false
set_option maxRecDepth 100000
set_option maxHeartbeats 0
namespace Mine
def tab : List (Int × String) := [(1, "TEM"), (196, "DHT"), (200, "JPG"), (204, "DAC"), (216, "SOI"), (217, "EOI"), (218, "SOS"), (219, "DQT"), (220, "DNL"), (221, "DRI"), (222, "DHP"), (223, "EXP"), (254, "COM")]
def tabD : List (PyData × PyData) := tab.map fun p => (PyData.int p.1, PyData.str (Str.ofString p.2))
def told : Int → Bool := fun c => tab.any fun p => decide (c = p.1)
def known (c : Int) : Str := Str.ofString (((tab.find? fun p => decide (c = p.1)).map (·.2)).getD "")
theorem kysD_tab {c : Int} {C : PyData → Prop} {N : Prop} : ∀ (t : List (Int × String)), ((t.any fun p => decide (c = p.1)) = true → C (.str (Str.ofString (((t.find? fun p => decide (c = p.1)).map (·.2)).getD "")))) → ((t.any fun p => decide (c = p.1)) = false → N) →
    KysD PyData.int c (t.map fun p => (PyData.int p.1, PyData.str (Str.ofString p.2))) C N
  | [], _, h2 => kysD_nil (h2 rfl)
  | p :: r, h1, h2 => by
    rw [List.map_cons]
    by_cases e : c = p.1
    · refine kysD_cons_hit same_int e ?_
      simpa [e] using h1
    · refine kysD_cons_miss same_int e (kysD_tab r ?_ ?_)
      · intro h
        have := h1 (by simp only [List.any_cons, h, Bool.or_true])
        simpa [List.find?_cons, e] using this
      · intro h
        exact h2 (by simp only [List.any_cons, h, Bool.or_false, decide_eq_false e])
theorem kysD_known {c : Int} {C : PyData → Prop} {N : Prop} (h1 : told c = true → C (.str (known c))) (h2 : told c = false → N) : KysD PyData.int c tabD C N := kysD_tab tab h1 h2



def nameOf (c : Int) : Str :=
  if told c = true then known c else if 192 ≤ c ∧ c ≤ 207 then Str.ofString "SOF" ++ Str.ofString (toString (c - 192))
  else if 208 ≤ c ∧ c ≤ 215 then Str.ofString "RST" ++ Str.ofString (toString (c - 208)) else if 224 ≤ c ∧ c ≤ 239 then Str.ofString "APP" ++ Str.ofString (toString (c - 224))
  else if 240 ≤ c ∧ c ≤ 253 then Str.ofString "JPG" ++ Str.ofString (toString (c - 240)) else Str.ofString "RES" ++ Str.ofString (toString c)
theorem nm_known {c : Int} (h : told c = true) : known c = nameOf c := by unfold nameOf; rw [if_pos h]
theorem nm_sof {c : Int} (h : told c = false) (h1 : 192 ≤ c ∧ c ≤ 207) : Str.ofString "SOF" ++ Str.ofString (toString (c - 192)) = nameOf c := by
  unfold nameOf; rw [if_neg (by rw [h]; decide), if_pos h1]
theorem nm_rst {c : Int} (h : told c = false) (h1 : 208 ≤ c ∧ c ≤ 215) : Str.ofString "RST" ++ Str.ofString (toString (c - 208)) = nameOf c := by
  unfold nameOf; rw [if_neg (by rw [h]; decide), if_neg (by omega), if_pos h1]
theorem nm_app {c : Int} (h : told c = false) (h1 : 224 ≤ c ∧ c ≤ 239) : Str.ofString "APP" ++ Str.ofString (toString (c - 224)) = nameOf c := by
  unfold nameOf; rw [if_neg (by rw [h]; decide), if_neg (by omega), if_neg (by omega), if_pos h1]
theorem nm_jpg {c : Int} (h : told c = false) (h1 : 240 ≤ c ∧ c ≤ 253) : Str.ofString "JPG" ++ Str.ofString (toString (c - 240)) = nameOf c := by
  unfold nameOf; rw [if_neg (by rw [h]; decide), if_neg (by omega), if_neg (by omega), if_neg (by omega), if_pos h1]
theorem nm_res {c : Int} (h : told c = false) (h1 : ¬ (192 ≤ c ∧ c ≤ 207)) (h2 : ¬ (208 ≤ c ∧ c ≤ 215)) (h3 : ¬ (224 ≤ c ∧ c ≤ 239)) (h4 : ¬ (240 ≤ c ∧ c ≤ 253)) : Str.ofString "RES" ++ Str.ofString (toString c) = nameOf c := by
  unfold nameOf; rw [if_neg (by rw [h]; decide), if_neg h1, if_neg h2, if_neg h3, if_neg h4]
/-- a text, and the ledger as it was -/
def strOut (x : Str) (news : Led) (v : Value) (news' : Led) : Prop := (∃ t, v = .str x t) ∧ news' = news
def boolOut (x : Bool) (news : Led) (v : Value) (news' : Led) : Prop := v = .bool x ∧ news' = news
theorem strOut_of {x y : Str} {t : Tok} {news : Led} (e : y = x) : strOut x news (.str y t) news := ⟨⟨t, by rw [e]⟩, rfl⟩
theorem boolOut_of {x y : Bool} {news : Led} (e : y = x) : boolOut x news (.bool y) news := ⟨by rw [e], rfl⟩
theorem name_meets (w : World) (c : Int) (tc : Tok) (news : Led) (hc : 0 ≤ c) (hc2 : c < 256) : Meet w 1 72 [.int c tc] news (strOut (nameOf c) news) := by
  unfold Meet
  k_fill
  w_top off
  intro dp un gd cn cs aa ccd cl outer A₀ base h₀ hb0 mg mb L m s Q E B F X N T hk hdp hun hret
  refine wpAny_call ?_
  k_dflt (refine' code_pure ?k1 ?k2 ?k3 ?k4 ?k5 ?kA ?kF ?kK ?k6 ?k7 ?k8 ?k9 ?kB ?_ ?c2 ?c3 ?c4 ?c5; (case kA => exact rfl); (case kF => exact rfl); (case kK => assumption); (case k1 => k_asm); (case k2 => k_asm); (case k3 => k_asm); (case k4 => k_asm); (case k5 => k_asm); (case k6 => k_is); (case k7 => k_is); (case k8 => ktr_room); (case k9 => exact BindsTo.of_eq rfl); (case c5 => decide); (case kB => exact locs rfl); (case c2 => exact rfl); (case c3 => exact rfl); (case c4 => exact rfl); k_whole; intro g' L' h' FG' NG' F' N' B' X' T'; (try dsimp only); (try k_fold))
  clear N NG'
  (repeat' (first | (k_unfold; (try dsimp only)) | (k_end; wrow_close) | (with_reducible ((k_here; (with_reducible show wpAny _ _ (subscriptTail _ _ (Value.ref _) (Value.int _ _)) _ _ _); k_dflt (refine kys_item (knd := PySem.intKind _ _) (enc := PyData.int) (D := tabD) PyProof.V.same_int (intKind_is _ _ _ _) (by k_tabat) ?_); refine kysD_known (fun _ => ?_) (fun hc' => absurd hc' (by simp only [*, Bool.true_eq_false, not_false_eq_true]))))) | ((with_reducible show wpAny _ _ (compareOp CmpOp.In (Value.int ..) (Value.ref ..)) _ _ _); (with_reducible ((k_here; k_dflt (refine kys_in (knd := PySem.intKind _ _) (enc := PyData.int) (D := tabD) PyProof.V.same_int (intKind_is _ _ _ _) (by k_tabat) ?_); refine kysD_known ?_ ?_ <;> intro hcpzq)))) | ((with_reducible show wpAny _ _ (eval (PySem.Expr.Dict ..) _) _ _ _); (with_reducible ((k_here; k_dflt ( refine' kdn_eval (knd := PySem.intKind PySem.Challenge.rw_pf0228_01.row.prog _) ?FT1 ?NT1 ?bT1 ?aT1 ?lT1 ?eT1 ?nT1 ?_; (case FT1 => k_asm); (case NT1 => k_asm); (case bT1 => exact Top.nolimit (by k_asm)); (case aT1 => rfl); (case lT1 => rfl); (case eT1 => exact List.cons_ne_nil _ _); (case nT1 => exact Nat.le_of_ble_eq_true rfl)); intro dpzq hpzq opzq Fpzq Npzq l1zq lopzq hdpzq; (try k_lt l1zq))))) | walk1 | (dsimp only; (first | (with_reducible ((k_here; (with_reducible show wpAny _ _ (subscriptTail _ _ (Value.ref _) (Value.int _ _)) _ _ _); k_dflt (refine kys_item (knd := PySem.intKind _ _) (enc := PyData.int) (D := tabD) PyProof.V.same_int (intKind_is _ _ _ _) (by k_tabat) ?_); refine kysD_known (fun _ => ?_) (fun hc' => absurd hc' (by simp only [*, Bool.true_eq_false, not_false_eq_true]))))) | ((with_reducible show wpAny _ _ (compareOp CmpOp.In (Value.int ..) (Value.ref ..)) _ _ _); (with_reducible ((k_here; k_dflt (refine kys_in (knd := PySem.intKind _ _) (enc := PyData.int) (D := tabD) PyProof.V.same_int (intKind_is _ _ _ _) (by k_tabat) ?_); refine kysD_known ?_ ?_ <;> intro hcpzq)))) | ((with_reducible show wpAny _ _ (eval (PySem.Expr.Dict ..) _) _ _ _); (with_reducible ((k_here; k_dflt ( refine' kdn_eval (knd := PySem.intKind PySem.Challenge.rw_pf0228_01.row.prog _) ?FT1 ?NT1 ?bT1 ?aT1 ?lT1 ?eT1 ?nT1 ?_; (case FT1 => k_asm); (case NT1 => k_asm); (case bT1 => exact Top.nolimit (by k_asm)); (case aT1 => rfl); (case lT1 => rfl); (case eT1 => exact List.cons_ne_nil _ _); (case nT1 => exact Nat.le_of_ble_eq_true rfl)); intro dpzq hpzq opzq Fpzq Npzq l1zq lopzq hdpzq; (try k_lt l1zq))))) | walk1)) | (leave1; walk_say "STEP leave1"; try dsimp only) | fail "no step"))
  all_goals (refine hret _ news _ _ (by with_reducible assumption) (by with_reducible assumption) (strOut_of ?_))
  all_goals clear hret
  all_goals first
    | (with_reducible refine nm_known ?_); with_reducible assumption
    | (with_reducible refine nm_sof ?_ ?_); (with_reducible assumption); omega
    | (with_reducible refine nm_rst ?_ ?_); (with_reducible assumption); omega
    | (with_reducible refine nm_app ?_ ?_); (with_reducible assumption); omega
    | (with_reducible refine nm_jpg ?_ ?_); (with_reducible assumption); omega
    | (with_reducible refine nm_res ?_ ?_ ?_ ?_ ?_); (with_reducible assumption); omega; omega; omega; omega
end Mine
end
section
open PySem PySem.W PyProof.Rows PySem.Calls PySem.Spec PyProof.V
set_option Elab.async false
set_option maxRecDepth 100000
set_option maxHeartbeats 0
namespace Mine




theorem lname_meets (w : World) (c : Int) (tc : Tok) (news : Led) (hc : 0 ≤ c) (hc2 : c < 256) : Meet w 2 155 [.int c tc] news (strOut (nameOf c) news) := by
  unfold Meet
  k_fill
  w_top off
  intro dp un gd cn cs aa ccd cl outer A₀ base h₀ hb0 mg mb L m s Q E B F X N T hk hdp hun hret
  refine wpAny_call ?_
  k_dflt (refine' code_pure ?k1 ?k2 ?k3 ?k4 ?k5 ?kA ?kF ?kK ?k6 ?k7 ?k8 ?k9 ?kB ?_ ?c2 ?c3 ?c4 ?c5; (case kA => exact rfl); (case kF => exact rfl); (case kK => assumption); (case k1 => k_asm); (case k2 => k_asm); (case k3 => k_asm); (case k4 => k_asm); (case k5 => k_asm); (case k6 => k_is); (case k7 => k_is); (case k8 => ktr_room); (case k9 => exact BindsTo.of_eq rfl); (case c5 => decide); (case kB => exact locs rfl); (case c2 => exact rfl); (case c3 => exact rfl); (case c4 => exact rfl); k_whole; intro g' L' h' FG' NG' F' N' B' X' T'; (try dsimp only); (try k_fold))
  clear N NG'
  (repeat' (first | (k_unfold; (try dsimp only)) | (k_end; wrow_close) | ((with_reducible show wpAny _ _ (getItem (Value.ref ..) (Value.int ..)) _ _ _); (with_reducible ((k_here; k_dflt (refine kys_getItem (knd := PySem.intKind _ _) (enc := PyData.int) (D := tabD) PyProof.V.same_int (intKind_is _ _ _ _) (by k_tabat) ?_); refine kysD_known (fun _ => ?_) (fun hc' => absurd hc' (by simp only [*, Bool.true_eq_false, not_false_eq_true])))))) | (with_reducible ((k_here; (with_reducible show wpAny _ _ (subscriptTail _ _ (Value.ref _) (Value.int _ _)) _ _ _); k_dflt (refine kys_item (knd := PySem.intKind _ _) (enc := PyData.int) (D := tabD) PyProof.V.same_int (intKind_is _ _ _ _) (by k_tabat) ?_); refine kysD_known (fun _ => ?_) (fun hc' => absurd hc' (by simp only [*, Bool.true_eq_false, not_false_eq_true]))))) | ((with_reducible show wpAny _ _ (compareOp CmpOp.In (Value.int ..) (Value.ref ..)) _ _ _); (with_reducible ((k_here; k_dflt (refine kys_in (knd := PySem.intKind _ _) (enc := PyData.int) (D := tabD) PyProof.V.same_int (intKind_is _ _ _ _) (by k_tabat) ?_); refine kysD_known ?_ ?_ <;> intro hcpzq)))) | ((with_reducible show wpAny _ _ (eval (PySem.Expr.Dict ..) _) _ _ _); (with_reducible ((k_here; k_dflt ( refine' kdn_eval (knd := PySem.intKind PySem.Challenge.rw_pf0228_01.row.prog _) ?FT4 ?NT4 ?bT4 ?aT4 ?lT4 ?eT4 ?nT4 ?_; (case FT4 => k_asm); (case NT4 => k_asm); (case bT4 => exact Top.nolimit (by k_asm)); (case aT4 => rfl); (case lT4 => rfl); (case eT4 => exact List.cons_ne_nil _ _); (case nT4 => exact Nat.le_of_ble_eq_true rfl)); intro dpzq hpzq opzq Fpzq Npzq l1zq lopzq hdpzq; (try k_lt l1zq))))) | walk1 | (dsimp only; (first | ((with_reducible show wpAny _ _ (getItem (Value.ref ..) (Value.int ..)) _ _ _); (with_reducible ((k_here; k_dflt (refine kys_getItem (knd := PySem.intKind _ _) (enc := PyData.int) (D := tabD) PyProof.V.same_int (intKind_is _ _ _ _) (by k_tabat) ?_); refine kysD_known (fun _ => ?_) (fun hc' => absurd hc' (by simp only [*, Bool.true_eq_false, not_false_eq_true])))))) | (with_reducible ((k_here; (with_reducible show wpAny _ _ (subscriptTail _ _ (Value.ref _) (Value.int _ _)) _ _ _); k_dflt (refine kys_item (knd := PySem.intKind _ _) (enc := PyData.int) (D := tabD) PyProof.V.same_int (intKind_is _ _ _ _) (by k_tabat) ?_); refine kysD_known (fun _ => ?_) (fun hc' => absurd hc' (by simp only [*, Bool.true_eq_false, not_false_eq_true]))))) | ((with_reducible show wpAny _ _ (compareOp CmpOp.In (Value.int ..) (Value.ref ..)) _ _ _); (with_reducible ((k_here; k_dflt (refine kys_in (knd := PySem.intKind _ _) (enc := PyData.int) (D := tabD) PyProof.V.same_int (intKind_is _ _ _ _) (by k_tabat) ?_); refine kysD_known ?_ ?_ <;> intro hcpzq)))) | ((with_reducible show wpAny _ _ (eval (PySem.Expr.Dict ..) _) _ _ _); (with_reducible ((k_here; k_dflt ( refine' kdn_eval (knd := PySem.intKind PySem.Challenge.rw_pf0228_01.row.prog _) ?FT4 ?NT4 ?bT4 ?aT4 ?lT4 ?eT4 ?nT4 ?_; (case FT4 => k_asm); (case NT4 => k_asm); (case bT4 => exact Top.nolimit (by k_asm)); (case aT4 => rfl); (case lT4 => rfl); (case eT4 => exact List.cons_ne_nil _ _); (case nT4 => exact Nat.le_of_ble_eq_true rfl)); intro dpzq hpzq opzq Fpzq Npzq l1zq lopzq hdpzq; (try k_lt l1zq))))) | walk1)) | (leave1; walk_say "STEP leave1"; try dsimp only) | fail "no step"))
  all_goals (refine hret _ news _ _ (by with_reducible assumption) (by with_reducible assumption) (strOut_of ?_))
  all_goals clear hret
  all_goals first
    | (with_reducible refine nm_known ?_); with_reducible assumption
    | (with_reducible refine nm_sof ?_ ?_); (with_reducible assumption); omega
    | (with_reducible refine nm_rst ?_ ?_); (with_reducible assumption); omega
    | (with_reducible refine nm_app ?_ ?_); (with_reducible assumption); omega
    | (with_reducible refine nm_jpg ?_ ?_); (with_reducible assumption); omega
    | (with_reducible refine nm_res ?_ ?_ ?_ ?_ ?_); (with_reducible assumption); omega; omega; omega; omega
end Mine
end
section
open PySem PySem.W PyProof.Rows PySem.Calls PySem.Spec PyProof.V
set_option Elab.async false
set_option maxRecDepth 100000
set_option maxHeartbeats 0
namespace Mine
def frameOf (c : Int) : Bool := decide (192 ≤ c) && (decide (c ≤ 207) && !([196, 200, 204].any fun x => x == c))
def restOf (c : Int) : Bool := decide (208 ≤ c) && decide (c ≤ 208 + 7)
def hasOf (c : Int) : Bool := !([216, 217, 1].any fun x => x == c) && !(restOf c)
theorem fr1 {c : Int} (h1 : 192 ≤ c) (h2 : c ≤ 207) : (!([196, 200, 204].any fun x => x == c)) = frameOf c := by rw [frameOf, decide_eq_true h1, decide_eq_true h2]; rfl
theorem fr2 {c : Int} (h1 : 192 ≤ c) (h2 : ¬ c ≤ 207) : decide (c ≤ 207) = frameOf c := by rw [frameOf, decide_eq_true h1, decide_eq_false h2]; rfl
theorem fr3 {c : Int} (h1 : ¬ 192 ≤ c) : decide (192 ≤ c) = frameOf c := by rw [frameOf, decide_eq_false h1]; rfl
theorem rs1 {c : Int} (h1 : 208 ≤ c) : decide (c ≤ 208 + 7) = restOf c := by rw [restOf, decide_eq_true h1]; rfl
theorem rs2 {c : Int} (h1 : ¬ 208 ≤ c) : decide (208 ≤ c) = restOf c := by rw [restOf, decide_eq_false h1]; rfl
theorem hs1 {c : Int} (h : ([216, 217, 1].any fun x => x == c) = true) : (!([216, 217, 1].any fun x => x == c)) = hasOf c := by rw [hasOf, h]; rfl
theorem hs2 {c : Int} (h : ([216, 217, 1].any fun x => x == c) = false) (h1 : 208 ≤ c) : (!decide (c ≤ 208 + 7)) = hasOf c := by rw [hasOf, h, ← rs1 h1]; rfl
theorem hs3 {c : Int} (h : ([216, 217, 1].any fun x => x == c) = false) (h1 : ¬ 208 ≤ c) : (!decide (208 ≤ c)) = hasOf c := by rw [hasOf, h, ← rs2 h1]; rfl
theorem frame_meets (w : World) (c : Int) (tc : Tok) (news : Led) : Meet w 1 79 [.int c tc] news (boolOut (frameOf c) news) := by
  unfold Meet
  k_fill
  w_top off
  intro dp un gd cn cs aa ccd cl outer A₀ base h₀ hb0 mg mb L m s Q E B F X N T hk hdp hun hret
  refine wpAny_call ?_
  k_dflt (refine' code_pure ?k1 ?k2 ?k3 ?k4 ?k5 ?kA ?kF ?kK ?k6 ?k7 ?k8 ?k9 ?kB ?_ ?c2 ?c3 ?c4 ?c5; (case kA => exact rfl); (case kF => exact rfl); (case kK => assumption); (case k1 => k_asm); (case k2 => k_asm); (case k3 => k_asm); (case k4 => k_asm); (case k5 => k_asm); (case k6 => k_is); (case k7 => k_is); (case k8 => ktr_room); (case k9 => exact BindsTo.of_eq rfl); (case c5 => decide); (case kB => exact locs rfl); (case c2 => exact rfl); (case c3 => exact rfl); (case c4 => exact rfl); k_whole; intro g' L' h' FG' NG' F' N' B' X' T'; (try dsimp only); (try k_fold))
  clear N NG'
  k_steps
  all_goals (refine hret _ news _ _ (by with_reducible assumption) (by with_reducible assumption) (boolOut_of ?_))
  all_goals clear hret
  all_goals first
    | (with_reducible refine fr1 ?_ ?_) <;> with_reducible assumption
    | (with_reducible refine fr2 ?_ ?_) <;> with_reducible assumption
    | (with_reducible refine fr3 ?_) <;> with_reducible assumption
theorem restart_meets (w : World) (c : Int) (tc : Tok) (news : Led) : Meet w 1 86 [.int c tc] news (boolOut (restOf c) news) := by
  unfold Meet
  k_fill
  w_top off
  intro dp un gd cn cs aa ccd cl outer A₀ base h₀ hb0 mg mb L m s Q E B F X N T hk hdp hun hret
  refine wpAny_call ?_
  k_dflt (refine' code_pure ?k1 ?k2 ?k3 ?k4 ?k5 ?kA ?kF ?kK ?k6 ?k7 ?k8 ?k9 ?kB ?_ ?c2 ?c3 ?c4 ?c5; (case kA => exact rfl); (case kF => exact rfl); (case kK => assumption); (case k1 => k_asm); (case k2 => k_asm); (case k3 => k_asm); (case k4 => k_asm); (case k5 => k_asm); (case k6 => k_is); (case k7 => k_is); (case k8 => ktr_room); (case k9 => exact BindsTo.of_eq rfl); (case c5 => decide); (case kB => exact locs rfl); (case c2 => exact rfl); (case c3 => exact rfl); (case c4 => exact rfl); k_whole; intro g' L' h' FG' NG' F' N' B' X' T'; (try dsimp only); (try k_fold))
  clear N NG'
  k_steps
  all_goals (refine hret _ news _ _ (by with_reducible assumption) (by with_reducible assumption) (boolOut_of ?_))
  all_goals clear hret
  all_goals first
    | (with_reducible refine rs1 ?_) <;> with_reducible assumption
    | (with_reducible refine rs2 ?_) <;> with_reducible assumption
theorem has_meets (w : World) (c : Int) (tc : Tok) (news : Led) : Meet w 2 93 [.int c tc] news (boolOut (hasOf c) news) := by
  unfold Meet
  k_fill
  w_top off
  intro dp un gd cn cs aa ccd cl outer A₀ base h₀ hb0 mg mb L m s Q E B F X N T hk hdp hun hret
  refine wpAny_call ?_
  k_dflt (refine' code_pure ?k1 ?k2 ?k3 ?k4 ?k5 ?kA ?kF ?kK ?k6 ?k7 ?k8 ?k9 ?kB ?_ ?c2 ?c3 ?c4 ?c5; (case kA => exact rfl); (case kF => exact rfl); (case kK => assumption); (case k1 => k_asm); (case k2 => k_asm); (case k3 => k_asm); (case k4 => k_asm); (case k5 => k_asm); (case k6 => k_is); (case k7 => k_is); (case k8 => ktr_room); (case k9 => exact BindsTo.of_eq rfl); (case c5 => decide); (case kB => exact locs rfl); (case c2 => exact rfl); (case c3 => exact rfl); (case c4 => exact rfl); k_whole; intro g' L' h' FG' NG' F' N' B' X' T'; (try dsimp only); (try k_fold))
  clear N NG'
  k_steps
  all_goals (refine hret _ news _ _ (by with_reducible assumption) (by with_reducible assumption) (boolOut_of ?_))
  all_goals clear hret
  all_goals first
    | (with_reducible refine hs1 ?_) <;> with_reducible assumption
    | (with_reducible refine hs2 ?_ ?_) <;> with_reducible assumption
    | (with_reducible refine hs3 ?_ ?_) <;> with_reducible assumption
end Mine
end
section
open PySem PySem.W PyProof.Rows PySem.Calls PySem.Spec PyProof.V
set_option Elab.async false
set_option maxRecDepth 100000
set_option maxHeartbeats 0
namespace Mine
def okAt (c : Int) : Bool := decide ((nameOf c).length ≤ 6) && PyData.strOk (nameOf c) && ((Txt.slice (nameOf c) none (some 3) == Str.ofString "SOF") == frameOf c) && ((Txt.slice (nameOf c) none (some 3) == Str.ofString "RST") == restOf c) &&
  ((![Str.ofString "RST", Str.ofString "SOI", Str.ofString "EOI", Str.ofString "TEM"].any fun x => x == Txt.slice (nameOf c) none (some 3)) == hasOf c)
theorem okAt_all : (List.range 256).all (fun k => okAt (k : Int)) = true := by decide +kernel
theorem okAt_of {c : Int} (h : 0 ≤ c) (h' : c < 256) : okAt c = true := by
  have := List.all_eq_true.mp okAt_all c.toNat (List.mem_range.mpr (by omega))
  rwa [Int.toNat_of_nonneg h] at this
theorem nameOf_len {c : Int} (h : 0 ≤ c) (h' : c < 256) : (nameOf c).length ≤ 6 := by
  have := okAt_of h h'
  simp only [okAt, Bool.and_eq_true, decide_eq_true_eq] at this
  exact this.1.1.1.1
theorem nameOf_ok {c : Int} (h : 0 ≤ c) (h' : c < 256) : PyData.strOk (nameOf c) = true := by
  have := okAt_of h h'
  simp only [okAt, Bool.and_eq_true, decide_eq_true_eq] at this
  exact this.1.1.1.2
abbrev toldObj (c : Int) (t : Tok) (n : Nat) : Obj := listOf #[.str (nameOf c) t, .bool (frameOf c), .bool (restOf c), .bool (hasOf c)] n
theorem toldObj_of {c : Int} (h : 0 ≤ c) (h' : c < 256) {t : Tok} {n : Nat} : listOf #[.str (nameOf c) t, .bool (Txt.slice (nameOf c) none (some 3) == Str.ofString "SOF"), .bool (Txt.slice (nameOf c) none (some 3) == Str.ofString "RST"),
    .bool (![Str.ofString "RST", Str.ofString "SOI", Str.ofString "EOI", Str.ofString "TEM"].any fun x => x == Txt.slice (nameOf c) none (some 3))] n = toldObj c t n := by
  have := okAt_of h h'
  simp only [okAt, Bool.and_eq_true, decide_eq_true_eq, beq_iff_eq] at this
  obtain ⟨⟨⟨_, h1⟩, h2⟩, h3⟩ := this
  rw [toldObj, h1, h2, h3]
def toldOut (c : Int) (news : Led) (v : Value) (news' : Led) : Prop := ∃ r t n, v = .ref r ∧ news' = (r, toldObj c t n) :: news
theorem news_one {h₀ h : Heap} {L : Addr} {p : Addr × Obj} {o : Obj} {r news : Led} (N : News h₀ L h (p :: r)) (P : News h₀ L h news) (e : p.2 = o) : News h₀ L h ((p.1, o) :: news) := fun q hq => by
  rcases List.mem_cons.mp hq with x | x
  · subst x; subst e; exact N _ (.head _)
  · exact P q x

theorem told_meets (w : World) (c : Int) (tc : Tok) (news : Led) (hc : 0 ≤ c) (hc2 : c < 256) : Meet w 3 162 [.int c tc] news (toldOut c news) := by
  unfold Meet
  k_fill
  w_top off
  intro dp un gd cn cs aa ccd cl outer A₀ base h₀ hb0 mg mb L m s Q E B F X N T hk hdp hun hret
  refine wpAny_call ?_
  k_dflt (refine' code_pure ?k1 ?k2 ?k3 ?k4 ?k5 ?kA ?kF ?kK ?k6 ?k7 ?k8 ?k9 ?kB ?_ ?c2 ?c3 ?c4 ?c5; (case kA => exact rfl); (case kF => exact rfl); (case kK => assumption); (case k1 => k_asm); (case k2 => k_asm); (case k3 => k_asm); (case k4 => k_asm); (case k5 => k_asm); (case k6 => k_is); (case k7 => k_is); (case k8 => ktr_room); (case k9 => exact BindsTo.of_eq rfl); (case c5 => decide); (case kB => exact locs rfl); (case c2 => exact rfl); (case c3 => exact rfl); (case c4 => exact rfl); k_whole; intro g' L' h' FG' NG' F' N' B' X' T'; (try dsimp only); (try k_fold))
  clear N NG'
  (repeat' (first | (k_unfold; (try dsimp only)) | (k_end; wrow_close) | ((with_reducible show wpAny _ _ (call (Value.ref _) _) _ _ _); ((k_here; (with_reducible show wpAny _ _ (call (Value.ref 155) _) _ _ _); k_dflt ( refine' meet_use (lname_meets _ _ _ _ (by assumption) (by assumption)) ?k1T8 ?k2T8 ?k3T8 ?k4T8 ?k5T8 ?kKT8 ?kdT8 ?kuT8 ?_; (case k1T8 => k_asm); (case k2T8 => k_asm); (case k3T8 => k_asm); (case k4T8 => k_asm); (case k5T8 => k_asm); (case kKT8 => first | exact rfl | assumption); (case kdT8 => ((try simp only [depth_under_make, depth_under_kw, depth_in1, depth_deeper, depth_caller]); (try dsimp only [ktrTop]); omega)); (case kuT8 => ((try simp only [units_in1, units_deeper, Around.mark_units, units_caller]); (try dsimp only [ktrTop]); omega))); intro v9zq n9zq h9zq tk9zq F9zq N9zq o9zq; obtain ⟨⟨t9zq, e9zq⟩, e8zq⟩ := o9zq; subst e9zq; subst e8zq; (have hl9 := nameOf_len (by assumption) (by assumption)); (try dsimp only); (try k_sweep); (try k_fold)))) | walk1 | (dsimp only; (first | ((with_reducible show wpAny _ _ (call (Value.ref _) _) _ _ _); ((k_here; (with_reducible show wpAny _ _ (call (Value.ref 155) _) _ _ _); k_dflt ( refine' meet_use (lname_meets _ _ _ _ (by assumption) (by assumption)) ?k1T8 ?k2T8 ?k3T8 ?k4T8 ?k5T8 ?kKT8 ?kdT8 ?kuT8 ?_; (case k1T8 => k_asm); (case k2T8 => k_asm); (case k3T8 => k_asm); (case k4T8 => k_asm); (case k5T8 => k_asm); (case kKT8 => first | exact rfl | assumption); (case kdT8 => ((try simp only [depth_under_make, depth_under_kw, depth_in1, depth_deeper, depth_caller]); (try dsimp only [ktrTop]); omega)); (case kuT8 => ((try simp only [units_in1, units_deeper, Around.mark_units, units_caller]); (try dsimp only [ktrTop]); omega))); intro v9zq n9zq h9zq tk9zq F9zq N9zq o9zq; obtain ⟨⟨t9zq, e9zq⟩, e8zq⟩ := o9zq; subst e9zq; subst e8zq; (have hl9 := nameOf_len (by assumption) (by assumption)); (try dsimp only); (try k_sweep); (try k_fold)))) | walk1)) | (leave1; walk_say "STEP leave1"; try dsimp only) | fail "no step"))
  refine hret _ _ _ _ (by with_reducible assumption) (news_one (by with_reducible assumption) (by with_reducible assumption) (toldObj_of hc hc2)) ⟨_, _, _, rfl, rfl⟩
end Mine
end
section
open PySem PySem.W PyProof.Rows PySem.Calls PySem.Spec
set_option Elab.async false
set_option maxRecDepth 100000
set_option maxHeartbeats 0
namespace Mine
section
variable {prog : Program} {w : World} {A₀ A : Around} {s : Shared} {K : Frag} {L : Addr} {h₀ base : Heap} {m mg mb : Str → Option Value} {own rest : Led} {p : Program} {loose : List Str} {mean : ExcName → Option Value}
  {env : Env} {outer : List Env} {R : Result → Shared → Prop} {name qual : Str} {params : Arguments} {body : List Stmt} {scope : Scope} {dV kV doc pm cdv ct oc : Value} {an od : Option Addr} {osl : Array (Option Value)} {f : Addr} {args : Args} {binds : List (Str × Value)}
theorem kept_rest {h' : Heap} {L' : Addr} {m' : Str → Option Value} (N : News h₀ L s.heap (own ++ rest)) (off : ∀ q ∈ rest, q.1 ∉ own.map (·.1)) (F' : Fr (hideAll s.heap (own.map (·.1))) L' h' m') : News h₀ L h' rest := fun q hq =>
  ⟨F'.keep _ _ (hideAll_get _ (N q (List.mem_append_right _ hq)).1 (off q hq)), (N q (List.mem_append_right _ hq)).2⟩
/-- a def that touches «own» alone: its body is walked over it; «rest» stands by -/
theorem code_keep (B : Below A₀ base outer h₀) (F : Fr h₀ L s.heap m) (X₀ : K.In h₀) (N : News h₀ L s.heap (own ++ rest)) (off : ∀ q ∈ rest, q.1 ∉ own.map (·.1)) (T : Top p loose mean mg mb h₀) (hA : A.frames = some (env :: outer)) (hf : env.frame = some L) (hke : env.scope.kind = .function)
    (ho : K.lookup f = some ⟨oc, od, .func (fnOf name qual params body scope dV kV doc pm an cdv ct), osl⟩) (hcd : codeIn K cdv qual = true) (hroom : A.depth < recursionLimit)
    (hbind : BindsTo s (fnOf name qual params body scope dV kV doc pm an cdv ct) args binds) (hloc : ∀ y ∈ binds, scope.names.lookup y.1 = some .local)
    (h : ∀ g L' h₁, Fr h₀ L g m → News h₀ L g rest → Fr g L' h₁ (fun y => binds.reverse.lookup y) → News g L' h₁ own → Below A base (env :: outer) g → K.In g → Top p loose mean mg mb g → (∀ q ∈ own, q.1 < L') → (∀ q ∈ rest, q.1 < L') →
      wpAny (model prog w) (A.deeper (envOf qual scope L' f cdv)) (execs body (envOf qual scope L' f cdv))
        (fun fl s' => LeaveK h₀ L m g (fun r s' => News h₀ L s'.heap rest → R r s') (match fl with | .ret v => v | _ => .none) s')
        (fun e s' => wpAny (model prog w) (A.deeper (envOf qual scope L' f cdv)) (leaving (envOf qual scope L' f cdv) e) (fun _ s'' => R (.error e) s'') (fun e' s'' => R (.error e') s'') s')
        { s with heap := h₁, toks := s.toks + binds.length })
    (hco : scope.isCoroutine = false) (hgen : scope.isGenerator = false) (hk : scope.kind = .function)
    (hcell : ∀ x ∈ scope.names, x.2 ≠ .cell) : codeAny (model prog w) A (.call (.ref f) args) R s := by
  have No : News h₀ L s.heap own := fun q hq => N q (List.mem_append_left _ hq)
  obtain ⟨FG, BG, st, lv⟩ := groundX (R := fun r s' => News h₀ L s'.heap rest → R r s') B F No hA hf hke
  refine codeAny_call_def (fd := fnOf name qual params body scope dV kV doc pm an cdv ct) (body := body) (binds := binds) hroom ((X₀.keeps F.keep) _ _ ho) rfl (T.nolimit.keeps F.keep) (codeRec_of (X₀.keeps F.keep) hcd) rfl hbind hcell hloc (fun h₁ hns hk₁ => ?_) hco hgen hk
  refine wpAny_mono (h (hideAll s.heap (own.map (·.1))) s.heap.objs.size h₁ FG (fun q hq => ⟨hideAll_get _ (N q (List.mem_append_right _ hq)).1 (off q hq), (N q (List.mem_append_right _ hq)).2⟩) ⟨hns, fun b o e => hk₁ b o (of_hideAll _ e), Nat.le_of_eq (hideAll_size _ _)⟩
    (fun q hq => ⟨hk₁ _ _ (No q hq).1, Nat.ne_of_lt (Heap.lt_size (No q hq).1), hideAll_none _ (List.mem_map_of_mem hq)⟩) BG (X₀.keeps fun b o e => st b o e) (T.keeps fun b o e => st b o e) (fun q hq => Heap.lt_size (No q hq).1) (fun q hq => Heap.lt_size (N q (List.mem_append_right _ hq)).1)) (fun fl s' hl => ?_) fun _ _ y => y
  refine lv _ _ hl ?_
  obtain ⟨_, _, _, F', _, _⟩ := hl
  exact kept_rest N off F'
/-- the same where the def's names are captured -/
theorem code_keepC (B : Below A₀ base outer h₀) (F : Fr h₀ L s.heap m) (X₀ : K.In h₀) (N : News h₀ L s.heap (own ++ rest)) (off : ∀ q ∈ rest, q.1 ∉ own.map (·.1)) (T : Top p loose mean mg mb h₀) (hA : A.frames = some (env :: outer)) (hf : env.frame = some L) (hke : env.scope.kind = .function)
    (ho : K.lookup f = some ⟨oc, od, .func (fnOf name qual params body scope dV kV doc pm an cdv ct), osl⟩) (hcd : codeIn K cdv qual = true) (hroom : A.depth < recursionLimit)
    (hbind : BindsTo s (fnOf name qual params body scope dV kV doc pm an cdv ct) args binds) (hkind : (binds.all fun y => scope.names.lookup y.1 == some .local || scope.names.lookup y.1 == some .cell) = true)
    (hnd : ((cellsFrom 0 scope.names []).map (·.1)).Nodup)
    (h : ∀ g L' h₁ tk cells, Fr h₀ L g m → News h₀ L g rest → Fr g L' h₁ (bindL (envOfC qual scope L' f cdv).kindOf binds fun _ => none) → News g L' h₁ (cells ++ own) →
      CellsAre (bindC (envOfC qual scope L' f cdv).kindOf binds fun _ => none) (cellsFrom (L' + 1) scope.names []) cells → Below A base (env :: outer) g → K.In g → Top p loose mean mg mb g → (∀ q ∈ own, q.1 < L') → (∀ q ∈ rest, q.1 < L') →
      wpAny (model prog w) (A.deeper (envOfC qual scope L' f cdv)) (execs body (envOfC qual scope L' f cdv))
        (fun fl s' => LeaveK h₀ L m g (fun r s' => News h₀ L s'.heap rest → R r s') (match fl with | .ret v => v | _ => .none) s')
        (fun e s' => wpAny (model prog w) (A.deeper (envOfC qual scope L' f cdv)) (leaving (envOfC qual scope L' f cdv) e) (fun _ s'' => R (.error e) s'') (fun e' s'' => R (.error e') s'') s')
        { s with heap := h₁, toks := tk })
    (hco : scope.isCoroutine = false) (hgen : scope.isGenerator = false) (hk : scope.kind = .function) : codeAny (model prog w) A (.call (.ref f) args) R s := by
  have No : News h₀ L s.heap own := fun q hq => N q (List.mem_append_left _ hq)
  obtain ⟨FG, BG, st, lv⟩ := groundX (R := fun r s' => News h₀ L s'.heap rest → R r s') B F No hA hf hke
  refine codeAny_call_function (fd := fnX name qual params body scope [] dV kV doc pm an cdv ct) hroom ((X₀.keeps F.keep) _ _ ho) rfl hco hgen rfl (codeRec_of (X₀.keeps F.keep) hcd) (hbind _ _ _ _ ?_)
  refine wpAny_newFunctionEnv_cells hk (kindsX hkind _) fun env' he s' x => ?_
  subst he
  refine ⟨(T.nolimit.keeps F.keep).keeps x.toInCall.keep, codeAny_func ?_⟩
  obtain ⟨h₁, tk, rfl, _⟩ := x.done
  have hk₁ := x.toInCall.keep
  obtain ⟨cells, NC, Y⟩ := Cl.news (h₀ := s.heap) (Nat.le_refl _) fun n c hm => ⟨x.cell n c (lookup_of_mem_nodup (cellsFrom_names scope.names 0 (s.heap.objs.size + 1) [] [] rfl ▸ hnd) hm), x.above n c hm⟩
  refine wpAny_mono (h (hideAll s.heap (own.map (·.1))) s.heap.objs.size h₁ tk cells FG (fun q hq => ⟨hideAll_get _ (N q (List.mem_append_right _ hq)).1 (off q hq), (N q (List.mem_append_right _ hq)).2⟩) ⟨x.toInCall.ns, fun b o e => hk₁ b o (of_hideAll _ e), Nat.le_of_eq (hideAll_size _ _)⟩
    (fun q hq => ?_) Y BG (X₀.keeps fun b o e => st b o e) (T.keeps fun b o e => st b o e) (fun q hq => Heap.lt_size (No q hq).1) (fun q hq => Heap.lt_size (N q (List.mem_append_right _ hq)).1)) (fun fl s' hl => ?_) fun _ _ y => y
  · rcases List.mem_append.mp hq with hq | hq
    · refine ⟨(NC q hq).1, (NC q hq).2.1, ?_⟩
      cases z : (hideAll s.heap (own.map (·.1))).get? q.1 with
      | none => rfl
      | some o => have := of_hideAll _ z; rw [(NC q hq).2.2] at this; cases this
    · exact ⟨hk₁ _ _ (No q hq).1, Nat.ne_of_lt (Heap.lt_size (No q hq).1), hideAll_none _ (List.mem_map_of_mem hq)⟩
  · refine lv _ _ hl ?_
    obtain ⟨_, _, _, F', _, _⟩ := hl
    exact kept_rest N off F'
end

theorem ints_snoc {r : Int} {t : Tok} : ∀ {ys : List Value} {ns : List Int}, IntsAre ys ns → IntsAre (ys ++ [.int r t]) (ns ++ [r])
  | _, _, .nil => .cons r t .nil
  | _, _, .cons k u q => .cons k u (ints_snoc q)
end Mine
end
section
open PySem PySem.W PyProof.Rows PySem.Calls PySem.Spec PyProof.V
set_option Elab.async false
set_option maxRecDepth 100000
set_option maxHeartbeats 0
namespace Mine
theorem digit_use {w : World} {dp un : Nat} {gd : Option (List Code)} {cn : Str} {cs : Scope} {aa : Addr} {ccd : Value} {cl : List (Str × Addr)} {outer : List Env} {A₀ : Around} {base h₀ hb0 : Heap} {mg mb : Str → Option Value} {L : Addr} {m : Str → Option Value} {s : Shared} {Q E : Value → Shared → Prop}
    {l : Addr} {a b many : Int} {ta tb tm : Tok} {n : Nat} {news : Led} {g : Obj → Led} (U : UpdF l (seedObj a b ta tb n) news g) (ha : 0 ≤ a) (hb : 0 ≤ b) (hb2 : b < 2147483648) (hm : 0 < many) (hm2 : many < 257)
    (B : Below A₀ base outer h₀) (F : Fr h₀ L s.heap m) (X : (hd.heap_39 w.params).In h₀) (N : News h₀ L s.heap news) (T : Top hd.view_39 (looseW hd.view_39 [Str.ofString "Piece"]) (ExcName.means hb0) mg mb h₀) (hk : cs.kind = .function)
    (hd : dp + 1 < 900) (hu : un + 8 < 900)
    (hret : ∀ r t a' b' ta' tb' n' h' tk', 0 ≤ r → r < many → 0 ≤ a' → 0 ≤ b' → b' < 2147483648 → Fr h₀ L h' m → News h₀ L h' (g (seedObj a' b' ta' tb' n')) → Q (.int r t) { s with heap := h', toks := tk' }) :
    wpAny (model PySem.Challenge.rw_pf0228_01.row.prog w) (ktrTop dp un gd cn cs L aa ccd cl outer) (call (.ref 141) [.ref l, .int many tm]) Q E s := by
  obtain ⟨pre, post, rfl, hg, h1, h2⟩ := U.split
  have hmem : ∀ (o : Obj) (p : Addr × Obj), p ∈ pre ++ (l, o) :: post ↔ p ∈ (l, o) :: (pre ++ post) := by
    intro o p
    simp only [List.mem_append, List.mem_cons]
    constructor <;> (rintro (h | h | h) <;> simp [h])
  have hoff : ∀ p ∈ pre ++ post, p.1 ≠ l := fun p hp => (List.mem_append.mp hp).elim (h1 p) (h2 p)
  refine meet_use (digit_meets w l a b many ta tb tm n (pre ++ post) hoff ha hb hb2 hm hm2) B F X (fun p hp => N p ((hmem _ _).mpr hp)) T hk hd hu ?_
  rintro v news' h' tk' F' N' ⟨r, t, a', b', ta', tb', n', rfl, hr0, hr1, ha', hb', hb2', rfl⟩
  refine hret r t a' b' ta' tb' n' h' tk' hr0 hr1 ha' hb' hb2' F' ?_
  rw [hg]
  exact fun p hp => N' p ((hmem _ _).mp hp)
theorem seed_use {w : World} {dp un : Nat} {gd : Option (List Code)} {cn : Str} {cs : Scope} {aa : Addr} {ccd : Value} {cl : List (Str × Addr)} {outer : List Env} {A₀ : Around} {base h₀ hb0 : Heap} {mg mb : Str → Option Value} {L : Addr} {m : Str → Option Value} {s : Shared} {Q E : Value → Shared → Prop}
    {l : Addr} {vs : List Value} {ns : List Int} {news : Led} (hl : base.IsList l vs.toArray) (hi : IntsAre vs ns) (hfit : ns.length < 2 ^ 62)
    (B : Below A₀ base outer h₀) (F : Fr h₀ L s.heap m) (X : (hd.heap_39 w.params).In h₀) (N : News h₀ L s.heap news) (T : Top hd.view_39 (looseW hd.view_39 [Str.ofString "Piece"]) (ExcName.means hb0) mg mb h₀) (hk : cs.kind = .function)
    (hd : dp + 1 < 900) (hu : un + 8 < 900)
    (hret : ∀ r ta tb n a b h' tk', Fr h₀ L h' m → News h₀ L h' ((r, seedObj a b ta tb n) :: news) → (∀ p ∈ news, p.1 < r) → 0 ≤ a → 0 ≤ b → b < 2147483648 → Q (.ref r) { s with heap := h', toks := tk' }) :
    wpAny (model PySem.Challenge.rw_pf0228_01.row.prog w) (ktrTop dp un gd cn cs L aa ccd cl outer) (call (.ref 134) [.ref l]) Q E s :=
  seed_meets w l vs ns news _ _ _ _ _ _ _ _ _ _ _ _ _ _ _ _ _ _ _ _ B F X N T hk hl hi hfit hd hu hret
theorem ne_told {prog : Program} {w : World} {A : Around} {E : Value → Shared → Prop} {s : Shared} {Q : Value → Shared → Prop} {h₀ : Heap} {L a b : Addr} {news : Led} {c : Int} {t t' : Tok} {n n' : Nat} (hc : 0 ≤ c) (hc2 : c < 256) (N : News h₀ L s.heap news)
    (ma : (a, toldObj c t n) ∈ news) (mb : (b, toldObj c t' n') ∈ news) (hu : A.units + 64 < cLine) (h : Q (.bool false) s) : wpAny (model prog w) A (compareOp .NotEq (.ref a) (.ref b)) Q E s := by
  have rd : ∀ {x : Addr} {u : Tok} {k : Nat}, (x, toldObj c u k) ∈ news → Reads s.heap (.ref x) (.list [.str (nameOf c), .bool (frameOf c), .bool (restOf c), .bool (hasOf c)]) [x] := fun hm =>
    reads_list_at (N.get hm) rfl rfl (readsAll_cons_val (.str _ _) (readsAll_cons_val (.bool _) (readsAll_cons_val (.bool _) (readsAll_cons_val (.bool _) .nil))))
  have sh : SeqAt.shaped (.list [.str (nameOf c), .bool (frameOf c), .bool (restOf c), .bool (hasOf c)]) = true := by
    simp [SeqAt.shaped, PyData.canLay0, PyData.canLayAll0, PyData.depth, PyData.depthAll, nameOf_ok hc hc2]
  refine ne_dataH (rd ma) (rd mb) sh sh hu ?_
  have e : PyData.eqv (.list [.str (nameOf c), .bool (frameOf c), .bool (restOf c), .bool (hasOf c)]) (.list [.str (nameOf c), .bool (frameOf c), .bool (restOf c), .bool (hasOf c)]) = true := by
    simp [PyData.eqv, PyData.eqvAll]
  rw [e]
  exact h
theorem loop_still {prog : Program} {w : World} {A : Around} {E : Value → Shared → Prop} {s : Shared} {env : Env} {h₀ : Heap} {x : Str} {body : List Stmt} {Q : Flow → Shared → Prop}
    {r : Addr} {a₀ b₀ : Int} {t₀ u₀ v₀ : Tok} {n : Nat} {m₀ : Str → Option Value} {news : Led} (stored : List Str)
    (hh : A.handled = none) (hr : IsRange s.heap r a₀ b₀ 1 t₀ u₀ v₀) (hsmall : Builtin.Range.small a₀ b₀ 1 = true) (hn : Builtin.Range.rangeSize a₀ b₀ 1 = (n : Int)) (F : Fr h₀ env.locals s.heap m₀) (N : News h₀ env.locals s.heap news)
    (turn : ∀ (k : Int) t (u : Str → Option Value) h tk own, a₀ ≤ k → k < a₀ + n → OwnOff own (news.map (·.1)) →
      Fr h₀ env.locals h (fun y => if y = x then some (.int k t) else if stored.contains y then u y else m₀ y) → News h₀ env.locals h (news ++ own) →
      wpAny (model prog w) A (execs body env) (InvPostN h₀ env.locals (fun m nx => nx = news ∧ ∀ z, z ≠ x → stored.contains z = false → m z = m₀ z) own (news.map (·.1)) { s with heap := h, toks := tk } Q) E { s with heap := h, toks := tk })
    (done : ∀ (u : Str → Option Value) h tk, Fr h₀ env.locals h (fun y => if y = x then u y else if stored.contains y then u y else m₀ y) → News h₀ env.locals h news → Q .next { s with heap := h, toks := tk }) :
    wpAny (model prog w) A (pyIter (.ref r)) (fun it s₂ => LoopAtV prog w A h₀ env x body Q E it s₂) E s := by
  refine kst_range (σ := Unit) (fun _ => news) (fun _ => []) (fun _ => True) stored (fun _ _ => True) () hh hr hsmall hn F N trivial (fun _ hp => nomatch hp) trivial ?_ ?_
  · intro c pre k t u h tk own hk hlt hoff _ _ F₁ N₁
    refine wpAny_mono (turn k t u h tk own (by omega) (by omega) hoff F₁ N₁) (fun f s₂ p => ?_) fun _ _ e => e
    have up : InvEndN h₀ env.locals (fun m nx => nx = news ∧ ∀ z, z ≠ x → stored.contains z = false → m z = m₀ z) own (news.map (·.1)) { s with heap := h, toks := tk } s₂ →
        InvEndN h₀ env.locals (KstS (σ := Unit) (fun _ => news) (fun _ => []) (fun _ => True) x stored m₀ (fun _ _ => True) (pre ++ [k])) own (news.map (·.1)) { s with heap := h, toks := tk } s₂ := by
      rintro ⟨h', tk', m', news', nx, e, F', N', hn', ho', ha, e2, hS⟩
      exact ⟨h', tk', m', news', nx, e, F', N', hn', ho', ha, (), e2, trivial, (fun _ hp => nomatch hp), (fun z hz _ hs => hS z hz hs), trivial⟩
    cases f with
    | ret v => exact p
    | brk => exact p
    | next => exact up p
    | cont => exact up p
  · intro c u h tk _ _ F₁ N₁
    exact done u h tk F₁ N₁

def DigEl (g : Obj → Led) (many : Int) (y : Value) (news' : Led) : Prop :=
  ∃ (r : Int) (t : Tok) (a b : Int) (ta tb : Tok) (n : Nat), y = .int r t ∧ 0 ≤ r ∧ r < many ∧ 0 ≤ a ∧ 0 ≤ b ∧ b < 2147483648 ∧ news' = g (seedObj a b ta tb n)
theorem updF_any {d : Addr} {o : Obj} {l : Led} {g : Obj → Led} (U : UpdF d o l g) : ∀ o', UpdF d o' (g o') g := by
  induction U with
  | head h => exact fun o' => .head h
  | tail h _ ih => exact fun o' => .tail h (ih o')
theorem updF_off {d I C D : Addr} {o o₁ : Obj} {l : Led} {g : Obj → Led} (U : UpdF d o l g) (h : LCg.Off3 I C D (g o₁)) : ∀ o', LCg.Off3 I C D (g o') := by
  induction U with
  | head _ => exact fun o' => ⟨h.1, h.2⟩
  | tail _ _ ih => exact fun o' => ⟨h.1, ih h.2 o'⟩
theorem updF_mem {d : Addr} {o : Obj} {l : Led} {g : Obj → Led} (U : UpdF d o l g) (o' : Obj) : (d, o') ∈ g o' := by
  induction U with
  | head _ => exact .head _
  | tail _ _ ih => exact .tail _ ih
/-- kept folded: «omega» splits every ≠ that it sees -/
def OffQ (I C D : Addr) (g : Obj → Led) : Prop := ∀ o, LCg.Off3 I C D (g o)
theorem offQ {I C D : Addr} {g : Obj → Led} (h : OffQ I C D g) {led : Led} {o : Obj} (e : g o = led) : LCg.Off3 I C D led := e ▸ h o
def UpdQ (l I C D : Addr) (g : Obj → Led) : Prop := ∀ oI oC oD o, UpdF l o ((I, oI) :: (C, oC) :: (D, oD) :: g o) (fun o' => (I, oI) :: (C, oC) :: (D, oD) :: g o')
theorem updQ {l I C D : Addr} {g : Obj → Led} {oI oC oD o : Obj} {led : Led} (h : UpdQ l I C D g) (e : (I, oI) :: (C, oC) :: (D, oD) :: g o = led) : UpdF l o led (fun o' => (I, oI) :: (C, oC) :: (D, oD) :: g o') := e ▸ h oI oC oD o
theorem off1_ne {D l : Addr} {o : Obj} : ∀ {news : Led}, LCg.Off1 D news → (l, o) ∈ news → D ≠ l
  | [], _, h => nomatch h
  | _ :: _, x, h => by
    rcases List.mem_cons.mp h with rfl | h
    · exact fun e => x.1 e.symm
    · exact off1_ne x.2 h
theorem dig_rest {prog : Program} {w : World} {A : Around} {h₀ : Heap} {L : Addr} {m : Str → Option Value} {env : Env} {elt : PySem.Expr} {x : Str} {scope : Scope} {cl : List (Str × Addr)} {s : Shared} {P : Nat → Value → Prop} {Fin : List Value → Led → Prop}
    {l : Addr} {g : Obj → Led} {news : Led} {a b : Int} {ta tb : Tok} {n : Nat} (many : Int) {k : Nat} (U : UpdF l (seedObj a b ta tb n) news g) (ha : 0 ≤ a) (hb : 0 ≤ b) (hb2 : b < 2147483648)
    (turn : ∀ ys a b ta tb n I oI C oC D m₂ h tk (E' : Value → Shared → Prop), 0 ≤ a → 0 ≤ b → b < 2147483648 → LCg.NsObj oC m₂ → Fr h₀ L h m → News h₀ L h ((I, oI) :: (C, oC) :: (D, LCg.lst ys) :: g (seedObj a b ta tb n)) → OffQ I C D g → UpdQ l I C D g →
      wpAny (model prog w) A (eval elt (compEnvC scope cl C env)) (LCg.CompEnd h₀ L m { s with heap := h, toks := tk } I oI C oC D (LCg.lst ys) (fun _ => True) (fun y news' => DigEl g many y news')) E' { s with heap := h, toks := tk })
    (fin : ∀ ys ns a b ta tb n, IntsAre ys ns → ns.length = k → (∀ x ∈ ns, 0 ≤ x ∧ x < many) → 0 ≤ a → 0 ≤ b → b < 2147483648 → Fin ys (g (seedObj a b ta tb n))) :
    LCg.CompRest prog w A h₀ L m env elt x scope cl s (fun _ => True) P Fin k 0 [] news := by
  have hg : news = g (seedObj a b ta tb n) := by
    obtain ⟨pre, post, e, hg, _, _⟩ := U.split
    rw [e, hg]
  rw [hg]
  have key : ∀ (j i : Nat) (ys : List Value) (ns : List Int) (a b : Int) (ta tb : Tok) (n : Nat), ns.length + j = k → IntsAre ys ns → (∀ x ∈ ns, 0 ≤ x ∧ x < many) → 0 ≤ a → 0 ≤ b → b < 2147483648 →
      LCg.CompRest prog w A h₀ L m env elt x scope cl s (fun _ => True) P Fin j i ys (g (seedObj a b ta tb n)) := by
    intro j
    induction j with
    | zero => intro i ys ns a b ta tb n hk hy hr ha hb hc; exact LCg.CompRest.zero (fin ys ns a b ta tb n hy (by omega) hr ha hb hc)
    | succ j ih =>
      intro i ys ns a b ta tb n hk hy hr ha hb hc
      refine LCg.CompRest.succ ?_
      intro v I oI C oC D m₂ h tk E' _ hC _ F N off ne
      refine wpAny_mono (turn ys a b ta tb n I oI C oC D m₂ h tk E' ha hb hc hC F N (updF_off U off) (fun oI' oC' oD' o => (fun k => .tail (fun e => k.1 e.symm) (.tail (fun e => k.2.1 e.symm) (.tail (fun e => k.2.2 e.symm) (updF_any U o)))) (LCg.Off3.mem (updF_off U off o) _ (updF_mem U o)))) (fun y s₂ q => ?_) fun _ _ e => e
      obtain ⟨h', tk', news', e, F', N', off', hS, r, t, a', b', ta', tb', n', e2, h0, h1, ha', hb', hc', e3⟩ := q
      refine ⟨h', tk', news', e, F', N', off', hS, ?_⟩
      subst e2; subst e3
      refine ih (i + 1) _ (ns ++ [r]) a' b' ta' tb' n' (by rw [List.length_append, List.length_singleton]; omega) (ints_snoc hy) (fun x hx => ?_) ha' hb' hc'
      rcases List.mem_append.mp hx with hx | hx
      · exact hr x hx
      · rw [List.mem_singleton.mp hx]; exact ⟨h0, h1⟩
  exact key k 0 [] [] a b ta tb n (by simp) .nil (fun _ h => nomatch h) ha hb hb2
theorem item_code {prog : Program} {w : World} {A : Around} {E : Value → Shared → Prop} {s : Shared} {value slice : PySem.Expr} {l : Addr} {vs : List Value} {ns : List Int} {k : Int} {u : Tok} {Q : Value → Shared → Prop} (hl : s.heap.IsList l vs.toArray) (hi : IntsAre vs ns)
    (h0 : 0 ≤ k) (h1 : k < ns.length) (hfit : k < 2 ^ 63) (hr : ∀ x ∈ ns, 0 ≤ x ∧ x < 256) (h : ∀ c t, 0 ≤ c → c < 256 → Q (.int c t) s)
    (hs : subscripted slice false (.ref l) (.int k u) = operate [.ref l, .int k u] (getItem (.ref l) (.int k u)) := by with_unfolding_all rfl) :
    wpAny (model prog w) A (subscriptTail value slice (.ref l) (.int k u)) Q E s := by
  refine item_anyK hl hi h0 h1 hfit (fun t => ?_) hs
  have hk : k.toNat < ns.length := by omega
  have hm : ns.getD k.toNat 0 ∈ ns := by
    rw [List.getD_eq_getElem?_getD, List.getElem?_eq_getElem hk]
    exact List.getElem_mem hk
  exact h _ t (hr _ hm).1 (hr _ hm).2

/-- what a written piece is -/
def enc (c : Int) (P D : List Int) : Array UInt8 :=
  if hasOf c = true then #[(Int.toNat 255).toUInt8, c.toNat.toUInt8, (Int.toNat 0).toUInt8, ((P.length : Int) + 2).toNat.toUInt8] ++ byteArr P ++ byteArr D else #[(Int.toNat 255).toUInt8, c.toNat.toUInt8] ++ byteArr D
abbrev pieceDict (w : World) (c : Int) (P D : Array UInt8) (t1 t2 t3 tc tp td : Tok) : Obj :=
  dictOf [{ hash := PyData.keyHash w.params (Str.ofString "code"), key := .str (Str.ofString "code") t1, val := .int c tc }, { hash := PyData.keyHash w.params (Str.ofString "payload"), key := .str (Str.ofString "payload") t2, val := .bytes P tp }, { hash := PyData.keyHash w.params (Str.ofString "data"), key := .str (Str.ofString "data") t3, val := .bytes D td }] 3
abbrev rowObj (x : Addr) (A : Array UInt8) (te : Tok) : Obj := { cls := .type "tuple", data := .seq #[.ref x, .bytes A te] }
def pieceOut (w : World) (l : Addr) (rest : Led) (v : Value) (news' : Led) : Prop :=
  ∃ (tup x d : Addr) (c : Int) (P D : List Int) (t1 t2 t3 tc tp td te : Tok) (a b : Int) (ta tb : Tok) (n : Nat), v = .ref tup ∧ 0 ≤ c ∧ c < 256 ∧ P.length ≤ 3 ∧ D.length ≤ 2 ∧ 0 ≤ a ∧ 0 ≤ b ∧ b < 2147483648 ∧
    news' = (tup, rowObj x (enc c P D) te) :: (x, instObj 111 d) :: (d, pieceDict w c (byteArr P) (byteArr D) t1 t2 t3 tc tp td) :: (l, seedObj a b ta tb n) :: rest ∧
    (@LT.lt Nat _ l d ∧ @LT.lt Nat _ d x ∧ @LT.lt Nat _ x tup) ∧ (∀ q ∈ rest, @LT.lt Nat _ q.1 d)
theorem pieceOut_of {w : World} {l : Addr} {rest : Led} {tup x d : Addr} {c : Int} {P D : List Int} {t1 t2 t3 tc tp td te : Tok} {a b : Int} {ta tb : Tok} {n : Nat} {A : Array UInt8} (hA : A = enc c P D) (h0 : 0 ≤ c) (h1 : c < 256) (hP : P.length ≤ 3) (hD : D.length ≤ 2) (ha : 0 ≤ a) (hb : 0 ≤ b) (hb2 : b < 2147483648)
    (ho : @LT.lt Nat _ l d ∧ @LT.lt Nat _ d x ∧ @LT.lt Nat _ x tup) (o3 : ∀ q ∈ rest, @LT.lt Nat _ q.1 d) :
    pieceOut w l rest (.ref tup) ([(tup, rowObj x A te), (x, instObj 111 d), (d, pieceDict w c (byteArr P) (byteArr D) t1 t2 t3 tc tp td), (l, seedObj a b ta tb n)] ++ rest) := by
  subst hA
  exact ⟨tup, x, d, c, P, D, t1, t2, t3, tc, tp, td, te, a, b, ta, tb, n, rfl, h0, h1, hP, hD, ha, hb, hb2, rfl, ho, o3⟩
theorem news_join {h₀ h : Heap} {L : Addr} {led keep rest : Led} (N : News h₀ L h led) (P : News h₀ L h rest) (hs : ∀ p ∈ keep, p ∈ led) : News h₀ L h (keep ++ rest) := fun q hq => (List.mem_append.mp hq).elim (fun m => N q (hs q m)) (P q)
theorem off_of {g h h₀ : Heap} {L L' a : Addr} {o : Obj} {rest led : Led} (NG : News h₀ L g rest) (N : News g L' h led) (hm : (a, o) ∈ led) : ∀ q ∈ rest, @Ne Nat q.1 a := fun q hq e => by
  have h1 := (NG q hq).1
  have h2 := (N _ hm).2.2
  rw [e] at h1
  rw [h1] at h2
  cases h2
theorem enc_has {c : Int} {P D : List Int} (h : hasOf c = true) : #[(Int.toNat 255).toUInt8, c.toNat.toUInt8, (Int.toNat 0).toUInt8, ((P.length : Int) + 2).toNat.toUInt8] ++ byteArr P ++ byteArr D = enc c P D := by unfold enc; rw [if_pos h]
theorem enc_not {c : Int} {P D : List Int} (h : hasOf c = false) : #[(Int.toNat 255).toUInt8, c.toNat.toUInt8] ++ byteArr D = enc c P D := by unfold enc; rw [if_neg (by rw [h]; decide)]

theorem word_in {n : Int} (h0 : 0 ≤ n) (h1 : n ≤ 65535) : ∀ k ∈ [n.fdiv 256, n.fmod 256], 0 ≤ k ∧ k < 256 := by
  have e := Int.fdiv_eq_ediv_of_nonneg n (b := 256) (by decide)
  have e2 := Int.fmod_eq_emod_of_nonneg n (b := 256) (by decide)
  intro k hk
  simp only [List.mem_cons, List.not_mem_nil, or_false] at hk
  rcases hk with rfl | rfl
  · rw [e]; omega
  · rw [e2]; omega

def encA (c : Int) (P D : Array UInt8) : Array UInt8 :=
  if hasOf c = true then #[(Int.toNat 255).toUInt8, c.toNat.toUInt8] ++ #[(((P.size : Int) + 2).fdiv 256).toNat.toUInt8, (((P.size : Int) + 2).fmod 256).toNat.toUInt8] ++ P ++ D else #[(Int.toNat 255).toUInt8, c.toNat.toUInt8] ++ D
theorem encA_has {c : Int} {P D : Array UInt8} (h : hasOf c = true) : #[(Int.toNat 255).toUInt8, c.toNat.toUInt8] ++ #[(((P.size : Int) + 2).fdiv 256).toNat.toUInt8, (((P.size : Int) + 2).fmod 256).toNat.toUInt8] ++ P ++ D = encA c P D := by unfold encA; rw [if_pos h]
theorem encA_not {c : Int} {P D : Array UInt8} (h : hasOf c = false) : #[(Int.toNat 255).toUInt8, c.toNat.toUInt8] ++ D = encA c P D := by unfold encA; rw [if_neg (by rw [h]; decide)]
theorem encA_enc {c : Int} {P D : List Int} (hP : P.length ≤ 3) : encA c (byteArr P) (byteArr D) = enc c P D := by
  unfold encA enc
  rw [byteArr_size]
  have e1 : ((P.length : Int) + 2).fdiv 256 = 0 := by rw [Int.fdiv_eq_ediv_of_nonneg _ (by decide)]; omega
  have e2 : ((P.length : Int) + 2).fmod 256 = (P.length : Int) + 2 := by rw [Int.fmod_eq_emod_of_nonneg _ (by decide)]; omega
  rw [e1, e2]
  split
  · simp
  · rfl
def bytesOut (A : Array UInt8) (news : Led) (v : Value) (news' : Led) : Prop := (∃ t, v = .bytes A t) ∧ news' = news
theorem bytesOut_of {A B : Array UInt8} {t : Tok} {news : Led} (e : B = A) : bytesOut A news (.bytes B t) news := ⟨⟨t, by rw [e]⟩, rfl⟩
end Mine
end
local macro_rules | `(tactic| lcg_off) => `(tactic| first | with_reducible assumption | exact Mine.offQ (by with_reducible assumption) (by rfl) | ((simp only [PyProof.Rows.LCg.Off3, and_true]); with_reducible assumption))
section
open PySem PySem.W PyProof.Rows PySem.Calls PySem.Spec PyProof.V
set_option Elab.async false
set_option maxRecDepth 100000
set_option maxHeartbeats 0
namespace Mine





local macro_rules | `(tactic| k_updF) => `(tactic| first | (exact updQ (by with_reducible assumption) (by rfl)) | (refine' UpdF.head ?a; (case a => k_all)) | (refine' UpdF.tail ?a ?b; (case b => k_updF); (case a => first | (refine' off1_ne ?c ?d; (case c => with_reducible assumption); (case d => k_mem)) | k_ne)))




theorem piece_meets (w : World) (l : Addr) (a b : Int) (ta tb : Tok) (n : Nat) (rest : Led) (hr : ∀ p ∈ rest, p.1 ≠ l) (ha : 0 ≤ a) (hb : 0 ≤ b) (hb2 : b < 2147483648) 
    : Meet w 6 167 [.ref l] ((l, seedObj a b ta tb n) :: rest) (pieceOut w l rest) := by
  unfold Meet
  k_fill
  w_top off
  intro dp un gd cn cs aa ccd cl outer A₀ base h₀ hb0 mg mb L m s Q E B F X N T hk hdp hun hret
  refine wpAny_call ?_
  k_dflt (refine' code_keepC (own := [(l, seedObj a b ta tb n)]) (rest := rest) ?k1 ?k2 ?k3 ?k4 ?kO ?k5 ?kA ?kF ?kK ?k6 ?k7 ?k8 ?k9 ?kB ?kD ?_ ?c2 ?c3 ?c4; (case kA => exact rfl); (case kF => exact rfl); (case kK => assumption); (case k1 => k_asm); (case k2 => k_asm); (case k3 => k_asm); (case k4 => exact N); (case kO => (intro q hq hm; exact hr q hq (List.mem_singleton.mp hm))); (case k5 => k_asm); (case k6 => k_is); (case k7 => k_is); (case k8 => ktr_room); (case k9 => exact BindsTo.of_eq rfl); (case kB => exact rfl); (case kD => decide +kernel); (case c2 => exact rfl); (case c3 => exact rfl); (case c4 => exact rfl); k_whole)
  intro g' L' h' tk' cells' FG' NG' F' N' Y' B' X' T' l1 hLr
  k_lt l1
  k_cells Y'
  (try simp only [List.cons_append, List.nil_append] at N')
  (try dsimp only)
  (try k_fold)
  (repeat' (first | (k_unfold; (try dsimp only)) | (k_end; wrow_close) | ((with_reducible show LCg.FinA ..); (with_reducible (((unfold LCg.FinA); intro Dpzq hpzq tkpzq Fpzq Npzq o1pzq; (try simp only [List.nil_append, List.cons_append] at Npzq o1pzq); (try dsimp only))))) | ((with_reducible show LCg.FinE ..); (with_reducible (((unfold LCg.FinE); intro Dpzq hpzq tkpzq Fpzq Npzq o1pzq; (try simp only [List.nil_append, List.cons_append] at Npzq o1pzq); (try dsimp only))))) | ((with_reducible show DigEl ..); ((exact ⟨_, _, _, _, _, _, _, rfl, by assumption, by omega, by assumption, by assumption, by assumption, rfl⟩))) | ((with_reducible show LCg.CompSrc ..); (with_reducible ((k_here; k_dflt (refine LCg.CompSrc.range (by rfl) (by k_asm) (by k_asm) (by assumption) (small_one (by omega) (by omega) (by omega) (by omega)) (rangeSize_nat _ _) (by rw [PySem.sizeLine_eq]; omega) ?_; intro g9pzq; refine' dig_rest 256 ?kUT13 ?kaT13 ?kbT13 ?kcT13 ?_ ?_; (case kUT13 => k_updF); (case kaT13 => assumption); (case kbT13 => assumption); (case kcT13 => assumption)); (all_goals (first | (intro ys9zq a9zq b9zq ta9zq tb9zq n9zq I9zq oI9zq C9zq oC9zq D9zq m9zq h9zq tk9zq E9zq ha9zq hb9zq hc9zq hC9zq F9zq N9zq off9zq upd9zq; (try dsimp only at N9zq)) | (intro ys9zq ns9zq a9zq b9zq ta9zq tb9zq n9zq hy9zq hl9zq hr9zq ha9zq hb9zq hc9zq; (try dsimp only)))))))) | ((with_reducible show wpAny _ _ (eval (PySem.Expr.ListComp ..) _) _ _ _); (with_reducible ((k_here; k_dflt (refine LCg.ListComp_U (F₀ := by k_asm) (by with_unfolding_all rfl) (by decide) (by rfl) (by decide) (by rfl) ?_))))) | (with_reducible ((k_here; (with_reducible show wpAny _ _ (subscriptTail _ _ (Value.ref _) (Value.int _ _)) _ _ _); (with_unfolding_all refine' item_code ?k1T11 ?k2T11 ?k3T11 ?k4T11 ?k5T11 ?krT11 ?_ ?k6T11; (case k1T11 => is_list); (case k2T11 => l_ints); (case k3T11 => l_idx); (case k4T11 => l_idx); (case k5T11 => l_idx); (case krT11 => by_in); (case k6T11 => with_unfolding_all rfl); k_whole); intro c9zq tc9zq lc9zq hc9pzq))) | ((with_reducible show wpAny _ _ (call (Value.ref _) _) _ _ _); (first | (with_reducible ((k_here; (with_reducible show wpAny _ _ (call (Value.ref 162) _) _ _ _); k_dflt ( refine' meet_use (told_meets _ _ _ _ ?kaT10 ?kbT10) ?k1T10 ?k2T10 ?k3T10 ?k4T10 ?k5T10 ?kKT10 ?kdT10 ?kuT10 ?_; (case kaT10 => first | assumption | exact Int.fmod_nonneg_of_pos _ (by decide)); (case kbT10 => first | assumption | exact Int.fmod_lt_of_pos _ (by decide)); (case k1T10 => k_asm); (case k2T10 => k_asm); (case k3T10 => k_asm); (case k4T10 => k_asm); (case k5T10 => k_asm); (case kKT10 => first | exact rfl | assumption); (case kdT10 => ((try simp only [depth_under_make, depth_under_kw, depth_in1, depth_deeper, depth_caller]); (try dsimp only [ktrTop]); omega)); (case kuT10 => ((try simp only [units_in1, units_deeper, Around.mark_units, units_caller]); (try dsimp only [ktrTop]); omega))); intro v9zq n9zq h9zq tk9zq F9zq N9zq o9zq; (k_dflt (obtain ⟨r9zq, t9zq, m9zq, e9zq, e8zq⟩ := o9zq; subst e9zq; subst e8zq)); (try dsimp only); (try k_sweep); (try k_fold)))) | (with_reducible ((k_here; (with_reducible show wpAny _ _ (call (Value.ref 141) _) _ _ _); k_dflt ( refine' digit_use ?kUT9 ?kaT9 ?kbT9 ?kcT9 ?kmT9 ?knT9 ?k1T9 ?k2T9 ?k3T9 ?k4T9 ?k5T9 ?kKT9 ?kdT9 ?kuT9 ?_; (case k1T9 => k_asm); (case k2T9 => k_asm); (case k3T9 => k_asm); (case k4T9 => k_asm); (case kUT9 => k_updF); (case kaT9 => assumption); (case kbT9 => assumption); (case kcT9 => assumption); (case kmT9 => decide); (case knT9 => decide); (case k5T9 => k_asm); (case kKT9 => first | exact rfl | assumption); (case kdT9 => ((try simp only [depth_under_make, depth_under_kw, depth_in1, depth_deeper, depth_caller]); (try dsimp only [ktrTop]); omega)); (case kuT9 => ((try simp only [units_in1, units_deeper, Around.mark_units, units_caller]); (try dsimp only [ktrTop]); omega))); intro r9zq t9zq a9zq b9zq ta9zq tb9zq n9zq h9zq tk9zq lo9zq hi9zq ha9zq hb9zq hc9zq F9zq N9zq; (try dsimp only at N9zq); (try dsimp only); (try k_sweep); (try k_fold)))))) | walk1 | (dsimp only; (first | ((with_reducible show LCg.FinA ..); (with_reducible (((unfold LCg.FinA); intro Dpzq hpzq tkpzq Fpzq Npzq o1pzq; (try simp only [List.nil_append, List.cons_append] at Npzq o1pzq); (try dsimp only))))) | ((with_reducible show LCg.FinE ..); (with_reducible (((unfold LCg.FinE); intro Dpzq hpzq tkpzq Fpzq Npzq o1pzq; (try simp only [List.nil_append, List.cons_append] at Npzq o1pzq); (try dsimp only))))) | ((with_reducible show DigEl ..); ((exact ⟨_, _, _, _, _, _, _, rfl, by assumption, by omega, by assumption, by assumption, by assumption, rfl⟩))) | ((with_reducible show LCg.CompSrc ..); (with_reducible ((k_here; k_dflt (refine LCg.CompSrc.range (by rfl) (by k_asm) (by k_asm) (by assumption) (small_one (by omega) (by omega) (by omega) (by omega)) (rangeSize_nat _ _) (by rw [PySem.sizeLine_eq]; omega) ?_; intro g9pzq; refine' dig_rest 256 ?kUT13 ?kaT13 ?kbT13 ?kcT13 ?_ ?_; (case kUT13 => k_updF); (case kaT13 => assumption); (case kbT13 => assumption); (case kcT13 => assumption)); (all_goals (first | (intro ys9zq a9zq b9zq ta9zq tb9zq n9zq I9zq oI9zq C9zq oC9zq D9zq m9zq h9zq tk9zq E9zq ha9zq hb9zq hc9zq hC9zq F9zq N9zq off9zq upd9zq; (try dsimp only at N9zq)) | (intro ys9zq ns9zq a9zq b9zq ta9zq tb9zq n9zq hy9zq hl9zq hr9zq ha9zq hb9zq hc9zq; (try dsimp only)))))))) | ((with_reducible show wpAny _ _ (eval (PySem.Expr.ListComp ..) _) _ _ _); (with_reducible ((k_here; k_dflt (refine LCg.ListComp_U (F₀ := by k_asm) (by with_unfolding_all rfl) (by decide) (by rfl) (by decide) (by rfl) ?_))))) | (with_reducible ((k_here; (with_reducible show wpAny _ _ (subscriptTail _ _ (Value.ref _) (Value.int _ _)) _ _ _); (with_unfolding_all refine' item_code ?k1T11 ?k2T11 ?k3T11 ?k4T11 ?k5T11 ?krT11 ?_ ?k6T11; (case k1T11 => is_list); (case k2T11 => l_ints); (case k3T11 => l_idx); (case k4T11 => l_idx); (case k5T11 => l_idx); (case krT11 => by_in); (case k6T11 => with_unfolding_all rfl); k_whole); intro c9zq tc9zq lc9zq hc9pzq))) | ((with_reducible show wpAny _ _ (call (Value.ref _) _) _ _ _); (first | (with_reducible ((k_here; (with_reducible show wpAny _ _ (call (Value.ref 162) _) _ _ _); k_dflt ( refine' meet_use (told_meets _ _ _ _ ?kaT10 ?kbT10) ?k1T10 ?k2T10 ?k3T10 ?k4T10 ?k5T10 ?kKT10 ?kdT10 ?kuT10 ?_; (case kaT10 => first | assumption | exact Int.fmod_nonneg_of_pos _ (by decide)); (case kbT10 => first | assumption | exact Int.fmod_lt_of_pos _ (by decide)); (case k1T10 => k_asm); (case k2T10 => k_asm); (case k3T10 => k_asm); (case k4T10 => k_asm); (case k5T10 => k_asm); (case kKT10 => first | exact rfl | assumption); (case kdT10 => ((try simp only [depth_under_make, depth_under_kw, depth_in1, depth_deeper, depth_caller]); (try dsimp only [ktrTop]); omega)); (case kuT10 => ((try simp only [units_in1, units_deeper, Around.mark_units, units_caller]); (try dsimp only [ktrTop]); omega))); intro v9zq n9zq h9zq tk9zq F9zq N9zq o9zq; (k_dflt (obtain ⟨r9zq, t9zq, m9zq, e9zq, e8zq⟩ := o9zq; subst e9zq; subst e8zq)); (try dsimp only); (try k_sweep); (try k_fold)))) | (with_reducible ((k_here; (with_reducible show wpAny _ _ (call (Value.ref 141) _) _ _ _); k_dflt ( refine' digit_use ?kUT9 ?kaT9 ?kbT9 ?kcT9 ?kmT9 ?knT9 ?k1T9 ?k2T9 ?k3T9 ?k4T9 ?k5T9 ?kKT9 ?kdT9 ?kuT9 ?_; (case k1T9 => k_asm); (case k2T9 => k_asm); (case k3T9 => k_asm); (case k4T9 => k_asm); (case kUT9 => k_updF); (case kaT9 => assumption); (case kbT9 => assumption); (case kcT9 => assumption); (case kmT9 => decide); (case knT9 => decide); (case k5T9 => k_asm); (case kKT9 => first | exact rfl | assumption); (case kdT9 => ((try simp only [depth_under_make, depth_under_kw, depth_in1, depth_deeper, depth_caller]); (try dsimp only [ktrTop]); omega)); (case kuT9 => ((try simp only [units_in1, units_deeper, Around.mark_units, units_caller]); (try dsimp only [ktrTop]); omega))); intro r9zq t9zq a9zq b9zq ta9zq tb9zq n9zq h9zq tk9zq lo9zq hi9zq ha9zq hb9zq hc9zq F9zq N9zq; (try dsimp only at N9zq); (try dsimp only); (try k_sweep); (try k_fold)))))) | walk1)) | (leave1; walk_say "STEP leave1"; try dsimp only) | fail "no step"))
  all_goals (with_reducible rename News h₀ L _ (_ :: _) => zN)
  all_goals (with_reducible rename News h₀ L _ rest => zP)
  all_goals (refine hret _ _ _ _ (by with_reducible assumption) (news_join zN zP (by lcg_sub)) (pieceOut_of ?_ (by with_reducible assumption) (by with_reducible assumption) (by omega) (by omega) (by with_reducible assumption) (by with_reducible assumption) (by with_reducible assumption) ⟨by omega, by omega, by omega⟩ (fun q hq => Nat.lt_trans (hLr q hq) (ltN (by omega)))))
  all_goals first
    | (with_reducible refine enc_has ?_); with_reducible assumption
    | (with_reducible refine enc_not ?_); with_reducible assumption
end Mine
end
section
open PySem PySem.W PyProof.Rows PySem.Calls PySem.Spec PyProof.V
set_option Elab.async false
set_option maxRecDepth 100000
set_option maxHeartbeats 0
namespace Mine




theorem wpiece_meets (w : World) (x d : Addr) (c : Int) (P D : Array UInt8) (t1 t2 t3 tc tp td : Tok) (rest : Led) (hr : ∀ p ∈ rest, p.1 ≠ x ∧ p.1 ≠ d) (h0 : 0 ≤ c) (h1 : c < 256) (hP : P.size ≤ 65533) (hD : D.size ≤ 16) 
    :
    Meet w 4 122 [.ref x] ([(x, instObj 111 d), (d, pieceDict w c P D t1 t2 t3 tc tp td)] ++ rest) (bytesOut (encA c P D) ([(x, instObj 111 d), (d, pieceDict w c P D t1 t2 t3 tc tp td)] ++ rest)) := by
  unfold Meet
  k_fill
  w_top off
  intro dp un gd cn cs aa ccd cl outer A₀ base h₀ hb0 mg mb L m s Q E B F X N T hk hdp hun hret
  refine wpAny_call ?_
  k_dflt (refine' code_keep (own := [(x, instObj 111 d), (d, pieceDict w c P D t1 t2 t3 tc tp td)]) (rest := rest) ?k1 ?k2 ?k3 ?k4 ?kO ?k5 ?kA ?kF ?kK ?k6 ?k7 ?k8 ?k9 ?kB ?_ ?c2 ?c3 ?c4 ?c5; (case kA => exact rfl); (case kF => exact rfl); (case kK => assumption); (case k1 => k_asm); (case k2 => k_asm); (case k3 => k_asm); (case k4 => exact N); (case kO => (intro q hq hm; simp only [List.map_cons, List.map_nil, List.mem_cons, List.not_mem_nil, or_false] at hm; rcases hm with hm | hm; exact (hr q hq).1 hm; exact (hr q hq).2 hm)); (case k5 => k_asm); (case k6 => k_is); (case k7 => k_is); (case k8 => ktr_room); (case k9 => exact BindsTo.of_eq rfl); (case c5 => decide); (case kB => exact locs rfl); (case c2 => exact rfl); (case c3 => exact rfl); (case c4 => exact rfl); k_whole)
  intro g' L' h' FG' NG' F' N' B' X' T' l1 hLr
  clear NG' N hLr
  k_lt l1
  (try dsimp only)
  (try k_fold)
  (repeat' (first | (k_unfold; (try dsimp only)) | (k_end; wrow_close) | ((with_reducible show wpAny _ _ (call (Value.type _) _) _ _ _); (with_reducible ((k_here; (with_reducible show wpAny _ _ (call (Value.type _) [Value.ref _]) _ _ _); k_dflt (refine' bytes_K ?FT19 ?NT19 ?lT19 ?iT19 ?rT19 ?zT19 ?hT19 ?_; (case FT19 => k_asm); (case NT19 => k_asm); (case lT19 => is_list); (case iT19 => l_ints); (case rT19 => exact word_in (by omega) (by omega)); (case zT19 => (simp only [sizeLine_eq, List.length_cons, List.length_nil]; decide)); (case hT19 => with_unfolding_all rfl); k_whole); intro hpzq tpzq kpzq Fpzq Npzq hBpzq; (try dsimp only [List.map]); (try k_sweep))))) | (with_reducible ((k_here; (with_reducible show wpAny _ _ (binaryOp Operator.Add (Value.bytes _ _) (Value.bytes _ _)) _ _ _); k_dflt (refine' KBy.add_bytes ?zT18 ?_; (case zT18 => ((simp only [Array.size_append, List.size_toArray, List.length_cons, List.length_nil]); omega)); k_whole); intro _ _))) | ((with_reducible show wpAny _ _ (call (Value.ref _) _) _ _ _); (with_reducible ((k_here; (with_reducible show wpAny _ _ (call (Value.ref 93) _) _ _ _); k_dflt ( refine' meet_use (has_meets _ _ _ _) ?k1T17 ?k2T17 ?k3T17 ?k4T17 ?k5T17 ?kKT17 ?kdT17 ?kuT17 ?_; (case k1T17 => k_asm); (case k2T17 => k_asm); (case k3T17 => k_asm); (case k4T17 => k_asm); (case k5T17 => k_asm); (case kKT17 => first | exact rfl | assumption); (case kdT17 => ((try simp only [depth_under_make, depth_under_kw, depth_in1, depth_deeper, depth_caller]); (try dsimp only [ktrTop]); omega)); (case kuT17 => ((try simp only [units_in1, units_deeper, Around.mark_units, units_caller]); (try dsimp only [ktrTop]); omega))); intro v9zq n9zq h9zq tk9zq F9zq N9zq o9zq; (k_dflt (obtain ⟨e9zq, e8zq⟩ := o9zq; subst e9zq; subst e8zq)); (try dsimp only); (try k_sweep); (try k_fold))))) | walk1 | (dsimp only; (first | ((with_reducible show wpAny _ _ (call (Value.type _) _) _ _ _); (with_reducible ((k_here; (with_reducible show wpAny _ _ (call (Value.type _) [Value.ref _]) _ _ _); k_dflt (refine' bytes_K ?FT19 ?NT19 ?lT19 ?iT19 ?rT19 ?zT19 ?hT19 ?_; (case FT19 => k_asm); (case NT19 => k_asm); (case lT19 => is_list); (case iT19 => l_ints); (case rT19 => exact word_in (by omega) (by omega)); (case zT19 => (simp only [sizeLine_eq, List.length_cons, List.length_nil]; decide)); (case hT19 => with_unfolding_all rfl); k_whole); intro hpzq tpzq kpzq Fpzq Npzq hBpzq; (try dsimp only [List.map]); (try k_sweep))))) | (with_reducible ((k_here; (with_reducible show wpAny _ _ (binaryOp Operator.Add (Value.bytes _ _) (Value.bytes _ _)) _ _ _); k_dflt (refine' KBy.add_bytes ?zT18 ?_; (case zT18 => ((simp only [Array.size_append, List.size_toArray, List.length_cons, List.length_nil]); omega)); k_whole); intro _ _))) | ((with_reducible show wpAny _ _ (call (Value.ref _) _) _ _ _); (with_reducible ((k_here; (with_reducible show wpAny _ _ (call (Value.ref 93) _) _ _ _); k_dflt ( refine' meet_use (has_meets _ _ _ _) ?k1T17 ?k2T17 ?k3T17 ?k4T17 ?k5T17 ?kKT17 ?kdT17 ?kuT17 ?_; (case k1T17 => k_asm); (case k2T17 => k_asm); (case k3T17 => k_asm); (case k4T17 => k_asm); (case k5T17 => k_asm); (case kKT17 => first | exact rfl | assumption); (case kdT17 => ((try simp only [depth_under_make, depth_under_kw, depth_in1, depth_deeper, depth_caller]); (try dsimp only [ktrTop]); omega)); (case kuT17 => ((try simp only [units_in1, units_deeper, Around.mark_units, units_caller]); (try dsimp only [ktrTop]); omega))); intro v9zq n9zq h9zq tk9zq F9zq N9zq o9zq; (k_dflt (obtain ⟨e9zq, e8zq⟩ := o9zq; subst e9zq; subst e8zq)); (try dsimp only); (try k_sweep); (try k_fold))))) | walk1)) | (leave1; walk_say "STEP leave1"; try dsimp only) | fail "no step"))
  all_goals (with_reducible rename News h₀ L _ (_ :: _) => zN)
  all_goals (with_reducible rename News h₀ L _ rest => zP)
  all_goals (refine hret _ ([(x, instObj 111 d), (d, pieceDict w c P D t1 t2 t3 tc tp td)] ++ rest) _ _ (by with_reducible assumption) (news_join zN zP (by lcg_sub)) (bytesOut_of ?_))
  all_goals first
    | (with_reducible refine encA_has ?_); with_reducible assumption
    | (with_reducible refine encA_not ?_); with_reducible assumption
end Mine
end
section
open PySem PySem.W PyProof.Rows PySem.Calls PySem.Spec PySem.Builtin
set_option Elab.async false
set_option maxRecDepth 100000
set_option maxHeartbeats 0
namespace Mine
theorem take_eq {id : String} {b : Array UInt8} {t : Tok} : Bytes.takeBufferQuiet? id (.bytes b t) 0 = pure (some (b, none)) := by
  unfold Bytes.takeBufferQuiet? Bytes.takeBuffer?
  rw [KBy.special_eq KBy.look_buffer, KBy.own_buffer]
  have e : Bytes.buffer? id (.bytes b t) (full := (0 : Int) == Bytes.fullReadOnly) = pure (some b) := by
    unfold Bytes.buffer?
    rw [KBy.special_eq KBy.look_buffer, KBy.own_buffer, KBy.own_release]
    kernel_rfl
  simp only [pure_bind]
  rw [e]
  kernel_rfl

theorem wp_range {M : Model} {A : Around} {E : Value → Shared → Prop} {s : Shared} {β : Type} {n : Nat} (f : Nat → β → Sem (ForInStep β)) (I : Nat → β → Shared → Prop) (Q : β → Shared → Prop)
    (turn : ∀ i b s, i < n → I i b s → wpAny M A (f i b) (fun r s' => match r with | .yield b' => I (i + 1) b' s' | .done b' => Q b' s') E s) (fin : ∀ b s, I n b s → Q b s) (b : β) (h : I 0 b s) : wpAny M A (forIn [:n] b f) Q E s := by
  have e : forIn [:n] b f = forIn (List.range' 0 n) b f := by simp [Std.Legacy.Range.forIn_eq_forIn_range', Std.Legacy.Range.size]
  rw [e]
  refine wpAny_forIn_list f (fun l b s => ∃ i, i + l.length = n ∧ l = List.range' i (n - i) ∧ I i b s) Q ?_ ?_ _ b ⟨0, by simp, by simp, h⟩
  · rintro x rest b s ⟨i, hi, hl, hI⟩
    have hlt : i < n := by simp only [List.length_cons] at hi; omega
    rw [show n - i = (n - (i + 1)) + 1 by omega, List.range'_succ] at hl
    obtain ⟨rfl, rfl⟩ := List.cons.inj hl
    refine wpAny_mono (turn x b s hlt hI) (fun r s' p => ?_) fun _ _ e => e
    cases r with
    | yield b' => exact ⟨x + 1, by simp only [List.length_range']; omega, rfl, p⟩
    | done b' => exact p
  · rintro b s ⟨i, hi, _, hI⟩
    have : i = n := by simpa using hi
    exact fin b s (this ▸ hI)
theorem joinLetGo_all {M : Model} {A : Around} {E : Value → Shared → Prop} {s : Shared} {Q : Unit → Shared → Prop} (keep : List Value) : ∀ (xs : List (Array UInt8 × Tok)), Q () s → wpAny M A (Bytes.joinLetGo (xs.map fun p => (Value.bytes p.1 p.2, none)) keep) Q E s
  | [], h => wpAny_pure h
  | p :: r, h => by
    rw [List.map_cons]
    unfold Bytes.joinLetGo
    exact wpAny_bind (wpAny_letGo (joinLetGo_all keep r h))
section
variable {b1 b2 b3 : Array UInt8} {t t1 t2 t3 : Tok} {q : Addr}
theorem meets_join3 : Meets («bytes.join» ⟨[.bytes #[] t, .ref q], []⟩) (fun _ R s => (∃ o n, s.heap.get? q = some o ∧ o.cls = .type "list" ∧ o.data = .seq #[.bytes b1 t1, .bytes b2 t2, .bytes b3 t3] n) ∧ b1.size + b2.size + b3.size ≤ 16777216 ∧ ∀ t' k, R (.ok (.ret (.bytes (b1 ++ b2 ++ b3) t'))) { s with toks := k }) := by
  refine .of_wp fun prog w A R s hS => ?_
  obtain ⟨⟨o, n, ho, hc, hd⟩, hsz, h⟩ := hS
  have hT : s.TypeIs (.ref q) "list" := ⟨o, ho, hc⟩
  unfold «bytes.join» Bytes.joinM
  show wpAny _ _ (selfAndOne _ _ >>= fun r => _) _ _ s
  refine wpAny_bind (wpAny_of_eq (a := (.bytes #[] t, .ref q)) rfl ?_)
  refine wpAny_bind ?_
  show wpAny _ _ (Bytes.joinItems (.ref q)) _ _ s
  unfold Bytes.joinItems
  refine wpAny_bind (wpAny_typeOf hT ?_)
  refine wpAny_pure ?_
  refine wpAny_bind ?_
  unfold seqItems?
  refine wpAny_bind (wpAny_load ho ?_)
  rw [hd]
  refine wpAny_pure ?_
  let xs : List (Array UInt8 × Tok) := [(b1, t1), (b2, t2), (b3, t3)]
  show wpAny _ _ (forIn [:3] (#[], []) _ >>= fun r => _) _ _ s
  refine wpAny_bind (wp_range _ (fun i z s' => s' = s ∧ z.1 = ((xs.take i).map Prod.fst).toArray ∧ z.2 = (xs.take i).map fun p => (Value.bytes p.1 p.2, none)) _ ?_ ?_ _ ⟨rfl, rfl, rfl⟩)
  · rintro i ⟨parts, taken⟩ s' hi ⟨rfl, rfl, rfl⟩
    have hi3 : i = 0 ∨ i = 1 ∨ i = 2 := by omega
    rcases hi3 with rfl | rfl | rfl
    all_goals
      dsimp only
      refine wpAny_bind (wpAny_bind (wpAny_load ho ?_))
      rw [hd]
      refine wpAny_pure ?_
      dsimp only
      refine wpAny_ite (KBy.ite_no (show ¬ (false = true) from Bool.false_ne_true) ?_)
      refine wpAny_bind (wpAny_holding (wpAny_of_eq take_eq ?_))
      dsimp only
      refine wpAny_bind (wpAny_bind (wpAny_load ho ?_))
      rw [hd]
      refine wpAny_pure ?_
      dsimp only
      refine wpAny_ite (KBy.ite_no (show ¬ (false = true) from Bool.false_ne_true) ?_)
      refine wpAny_pure ?_
      exact ⟨rfl, rfl, rfl⟩
  · rintro ⟨parts, taken⟩ s' ⟨rfl, rfl, rfl⟩
    dsimp only
    refine wpAny_bind (wpAny_of_eq (a := #[]) rfl ?_)
    have e1 : Array.foldl (fun x1 x2 => x1 + Array.size x2) ((#[] : Array UInt8).size * ((List.map Prod.fst (List.take 3 xs)).toArray.size - 1)) (List.map Prod.fst (List.take 3 xs)).toArray = b1.size + b2.size + b3.size := by simp [xs]
    have e2 : Bytes.joined #[] (List.map Prod.fst (List.take 3 xs)) = b1 ++ b2 ++ b3 := by simp [xs, Bytes.joined]
    rw [e1, e2]
    refine wpAny_ite (KBy.ite_no (by rw [KBy.tooLong_not hsz]; exact Bool.false_ne_true) ?_)
    refine wpAny_bind (wpAny_mkBytes ?_ (by rw [Array.size_append, Array.size_append, sizeLine_eq]; exact hsz))
    refine wpAny_bind (wpAny_holding (wpAny_point ?_))
    refine wpAny_bind (joinLetGo_all _ _ ?_)
    exact wpAny_pure ⟨_, rfl, h _ _⟩
theorem meets_join1 : Meets («bytes.join» ⟨[.bytes #[] t, .ref q], []⟩) (fun _ R s => (∃ o n, s.heap.get? q = some o ∧ o.cls = .type "list" ∧ o.data = .seq #[.bytes b1 t1] n) ∧ R (.ok (.ret (.bytes b1 t1))) s) := by
  refine .of_wp fun prog w A R s hS => ?_
  obtain ⟨⟨o, n, ho, hc, hd⟩, h⟩ := hS
  have hT : s.TypeIs (.ref q) "list" := ⟨o, ho, hc⟩
  unfold «bytes.join» Bytes.joinM
  show wpAny _ _ (selfAndOne _ _ >>= fun r => _) _ _ s
  refine wpAny_bind (wpAny_of_eq (a := (.bytes #[] t, .ref q)) rfl ?_)
  refine wpAny_bind ?_
  show wpAny _ _ (Bytes.joinItems (.ref q)) _ _ s
  unfold Bytes.joinItems
  refine wpAny_bind (wpAny_typeOf hT ?_)
  refine wpAny_pure ?_
  refine wpAny_bind ?_
  unfold seqItems?
  refine wpAny_bind (wpAny_load ho ?_)
  rw [hd]
  refine wpAny_pure ?_
  show wpAny _ _ (typeOf (.bytes b1 t1) >>= fun r => _) _ _ s
  refine wpAny_bind (wpAny_typeOf (typeIs_bytes s b1 t1) ?_)
  show wpAny _ _ (rule _ >>= fun r => _) _ _ s
  refine wpAny_bind (wpAny_rule ?_)
  exact wpAny_pure ⟨_, rfl, h⟩
theorem slot_join : Slot "bytes" "join" "bytes.join" :=
  .of (owner := "bytes") (n := "join") (by rw [typeLookup_type, builtinLookup_eq_fast]; kernel_rfl) (by decide +kernel) (by decide +kernel) (by decide +kernel)
    (by first | exact .inl (by decide +kernel) | exact .inr (by decide +kernel)) (by rw [isSubtype_type]; kernel_rfl)
theorem type_join : typeOf (.builtin "bytes.join") = pure (.type "method_descriptor") := by show builtinType _ = _; rw [builtinType_eq_fast]; kernel_rfl
theorem entry_join : entryFor table "bytes.join" = some Builtin.«bytes.join» := entryFor_of_tree (by kernel_rfl)
theorem args_join (a b : Value) : argsOk "bytes.join" ⟨[a, b], []⟩ := by
  unfold argsOk; rw [signature?_of (id := "bytes.join") (n := ['n', 'i', 'o', 'j']) (o := ['s', 'e', 't', 'y', 'b']) (by kernel_rfl) FB.owner_bytes]; kernel_rfl
end
section
variable {prog : Program} {w : World} {A : Around} {E : Value → Shared → Prop} {s : Shared} {b1 b2 b3 : Array UInt8} {t t1 t2 t3 : Tok} {q : Addr} {Q : Value → Shared → Prop} {h₀ : Heap} {L : Addr} {news : List (Addr × Obj)} {n : Nat}
theorem join3 (N : News h₀ L s.heap news) (hm : (q, ({ cls := .type "list", data := .seq #[.bytes b1 t1, .bytes b2 t2, .bytes b3 t3] n } : Obj)) ∈ news) (hsz : b1.size + b2.size + b3.size ≤ 16777216) (h : ∀ t' k, Q (.bytes (b1 ++ b2 ++ b3) t') { s with toks := k }) :
    wpAny (model prog w) A (call (.builtin "bytes.join") [.bytes #[] t, .ref q]) Q E s :=
  call_meets slot_join (typeIs_bytes _ _ _) entry_join (args_join _ _) meets_join3 ⟨⟨_, n, N.get hm, rfl, rfl⟩, hsz, h⟩
theorem join1 (N : News h₀ L s.heap news) (hm : (q, ({ cls := .type "list", data := .seq #[.bytes b1 t1] n } : Obj)) ∈ news) (h : Q (.bytes b1 t1) s) :
    wpAny (model prog w) A (call (.builtin "bytes.join") [.bytes #[] t, .ref q]) Q E s :=
  call_meets slot_join (typeIs_bytes _ _ _) entry_join (args_join _ _) meets_join1 ⟨⟨_, n, N.get hm, rfl, rfl⟩, h⟩
theorem join_method {M : Model} {b : Array UInt8} {pl : Sem Bool} {Q : Value × List Value → Shared → Prop} (h : Q (.builtin "bytes.join", [.bytes b t]) s) : wpAny M A (getMethod (.bytes b t) "join" pl) Q E s := by
  with_reducible exact KBd.method_of (.bytes b t) (typeIs_bytes _ _ _) slot_join type_join KBd.noRef h
end
end Mine
end
section
open PySem PySem.W PyProof.Rows PySem.Calls PySem.Spec PySem.Builtin
set_option Elab.async false
set_option maxRecDepth 100000
set_option maxHeartbeats 0
namespace Mine
noncomputable def zeros (n : Nat) : Array UInt8 := Classical.choose (⟨Array.replicate n 0, rfl⟩ : ∃ B : Array UInt8, B = Array.replicate n 0)
theorem zeros_def (n : Nat) : Array.replicate n 0 = zeros n := (Classical.choose_spec (⟨Array.replicate n 0, rfl⟩ : ∃ B : Array UInt8, B = Array.replicate n 0)).symm
theorem zeros_size (n : Nat) : (zeros n).size = n := by rw [← zeros_def]; exact Array.size_replicate
theorem int_no_bytes : typeLookup (.type "int") "__bytes__" = pure none := by rw [typeLookup_type, builtinLookup_eq_fast]; kernel_rfl
section
variable {prog : Program} {w : World} {A : Around} {E : Value → Shared → Prop} {s : Shared} {n : Int} {t : Tok} {Q : Value → Shared → Prop}
theorem new_count (h0 : 0 ≤ n) (h1 : n ≤ 16777216) (hQ : ∀ t k, Q (.bytes (zeros n.toNat) t) { s with toks := k }) :
    codeAny (model prog w) A (.call (.builtin "bytes.__new__") ⟨[.type "bytes", .int n t], []⟩) (wants Q E) s := by
  refine codeAny_of_tree ?_
  show wpAny _ A.in1 (do checkBuiltinCall "bytes.__new__" ⟨[.type "bytes", .int n t], []⟩; again (.builtin "bytes.__new__" ⟨[.type "bytes", .int n t], []⟩)) _ _ s
  refine wpAny_bind (wpAny_of_eq (F.bm_newCall _) (wpAny_pure ⟨plainId_quiet F.bm_plain _, codeAny_builtin F.bm_entry ?_⟩))
  rw [Around.under_plainId F.bm_plain _]
  have hT : s.TypeIs (.int n t) "int" := typeIs_int _ _ _
  unfold Builtin.«bytes.__new__»
  refine wpAny_bind (wpAny_of_eq (a := true) rfl ?_)
  refine bm_if_false rfl ?_
  refine wpAny_bind (wpAny_of_eq F.bm_sub ?_)
  refine bm_if_false rfl ?_
  refine wpAny_bind (wpAny_of_eq (F.bm_bind _) ?_)
  refine wpAny_bind (wpAny_of_eq (a := ()) rfl ?_)
  refine wpAny_bind (wpAny_of_eq (a := ()) rfl ?_)
  refine bm_if_false rfl ?_
  refine wpAny_bind (wpAny_specialOf hT int_no_bytes ?_)
  refine wpAny_bind (wpAny_of_eq (a := false) rfl ?_)
  refine bm_if_false rfl ?_
  refine wpAny_bind (wpAny_specialOf hT F.slot_int_index.lookup ?_)
  refine bm_if_false rfl ?_
  refine wpAny_bind (wpAny_attempt (wpAny_of_eq (rfl : asIndex (.int n t) = pure n) ?_))
  dsimp only
  refine bm_if_false (by simp only [Bytes.fitsIndex, Bool.not_eq_false', Bool.and_eq_true, decide_eq_true_eq]; omega) ?_
  refine wpAny_ite (KBy.ite_no (by omega) ?_)
  refine wpAny_ite (KBy.ite_no (by omega) ?_)
  refine bm_if_false (KBy.tooLong_not (by omega)) ?_
  refine wpAny_bind (wpAny_rule ?_)
  rw [zeros_def]
  refine wpAny_bind (wpAny_mkBytes ?_ (by rw [zeros_size, sizeLine_eq]; omega))
  exact wpAny_pure (hQ _ _)
theorem call_bytes_count (h0 : 0 ≤ n) (h1 : n ≤ 16777216) (hQ : ∀ t k, Q (.bytes (zeros n.toNat) t) { s with toks := k }) : wpAny (model prog w) A (call (.type "bytes") [.int n t]) Q E s := by
  refine callType_codes (Q₁ := fun obj s₁ => s₁.TypeIs obj "bytes" ∧ Q obj s₁) F.bm_called (F.bm_typeCall _) F.entry_object_init
    (new_count h0 h1 fun t' k => ⟨PySem.W.typeIs_bytes _ _ _, hQ t' k⟩) fun obj s₁ h₁ => ?_
  exact ⟨h₁.1, F.args_object_init_2 obj _, object_init_meets F.bm_called.init.lookup F.bm_called.made (by decide) prog w A.in1 _ s₁ ⟨h₁.1, rfl, h₁.2⟩⟩
end
end Mine
end
section
open PySem PySem.W PyProof.Rows PySem.Calls PySem.Spec PyProof.V
set_option Elab.async false
set_option maxRecDepth 100000
set_option maxHeartbeats 0
namespace Mine

/-- write_piece, called over any ledger that bears the piece -/
theorem wpiece_use {w : World} {dp un : Nat} {gd : Option (List Code)} {cn : Str} {cs : Scope} {aa : Addr} {ccd : Value} {cl : List (Str × Addr)} {outer : List Env} {A₀ : Around} {base h₀ hb0 : Heap} {mg mb : Str → Option Value} {L : Addr} {m : Str → Option Value} {s : Shared} {Q E : Value → Shared → Prop}
    {x d : Addr} {c : Int} {P D : Array UInt8} {t1 t2 t3 tc tp td : Tok} {news : Led} (hx : (x, instObj 111 d) ∈ news) (hdd : (d, pieceDict w c P D t1 t2 t3 tc tp td) ∈ news) (h0 : 0 ≤ c) (h1 : c < 256) (hP : P.size ≤ 65533) (hD : D.size ≤ 16)
    (B : Below A₀ base outer h₀) (F : Fr h₀ L s.heap m) (X : (hd.heap_39 w.params).In h₀) (N : News h₀ L s.heap news) (T : Top hd.view_39 (looseW hd.view_39 [Str.ofString "Piece"]) (ExcName.means hb0) mg mb h₀) (hk : cs.kind = .function)
    (hd : dp + 4 < 900) (hu : un + 32 < 900)
    (hret : ∀ t h' tk', Fr h₀ L h' m → News h₀ L h' news → Q (.bytes (encA c P D) t) { s with heap := h', toks := tk' }) :
    wpAny (model PySem.Challenge.rw_pf0228_01.row.prog w) (ktrTop dp un gd cn cs L aa ccd cl outer) (call (.ref 122) [.ref x]) Q E s := by
  refine meet_use (wpiece_meets w x d c P D t1 t2 t3 tc tp td (news.filter fun p => decide (p.1 ≠ x ∧ p.1 ≠ d)) (fun p hp => of_decide_eq_true (List.mem_filter.mp hp).2) h0 h1 hP hD) B F X (fun p hp => ?_) T hk hd (by omega) ?_
  · rcases List.mem_append.mp hp with hp | hp
    · simp only [List.mem_cons, List.not_mem_nil, or_false] at hp
      rcases hp with rfl | rfl
      · exact N _ hx
      · exact N _ hdd
    · exact N p (List.mem_filter.mp hp).1
  · rintro v news' h' tk' F' N' ⟨⟨t, rfl⟩, rfl⟩
    refine hret t h' tk' F' fun p hp => ?_
    have key : ∀ o, (p.1, o) ∈ news → p = (p.1, o) := fun o ho => by
      have a := (N _ hp).1
      rw [(N _ ho).1] at a
      exact (Prod.ext rfl (Option.some.inj a).symm)
    by_cases e1 : p.1 = x
    · have e := key (instObj 111 d) (e1 ▸ hx)
      rw [e1] at e
      rw [e]
      exact N' _ (.head _)
    · by_cases e2 : p.1 = d
      · have e := key (pieceDict w c P D t1 t2 t3 tc tp td) (e2 ▸ hdd)
        rw [e2] at e
        rw [e]
        exact N' _ (.tail _ (.head _))
      · exact N' p (List.mem_append_right _ (List.mem_filter.mpr ⟨hp, decide_eq_true ⟨e1, e2⟩⟩))





theorem wpieces1 (w : World) (q : Addr) (nq : Nat) (x1 d1 : Addr) (c1 : Int) (P1 D1 : Array UInt8) (t11 t21 t31 tc1 tp1 td1 : Tok) (h01 : 0 ≤ c1) (h11 : c1 < 256) (hP1 : P1.size ≤ 65533) (hD1 : D1.size ≤ 16) (hA1 : (encA c1 P1 D1).size ≤ 100000) (rest : Led) (hr : ∀ p ∈ rest, p.1 ∉ ([(q, listOf #[.ref x1] nq), (x1, instObj 111 d1), (d1, pieceDict w c1 P1 D1 t11 t21 t31 tc1 tp1 td1)] : Led).map (·.1)) :
    Meet w 6 127 [.ref q] ([(q, listOf #[.ref x1] nq), (x1, instObj 111 d1), (d1, pieceDict w c1 P1 D1 t11 t21 t31 tc1 tp1 td1)] ++ rest) (bytesOut (encA c1 P1 D1) ([(q, listOf #[.ref x1] nq), (x1, instObj 111 d1), (d1, pieceDict w c1 P1 D1 t11 t21 t31 tc1 tp1 td1)] ++ rest)) := by
  unfold Meet
  k_fill
  w_top off
  intro dp un gd cn cs aa ccd cl outer A₀ base h₀ hb0 mg mb L m s Q E B F X N T hk hdp hun hret
  refine wpAny_call ?_
  k_dflt (refine' code_keep (own := [(q, listOf #[.ref x1] nq), (x1, instObj 111 d1), (d1, pieceDict w c1 P1 D1 t11 t21 t31 tc1 tp1 td1)]) (rest := rest) ?k1 ?k2 ?k3 ?k4 ?kO ?k5 ?kA ?kF ?kK ?k6 ?k7 ?k8 ?k9 ?kB ?_ ?c2 ?c3 ?c4 ?c5; (case kA => exact rfl); (case kF => exact rfl); (case kK => assumption); (case k1 => k_asm); (case k2 => k_asm); (case k3 => k_asm); (case k4 => exact N); (case kO => exact hr); (case k5 => k_asm); (case k6 => k_is); (case k7 => k_is); (case k8 => ktr_room); (case k9 => exact BindsTo.of_eq rfl); (case c5 => decide); (case kB => exact locs rfl); (case c2 => exact rfl); (case c3 => exact rfl); (case c4 => exact rfl); k_whole)
  intro g' L' h' FG' NG' F' N' B' X' T' l1 hLr
  clear NG' N hLr
  k_lt l1
  (try dsimp only)
  (try k_fold)
  (repeat' (first | (k_unfold; (try dsimp only)) | (k_end; wrow_close) | ((with_reducible show wpAny _ _ (call (Value.builtin _) _) _ _ _); (with_reducible ((k_here; k_dflt (first | (refine' join3 ?NT24 ?mT24 ?zT24 ?_; (case NT24 => k_asm); (case mT24 => k_mem); (case zT24 => omega); k_whole; intro t9zq k9zq) | (refine' join1 ?NT24 ?mT24 ?_; (case NT24 => k_asm); (case mT24 => k_mem); k_whole)))))) | ((with_reducible show wpAny _ _ (getMethod (Value.bytes ..) _ _) _ _ _); (with_reducible ((k_here; (with_reducible refine join_method ?_))))) | ((with_reducible show LCg.CompSrc ..); (with_reducible ((k_here; k_dflt (refine LCg.CompSrc.ledger (by rfl) (by k_asm) (by k_asm) (by k_mem) (by exact Nat.le_of_ble_eq_true rfl) ?_; intro g9pzq; lcg_lit))))) | ((with_reducible show wpAny _ _ (eval (PySem.Expr.ListComp ..) _) _ _ _); (with_reducible ((k_here; k_dflt (refine LCg.ListComp_U (F₀ := by k_asm) (by with_unfolding_all rfl) (by decide) (by rfl) (by decide) (by rfl) ?_))))) | ((with_reducible show wpAny _ _ (call (Value.ref _) _) _ _ _); (with_reducible ((k_here; (with_reducible show wpAny _ _ (call (Value.ref 122) _) _ _ _); k_dflt ( refine' wpiece_use ?kxT20 ?kyT20 ?kaT20 ?kbT20 ?kpT20 ?kqT20 ?k1T20 ?k2T20 ?k3T20 ?k4T20 ?k5T20 ?kKT20 ?kdT20 ?kuT20 ?_; (case k1T20 => k_asm); (case k2T20 => k_asm); (case k3T20 => k_asm); (case k4T20 => k_asm); (case k5T20 => k_asm); (case kxT20 => k_mem); (case kyT20 => k_mem); (case kaT20 => first | assumption | decide); (case kbT20 => first | assumption | decide); (case kpT20 => first | assumption | omega); (case kqT20 => first | assumption | omega); (case kKT20 => first | exact rfl | assumption); (case kdT20 => ((try simp only [depth_under_make, depth_under_kw, depth_in1, depth_deeper, depth_caller]); (try dsimp only [ktrTop]); omega)); (case kuT20 => ((try simp only [units_in1, units_deeper, Around.mark_units, units_caller]); (try dsimp only [ktrTop]); omega))); intro t9zq h9zq tk9zq F9zq N9zq; (try dsimp only); (try k_sweep); (try k_fold))))) | walk1 | (dsimp only; (first | ((with_reducible show wpAny _ _ (call (Value.builtin _) _) _ _ _); (with_reducible ((k_here; k_dflt (first | (refine' join3 ?NT24 ?mT24 ?zT24 ?_; (case NT24 => k_asm); (case mT24 => k_mem); (case zT24 => omega); k_whole; intro t9zq k9zq) | (refine' join1 ?NT24 ?mT24 ?_; (case NT24 => k_asm); (case mT24 => k_mem); k_whole)))))) | ((with_reducible show wpAny _ _ (getMethod (Value.bytes ..) _ _) _ _ _); (with_reducible ((k_here; (with_reducible refine join_method ?_))))) | ((with_reducible show LCg.CompSrc ..); (with_reducible ((k_here; k_dflt (refine LCg.CompSrc.ledger (by rfl) (by k_asm) (by k_asm) (by k_mem) (by exact Nat.le_of_ble_eq_true rfl) ?_; intro g9pzq; lcg_lit))))) | ((with_reducible show wpAny _ _ (eval (PySem.Expr.ListComp ..) _) _ _ _); (with_reducible ((k_here; k_dflt (refine LCg.ListComp_U (F₀ := by k_asm) (by with_unfolding_all rfl) (by decide) (by rfl) (by decide) (by rfl) ?_))))) | ((with_reducible show wpAny _ _ (call (Value.ref _) _) _ _ _); (with_reducible ((k_here; (with_reducible show wpAny _ _ (call (Value.ref 122) _) _ _ _); k_dflt ( refine' wpiece_use ?kxT20 ?kyT20 ?kaT20 ?kbT20 ?kpT20 ?kqT20 ?k1T20 ?k2T20 ?k3T20 ?k4T20 ?k5T20 ?kKT20 ?kdT20 ?kuT20 ?_; (case k1T20 => k_asm); (case k2T20 => k_asm); (case k3T20 => k_asm); (case k4T20 => k_asm); (case k5T20 => k_asm); (case kxT20 => k_mem); (case kyT20 => k_mem); (case kaT20 => first | assumption | decide); (case kbT20 => first | assumption | decide); (case kpT20 => first | assumption | omega); (case kqT20 => first | assumption | omega); (case kKT20 => first | exact rfl | assumption); (case kdT20 => ((try simp only [depth_under_make, depth_under_kw, depth_in1, depth_deeper, depth_caller]); (try dsimp only [ktrTop]); omega)); (case kuT20 => ((try simp only [units_in1, units_deeper, Around.mark_units, units_caller]); (try dsimp only [ktrTop]); omega))); intro t9zq h9zq tk9zq F9zq N9zq; (try dsimp only); (try k_sweep); (try k_fold))))) | walk1)) | (leave1; walk_say "STEP leave1"; try dsimp only) | fail "no step"))
  all_goals (with_reducible rename News h₀ L _ (_ :: _) => zN)
  all_goals (with_reducible rename News h₀ L _ rest => zP)
  all_goals (refine hret _ ([(q, listOf #[.ref x1] nq), (x1, instObj 111 d1), (d1, pieceDict w c1 P1 D1 t11 t21 t31 tc1 tp1 td1)] ++ rest) _ _ (by with_reducible assumption) (news_join zN zP (by lcg_sub)) (bytesOut_of rfl))

theorem wpieces3 (w : World) (q : Addr) (nq : Nat) (x1 d1 : Addr) (c1 : Int) (P1 D1 : Array UInt8) (t11 t21 t31 tc1 tp1 td1 : Tok) (h01 : 0 ≤ c1) (h11 : c1 < 256) (hP1 : P1.size ≤ 65533) (hD1 : D1.size ≤ 16) (hA1 : (encA c1 P1 D1).size ≤ 100000) (x2 d2 : Addr) (c2 : Int) (P2 D2 : Array UInt8) (t12 t22 t32 tc2 tp2 td2 : Tok) (h02 : 0 ≤ c2) (h12 : c2 < 256) (hP2 : P2.size ≤ 65533) (hD2 : D2.size ≤ 16) (hA2 : (encA c2 P2 D2).size ≤ 100000) (x3 d3 : Addr) (c3 : Int) (P3 D3 : Array UInt8) (t13 t23 t33 tc3 tp3 td3 : Tok) (h03 : 0 ≤ c3) (h13 : c3 < 256) (hP3 : P3.size ≤ 65533) (hD3 : D3.size ≤ 16) (hA3 : (encA c3 P3 D3).size ≤ 100000) (rest : Led) (hr : ∀ p ∈ rest, p.1 ∉ ([(q, listOf #[.ref x1, .ref x2, .ref x3] nq), (x1, instObj 111 d1), (d1, pieceDict w c1 P1 D1 t11 t21 t31 tc1 tp1 td1), (x2, instObj 111 d2), (d2, pieceDict w c2 P2 D2 t12 t22 t32 tc2 tp2 td2), (x3, instObj 111 d3), (d3, pieceDict w c3 P3 D3 t13 t23 t33 tc3 tp3 td3)] : Led).map (·.1)) :
    Meet w 6 127 [.ref q] ([(q, listOf #[.ref x1, .ref x2, .ref x3] nq), (x1, instObj 111 d1), (d1, pieceDict w c1 P1 D1 t11 t21 t31 tc1 tp1 td1), (x2, instObj 111 d2), (d2, pieceDict w c2 P2 D2 t12 t22 t32 tc2 tp2 td2), (x3, instObj 111 d3), (d3, pieceDict w c3 P3 D3 t13 t23 t33 tc3 tp3 td3)] ++ rest) (bytesOut (encA c1 P1 D1 ++ encA c2 P2 D2 ++ encA c3 P3 D3) ([(q, listOf #[.ref x1, .ref x2, .ref x3] nq), (x1, instObj 111 d1), (d1, pieceDict w c1 P1 D1 t11 t21 t31 tc1 tp1 td1), (x2, instObj 111 d2), (d2, pieceDict w c2 P2 D2 t12 t22 t32 tc2 tp2 td2), (x3, instObj 111 d3), (d3, pieceDict w c3 P3 D3 t13 t23 t33 tc3 tp3 td3)] ++ rest)) := by
  unfold Meet
  k_fill
  w_top off
  intro dp un gd cn cs aa ccd cl outer A₀ base h₀ hb0 mg mb L m s Q E B F X N T hk hdp hun hret
  refine wpAny_call ?_
  k_dflt (refine' code_keep (own := [(q, listOf #[.ref x1, .ref x2, .ref x3] nq), (x1, instObj 111 d1), (d1, pieceDict w c1 P1 D1 t11 t21 t31 tc1 tp1 td1), (x2, instObj 111 d2), (d2, pieceDict w c2 P2 D2 t12 t22 t32 tc2 tp2 td2), (x3, instObj 111 d3), (d3, pieceDict w c3 P3 D3 t13 t23 t33 tc3 tp3 td3)]) (rest := rest) ?k1 ?k2 ?k3 ?k4 ?kO ?k5 ?kA ?kF ?kK ?k6 ?k7 ?k8 ?k9 ?kB ?_ ?c2 ?c3 ?c4 ?c5; (case kA => exact rfl); (case kF => exact rfl); (case kK => assumption); (case k1 => k_asm); (case k2 => k_asm); (case k3 => k_asm); (case k4 => exact N); (case kO => exact hr); (case k5 => k_asm); (case k6 => k_is); (case k7 => k_is); (case k8 => ktr_room); (case k9 => exact BindsTo.of_eq rfl); (case c5 => decide); (case kB => exact locs rfl); (case c2 => exact rfl); (case c3 => exact rfl); (case c4 => exact rfl); k_whole)
  intro g' L' h' FG' NG' F' N' B' X' T' l1 hLr
  clear NG' N hLr
  k_lt l1
  (try dsimp only)
  (try k_fold)
  (repeat' (first | (k_unfold; (try dsimp only)) | (k_end; wrow_close) | ((with_reducible show wpAny _ _ (call (Value.builtin _) _) _ _ _); (with_reducible ((k_here; k_dflt (first | (refine' join3 ?NT24 ?mT24 ?zT24 ?_; (case NT24 => k_asm); (case mT24 => k_mem); (case zT24 => omega); k_whole; intro t9zq k9zq) | (refine' join1 ?NT24 ?mT24 ?_; (case NT24 => k_asm); (case mT24 => k_mem); k_whole)))))) | ((with_reducible show wpAny _ _ (getMethod (Value.bytes ..) _ _) _ _ _); (with_reducible ((k_here; (with_reducible refine join_method ?_))))) | ((with_reducible show LCg.CompSrc ..); (with_reducible ((k_here; k_dflt (refine LCg.CompSrc.ledger (by rfl) (by k_asm) (by k_asm) (by k_mem) (by exact Nat.le_of_ble_eq_true rfl) ?_; intro g9pzq; lcg_lit))))) | ((with_reducible show wpAny _ _ (eval (PySem.Expr.ListComp ..) _) _ _ _); (with_reducible ((k_here; k_dflt (refine LCg.ListComp_U (F₀ := by k_asm) (by with_unfolding_all rfl) (by decide) (by rfl) (by decide) (by rfl) ?_))))) | ((with_reducible show wpAny _ _ (call (Value.ref _) _) _ _ _); (with_reducible ((k_here; (with_reducible show wpAny _ _ (call (Value.ref 122) _) _ _ _); k_dflt ( refine' wpiece_use ?kxT20 ?kyT20 ?kaT20 ?kbT20 ?kpT20 ?kqT20 ?k1T20 ?k2T20 ?k3T20 ?k4T20 ?k5T20 ?kKT20 ?kdT20 ?kuT20 ?_; (case k1T20 => k_asm); (case k2T20 => k_asm); (case k3T20 => k_asm); (case k4T20 => k_asm); (case k5T20 => k_asm); (case kxT20 => k_mem); (case kyT20 => k_mem); (case kaT20 => first | assumption | decide); (case kbT20 => first | assumption | decide); (case kpT20 => first | assumption | omega); (case kqT20 => first | assumption | omega); (case kKT20 => first | exact rfl | assumption); (case kdT20 => ((try simp only [depth_under_make, depth_under_kw, depth_in1, depth_deeper, depth_caller]); (try dsimp only [ktrTop]); omega)); (case kuT20 => ((try simp only [units_in1, units_deeper, Around.mark_units, units_caller]); (try dsimp only [ktrTop]); omega))); intro t9zq h9zq tk9zq F9zq N9zq; (try dsimp only); (try k_sweep); (try k_fold))))) | walk1 | (dsimp only; (first | ((with_reducible show wpAny _ _ (call (Value.builtin _) _) _ _ _); (with_reducible ((k_here; k_dflt (first | (refine' join3 ?NT24 ?mT24 ?zT24 ?_; (case NT24 => k_asm); (case mT24 => k_mem); (case zT24 => omega); k_whole; intro t9zq k9zq) | (refine' join1 ?NT24 ?mT24 ?_; (case NT24 => k_asm); (case mT24 => k_mem); k_whole)))))) | ((with_reducible show wpAny _ _ (getMethod (Value.bytes ..) _ _) _ _ _); (with_reducible ((k_here; (with_reducible refine join_method ?_))))) | ((with_reducible show LCg.CompSrc ..); (with_reducible ((k_here; k_dflt (refine LCg.CompSrc.ledger (by rfl) (by k_asm) (by k_asm) (by k_mem) (by exact Nat.le_of_ble_eq_true rfl) ?_; intro g9pzq; lcg_lit))))) | ((with_reducible show wpAny _ _ (eval (PySem.Expr.ListComp ..) _) _ _ _); (with_reducible ((k_here; k_dflt (refine LCg.ListComp_U (F₀ := by k_asm) (by with_unfolding_all rfl) (by decide) (by rfl) (by decide) (by rfl) ?_))))) | ((with_reducible show wpAny _ _ (call (Value.ref _) _) _ _ _); (with_reducible ((k_here; (with_reducible show wpAny _ _ (call (Value.ref 122) _) _ _ _); k_dflt ( refine' wpiece_use ?kxT20 ?kyT20 ?kaT20 ?kbT20 ?kpT20 ?kqT20 ?k1T20 ?k2T20 ?k3T20 ?k4T20 ?k5T20 ?kKT20 ?kdT20 ?kuT20 ?_; (case k1T20 => k_asm); (case k2T20 => k_asm); (case k3T20 => k_asm); (case k4T20 => k_asm); (case k5T20 => k_asm); (case kxT20 => k_mem); (case kyT20 => k_mem); (case kaT20 => first | assumption | decide); (case kbT20 => first | assumption | decide); (case kpT20 => first | assumption | omega); (case kqT20 => first | assumption | omega); (case kKT20 => first | exact rfl | assumption); (case kdT20 => ((try simp only [depth_under_make, depth_under_kw, depth_in1, depth_deeper, depth_caller]); (try dsimp only [ktrTop]); omega)); (case kuT20 => ((try simp only [units_in1, units_deeper, Around.mark_units, units_caller]); (try dsimp only [ktrTop]); omega))); intro t9zq h9zq tk9zq F9zq N9zq; (try dsimp only); (try k_sweep); (try k_fold))))) | walk1)) | (leave1; walk_say "STEP leave1"; try dsimp only) | fail "no step"))
  all_goals (with_reducible rename News h₀ L _ (_ :: _) => zN)
  all_goals (with_reducible rename News h₀ L _ rest => zP)
  all_goals (refine hret _ ([(q, listOf #[.ref x1, .ref x2, .ref x3] nq), (x1, instObj 111 d1), (d1, pieceDict w c1 P1 D1 t11 t21 t31 tc1 tp1 td1), (x2, instObj 111 d2), (d2, pieceDict w c2 P2 D2 t12 t22 t32 tc2 tp2 td2), (x3, instObj 111 d3), (d3, pieceDict w c3 P3 D3 t13 t23 t33 tc3 tp3 td3)] ++ rest) _ _ (by with_reducible assumption) (news_join zN zP (by lcg_sub)) (bytesOut_of rfl))

end Mine
end
section
open PySem PySem.W PyProof.Rows PySem.Calls PySem.Spec PyProof.V
set_option Elab.async false
set_option maxRecDepth 100000
set_option maxHeartbeats 0
namespace Mine
/-- a turn of the rows: the piece, over the block's three objects, the cell and what stands -/
def PieceEl (w : World) (h₀ : Heap) (L : Addr) (m : Str → Option Value) (s₁ : Shared) (l : Addr) (rest : Led) (y : Value) (s₂ : Shared) : Prop :=
  ∃ h' tk' news', s₂ = { s₁ with heap := h', toks := tk' } ∧ Fr h₀ L h' m ∧ News h₀ L h' news' ∧ pieceOut w l rest y news'
theorem pieceEl_of {w : World} {h₀ : Heap} {L : Addr} {m : Str → Option Value} {s₁ : Shared} {l : Addr} {rest : Led} {y : Value} {h' : Heap} {tk' : Nat} {news' : Led} (F : Fr h₀ L h' m) (N : News h₀ L h' news') (o : pieceOut w l rest y news') :
    PieceEl w h₀ L m s₁ l rest y { s₁ with heap := h', toks := tk' } := ⟨h', tk', news', rfl, F, N, o⟩
theorem off3_lt {I C D : Addr} {l : Led} (h : ∀ q ∈ l, q.1 ≠ I ∧ q.1 ≠ C ∧ q.1 ≠ D) : LCg.Off3 I C D l := LCg.Off3.of h
/-- one turn: from the piece to the block's end -/
theorem piece_turn {w : World} {h₀ : Heap} {L : Addr} {m : Str → Option Value} {s₁ s₂ : Shared} {l I C D : Addr} {oI oC oD : Obj} {cc : Addr} {oc : Obj} {more : Led} {y : Value} {rest : Value → Led → Prop}
    (q : PieceEl w h₀ L m s₁ l ((I, oI) :: (C, oC) :: (D, oD) :: (cc, oc) :: more) y s₂)
    (off : LCg.Off3 I C D ((cc, oc) :: more)) (offl : @Ne Nat l I ∧ @Ne Nat l C ∧ @Ne Nat l D)
    (k : ∀ (tup x d : Addr) (c : Int) (P D' : List Int) (t1 t2 t3 tc tp td te : Tok) (a b : Int) (ta tb : Tok) (n : Nat), y = .ref tup → 0 ≤ c → c < 256 → P.length ≤ 3 → D'.length ≤ 2 → 0 ≤ a → 0 ≤ b → b < 2147483648 →
      (@LT.lt Nat _ l d ∧ @LT.lt Nat _ d x ∧ @LT.lt Nat _ x tup) →
      rest y ((tup, rowObj x (enc c P D') te) :: (x, instObj 111 d) :: (d, pieceDict w c (byteArr P) (byteArr D') t1 t2 t3 tc tp td) :: (l, seedObj a b ta tb n) :: (cc, oc) :: more)) :
    LCg.CompEnd h₀ L m s₁ I oI C oC D oD (fun _ => True) rest y s₂ := by
  obtain ⟨h', tk', news', e, F', N', tup, x, d, c, P, D', t1, t2, t3, tc, tp, td, te, a, b, ta, tb, n, ey, h0, h1, hP, hD, ha, hb, hb2, en, ho, hlt⟩ := q
  have lI : @LT.lt Nat _ I d := hlt (I, oI) (.head _)
  have lC : @LT.lt Nat _ C d := hlt (C, oC) (.tail _ (.head _))
  have lD : @LT.lt Nat _ D d := hlt (D, oD) (.tail _ (.tail _ (.head _)))
  refine ⟨h', tk', _, e, F', ?_, ?_, trivial, k tup x d c P D' t1 t2 t3 tc tp td te a b ta tb n ey h0 h1 hP hD ha hb hb2 ho⟩
  · subst en
    intro p hp
    refine N' p ?_
    simp only [List.mem_cons] at hp ⊢
    rcases hp with h | h | h | h | h | h | h | h <;> simp [h]
  · refine off3_lt fun p hp => ?_
    have o3 := off.mem
    simp only [List.mem_cons] at hp
    rcases hp with rfl | rfl | rfl | rfl | hp
    · refine ⟨neN ?_, neN ?_, neN ?_⟩ <;> (dsimp only; omega)
    · refine ⟨neN ?_, neN ?_, neN ?_⟩ <;> (dsimp only; omega)
    · refine ⟨neN ?_, neN ?_, neN ?_⟩ <;> (dsimp only; omega)
    · exact offl
    · exact o3 p (List.mem_cons.mpr hp)
theorem rows_step {prog : Program} {w : World} {A : Around} {h₀ : Heap} {L : Addr} {m : Str → Option Value} {env : Env} {elt : PySem.Expr} {x : Str} {scope : Scope} {cl : List (Str × Addr)} {s : Shared} {P : Nat → Value → Prop} {Fin : List Value → Led → Prop}
    {l cc : Addr} {oc : Obj} {a b : Int} {ta tb : Tok} {n : Nat} {news more : Led} {k i : Nat} {ys : List Value} (ha : 0 ≤ a) (hb : 0 ≤ b) (hb2 : b < 2147483648) (hcl : cc < l) (hn : ∀ p, p ∈ (l, seedObj a b ta tb n) :: (cc, oc) :: more ↔ p ∈ news) (hm : ∀ p ∈ more, p.1 ≠ l)
    (turn : ∀ ys (more : Led) a b ta tb n I oI C oC D m₂ h tk (E' : Value → Shared → Prop), 0 ≤ a → 0 ≤ b → b < 2147483648 → LCg.NsObj oC m₂ → Fr h₀ L h m →
      News h₀ L h ((l, seedObj a b ta tb n) :: (I, oI) :: (C, oC) :: (D, LCg.lst ys) :: (cc, oc) :: more) → (∀ q ∈ (I, oI) :: (C, oC) :: (D, LCg.lst ys) :: (cc, oc) :: more, q.1 ≠ l) →
      wpAny (model prog w) A (eval elt (compEnvC scope cl C env)) (PieceEl w h₀ L m { s with heap := h, toks := tk } l ((I, oI) :: (C, oC) :: (D, LCg.lst ys) :: (cc, oc) :: more)) E' { s with heap := h, toks := tk })
    (next : ∀ (tup x' d : Addr) (c : Int) (P' D' : List Int) (t1 t2 t3 tc tp td te : Tok) (a b : Int) (ta tb : Tok) (n : Nat), 0 ≤ c → c < 256 → P'.length ≤ 3 → D'.length ≤ 2 → 0 ≤ a → 0 ≤ b → b < 2147483648 →
      (∀ p ∈ (tup, rowObj x' (enc c P' D') te) :: (x', instObj 111 d) :: (d, pieceDict w c (byteArr P') (byteArr D') t1 t2 t3 tc tp td) :: more, p.1 ≠ l) →
      LCg.CompRest prog w A h₀ L m env elt x scope cl s (fun _ => True) P Fin k (i + 1) (ys ++ [.ref tup]) ((tup, rowObj x' (enc c P' D') te) :: (x', instObj 111 d) :: (d, pieceDict w c (byteArr P') (byteArr D') t1 t2 t3 tc tp td) :: (l, seedObj a b ta tb n) :: (cc, oc) :: more)) :
    LCg.CompRest prog w A h₀ L m env elt x scope cl s (fun _ => True) P Fin (k + 1) i ys news := by
  refine LCg.CompRest.succ ?_
  intro v I oI C oC D m₂ h tk E' _ hC _ F N off ne
  have o3 := off.mem
  have oL := o3 _ ((hn _).mp (.head _))
  refine wpAny_mono (turn ys more a b ta tb n I oI C oC D m₂ h tk E' ha hb hb2 hC F (fun p hp => N p ?_) (fun q hq => ?_)) (fun y s₂ q => ?_) fun _ _ e => e
  · simp only [List.mem_cons] at hp ⊢
    rcases hp with h | h | h | h | h
    · exact .inr (.inr (.inr ((hn p).mp (by simp [h]))))
    · exact .inl h
    · exact .inr (.inl h)
    · exact .inr (.inr (.inl h))
    · exact .inr (.inr (.inr ((hn p).mp (by simp [h]))))
  · simp only [List.mem_cons] at hq
    rcases hq with rfl | rfl | rfl | rfl | hq
    · exact Ne.symm oL.1
    · exact Ne.symm oL.2.1
    · exact Ne.symm oL.2.2
    · exact Nat.ne_of_lt hcl
    · exact hm q hq
  · refine piece_turn q (off3_lt fun p hp => o3 p ((hn p).mp (.tail _ hp))) oL ?_
    intro tup x' d c P' D' t1 t2 t3 tc tp td te a' b' ta' tb' n' ey h0 h1 hP hD ha' hb' hb2' ho
    subst ey
    refine next tup x' d c P' D' t1 t2 t3 tc tp td te a' b' ta' tb' n' h0 h1 hP hD ha' hb' hb2' fun p hp => ?_
    simp only [List.mem_cons] at hp
    rcases hp with rfl | rfl | rfl | hp
    · refine neN ?_; dsimp only; omega
    · refine neN ?_; dsimp only; omega
    · refine neN ?_; dsimp only; omega
    · exact hm p hp
theorem rows_rest {prog : Program} {w : World} {A : Around} {h₀ : Heap} {L : Addr} {m : Str → Option Value} {env : Env} {elt : PySem.Expr} {x : Str} {scope : Scope} {cl : List (Str × Addr)} {s : Shared} {P : Nat → Value → Prop} {Fin : List Value → Led → Prop}
    {l cc : Addr} {oc : Obj} {a b : Int} {ta tb : Tok} {n : Nat} (ha : 0 ≤ a) (hb : 0 ≤ b) (hb2 : b < 2147483648) (hcl : cc < l)
    (turn : ∀ ys (more : Led) a b ta tb n I oI C oC D m₂ h tk (E' : Value → Shared → Prop), 0 ≤ a → 0 ≤ b → b < 2147483648 → LCg.NsObj oC m₂ → Fr h₀ L h m →
      News h₀ L h ((l, seedObj a b ta tb n) :: (I, oI) :: (C, oC) :: (D, LCg.lst ys) :: (cc, oc) :: more) → (∀ q ∈ (I, oI) :: (C, oC) :: (D, LCg.lst ys) :: (cc, oc) :: more, q.1 ≠ l) →
      wpAny (model prog w) A (eval elt (compEnvC scope cl C env)) (PieceEl w h₀ L m { s with heap := h, toks := tk } l ((I, oI) :: (C, oC) :: (D, LCg.lst ys) :: (cc, oc) :: more)) E' { s with heap := h, toks := tk })
    (fin : ∀ (u1 x1 d1 u2 x2 d2 u3 x3 d3 : Addr) (c1 c2 c3 : Int) (P1 D1 P2 D2 P3 D3 : List Int) (t11 t21 t31 tc1 tp1 td1 te1 t12 t22 t32 tc2 tp2 td2 te2 t13 t23 t33 tc3 tp3 td3 te3 : Tok) (a b : Int) (ta tb : Tok) (n : Nat),
      0 ≤ c1 → c1 < 256 → P1.length ≤ 3 → D1.length ≤ 2 → 0 ≤ c2 → c2 < 256 → P2.length ≤ 3 → D2.length ≤ 2 → 0 ≤ c3 → c3 < 256 → P3.length ≤ 3 → D3.length ≤ 2 →
      Fin [.ref u1, .ref u2, .ref u3] ([(u3, rowObj x3 (enc c3 P3 D3) te3), (x3, instObj 111 d3), (d3, pieceDict w c3 (byteArr P3) (byteArr D3) t13 t23 t33 tc3 tp3 td3), (l, seedObj a b ta tb n), (cc, oc),
        (u2, rowObj x2 (enc c2 P2 D2) te2), (x2, instObj 111 d2), (d2, pieceDict w c2 (byteArr P2) (byteArr D2) t12 t22 t32 tc2 tp2 td2),
        (u1, rowObj x1 (enc c1 P1 D1) te1), (x1, instObj 111 d1), (d1, pieceDict w c1 (byteArr P1) (byteArr D1) t11 t21 t31 tc1 tp1 td1)])) :
    LCg.CompRest prog w A h₀ L m env elt x scope cl s (fun _ => True) P Fin 3 0 [] [(l, seedObj a b ta tb n), (cc, oc)] := by
  refine rows_step (more := []) ha hb hb2 hcl (fun p => Iff.rfl) (fun _ hp => nomatch hp) turn ?_
  intro u1 x1 d1 c1 P1 D1 t11 t21 t31 tc1 tp1 td1 te1 a1 b1 ta1 tb1 n1 h01 h11 hP1 hD1 ha1 hb1 hc1 hm1
  refine rows_step (ta := ta1) (tb := tb1) (n := n1) (more := [(u1, rowObj x1 (enc c1 P1 D1) te1), (x1, instObj 111 d1), (d1, pieceDict w c1 (byteArr P1) (byteArr D1) t11 t21 t31 tc1 tp1 td1)]) ha1 hb1 hc1 hcl (fun p => ?_) hm1 turn ?_
  · simp only [List.mem_cons, List.not_mem_nil, or_false]
    constructor <;> (intro h; rcases h with h | h | h | h | h <;> simp [h])
  intro u2 x2 d2 c2 P2 D2 t12 t22 t32 tc2 tp2 td2 te2 a2 b2 ta2 tb2 n2 h02 h12 hP2 hD2 ha2 hb2' hc2 hm2
  refine rows_step (ta := ta2) (tb := tb2) (n := n2) (more := [(u2, rowObj x2 (enc c2 P2 D2) te2), (x2, instObj 111 d2), (d2, pieceDict w c2 (byteArr P2) (byteArr D2) t12 t22 t32 tc2 tp2 td2), (u1, rowObj x1 (enc c1 P1 D1) te1), (x1, instObj 111 d1), (d1, pieceDict w c1 (byteArr P1) (byteArr D1) t11 t21 t31 tc1 tp1 td1)]) ha2 hb2' hc2 hcl (fun p => ?_) hm2 turn ?_
  · simp only [List.mem_cons, List.not_mem_nil, or_false]
    constructor <;> (intro h; rcases h with h | h | h | h | h | h | h | h <;> simp [h])
  intro u3 x3 d3 c3 P3 D3 t13 t23 t33 tc3 tp3 td3 te3 a3 b3 ta3 tb3 n3 h03 h13 hP3 hD3 _ _ _ _
  exact LCg.CompRest.zero (fin u1 x1 d1 u2 x2 d2 u3 x3 d3 c1 c2 c3 P1 D1 P2 D2 P3 D3 t11 t21 t31 tc1 tp1 td1 te1 t12 t22 t32 tc2 tp2 td2 te2 t13 t23 t33 tc3 tp3 td3 te3 a3 b3 ta3 tb3 n3 h01 h11 hP1 hD1 h02 h12 hP2 hD2 h03 h13 hP3 hD3)

theorem rows_src {prog : Program} {w : World} {A : Around} {h₀ : Heap} {L : Addr} {m : Str → Option Value} {env : Env} {elt : PySem.Expr} {x : Str} {scope : Scope} {cl : List (Str × Addr)} {s₁ : Shared} {Fin : Shared → List Value → Led → Prop}
    {l cc r : Addr} {oc : Obj} {a b : Int} {ta tb t u v : Tok} {n : Nat} {led : Led} (_hdc : oc.data = .cell (some (.ref l))) (hh : A.handled = none) (F : Fr h₀ L s₁.heap m) (N : News h₀ L s₁.heap led) (h1 : (l, seedObj a b ta tb n) ∈ led) (h2 : (cc, oc) ∈ led)
    (hr : IsRange s₁.heap r 0 3 1 t u v)
    (h : ∀ g, LCg.CompRest prog w A h₀ L m env elt x scope cl { s₁ with heap := g } (fun _ => True) (fun i v => ∃ t, v = .int (0 + (i : Int)) t) (Fin { s₁ with heap := g }) 3 0 [] [(l, seedObj a b ta tb n), (cc, oc)]) :
    LCg.CompSrc prog w A h₀ L m env elt x scope cl Fin (.ref r) s₁ :=
  LCg.CompSrc.range hh F (news := [(l, seedObj a b ta tb n), (cc, oc)]) (fun p hp => by
    simp only [List.mem_cons, List.not_mem_nil, or_false] at hp
    rcases hp with rfl | rfl
    · exact N _ h1
    · exact N _ h2) hr (by decide) (n := 3) (by decide) (by decide) h
/-- a def of bytes, known over «own» and whatever else, called over a ledger that bears «own» -/
theorem bytes_use {w : World} {dep : Nat} {f : Addr} {vs : List Value} {own news : Led} {A : Array UInt8} {dp un : Nat} {gd : Option (List Code)} {cn : Str} {cs : Scope} {aa : Addr} {ccd : Value} {cl : List (Str × Addr)} {outer : List Env} {A₀ : Around} {base h₀ hb0 : Heap} {mg mb : Str → Option Value} {L : Addr} {m : Str → Option Value} {s : Shared} {Q E : Value → Shared → Prop}
    (C : ∀ rest : Led, (∀ p ∈ rest, p.1 ∉ own.map (·.1)) → Meet w dep f vs (own ++ rest) (bytesOut A (own ++ rest))) (hs : ∀ p ∈ own, p ∈ news)
    (B : Below A₀ base outer h₀) (F : Fr h₀ L s.heap m) (X : (hd.heap_39 w.params).In h₀) (N : News h₀ L s.heap news) (T : Top hd.view_39 (looseW hd.view_39 [Str.ofString "Piece"]) (ExcName.means hb0) mg mb h₀) (hk : cs.kind = .function)
    (hd : dp + dep < 900) (hu : un + 8 * dep < 900)
    (hret : ∀ t h' tk', Fr h₀ L h' m → News h₀ L h' news → Q (.bytes A t) { s with heap := h', toks := tk' }) :
    wpAny (model PySem.Challenge.rw_pf0228_01.row.prog w) (ktrTop dp un gd cn cs L aa ccd cl outer) (call (.ref f) vs) Q E s := by
  refine meet_use (C (news.filter fun p => decide (p.1 ∉ own.map (·.1))) (fun p hp => of_decide_eq_true (List.mem_filter.mp hp).2)) B F X (fun p hp => ?_) T hk hd hu ?_
  · rcases List.mem_append.mp hp with hp | hp
    · exact N _ (hs p hp)
    · exact N p (List.mem_filter.mp hp).1
  · rintro v news' h' tk' F' N' ⟨⟨t, rfl⟩, rfl⟩
    refine hret t h' tk' F' fun p hp => ?_
    by_cases e : p.1 ∈ own.map (·.1)
    · obtain ⟨q, hq, eq⟩ := List.mem_map.mp e
      have a := (N _ hp).1
      have b := (N _ (hs q hq)).1
      rw [eq, a] at b
      have : p = q := Prod.ext eq.symm (Option.some.inj b)
      rw [this]
      exact N' _ (List.mem_append_left _ hq)
    · exact N' p (List.mem_append_right _ (List.mem_filter.mpr ⟨hp, decide_eq_true e⟩))
theorem enc_size {c : Int} {P D : List Int} (hP : P.length ≤ 3) (hD : D.length ≤ 2) : (enc c P D).size ≤ 100000 := by
  unfold enc
  split <;> (simp only [Array.size_append, byteArr_size, List.size_toArray, List.length_cons, List.length_nil]; omega)
theorem small_size {P : List Int} {k : Nat} (hP : P.length ≤ 3) (hk : 3 ≤ k) : (byteArr P).size ≤ k := by rw [byteArr_size]; omega
theorem wpieces3_small (w : World) (q : Addr) (nq : Nat) {x1 d1 x2 d2 x3 d3 : Addr} {c1 c2 c3 : Int} {P1 D1 P2 D2 P3 D3 : List Int} {t11 t21 t31 tc1 tp1 td1 t12 t22 t32 tc2 tp2 td2 t13 t23 t33 tc3 tp3 td3 : Tok}
    (h01 : 0 ≤ c1) (h11 : c1 < 256) (hP1 : P1.length ≤ 3) (hD1 : D1.length ≤ 2) (h02 : 0 ≤ c2) (h12 : c2 < 256) (hP2 : P2.length ≤ 3) (hD2 : D2.length ≤ 2) (h03 : 0 ≤ c3) (h13 : c3 < 256) (hP3 : P3.length ≤ 3) (hD3 : D3.length ≤ 2)
    (rest : Led) (hr : ∀ p ∈ rest, p.1 ∉ ([(q, listOf #[.ref x1, .ref x2, .ref x3] nq), (x1, instObj 111 d1), (d1, pieceDict w c1 (byteArr P1) (byteArr D1) t11 t21 t31 tc1 tp1 td1), (x2, instObj 111 d2), (d2, pieceDict w c2 (byteArr P2) (byteArr D2) t12 t22 t32 tc2 tp2 td2), (x3, instObj 111 d3), (d3, pieceDict w c3 (byteArr P3) (byteArr D3) t13 t23 t33 tc3 tp3 td3)] : Led).map (·.1)) :
    Meet w 6 127 [.ref q] ([(q, listOf #[.ref x1, .ref x2, .ref x3] nq), (x1, instObj 111 d1), (d1, pieceDict w c1 (byteArr P1) (byteArr D1) t11 t21 t31 tc1 tp1 td1), (x2, instObj 111 d2), (d2, pieceDict w c2 (byteArr P2) (byteArr D2) t12 t22 t32 tc2 tp2 td2), (x3, instObj 111 d3), (d3, pieceDict w c3 (byteArr P3) (byteArr D3) t13 t23 t33 tc3 tp3 td3)] ++ rest)
      (bytesOut (enc c1 P1 D1 ++ enc c2 P2 D2 ++ enc c3 P3 D3) ([(q, listOf #[.ref x1, .ref x2, .ref x3] nq), (x1, instObj 111 d1), (d1, pieceDict w c1 (byteArr P1) (byteArr D1) t11 t21 t31 tc1 tp1 td1), (x2, instObj 111 d2), (d2, pieceDict w c2 (byteArr P2) (byteArr D2) t12 t22 t32 tc2 tp2 td2), (x3, instObj 111 d3), (d3, pieceDict w c3 (byteArr P3) (byteArr D3) t13 t23 t33 tc3 tp3 td3)] ++ rest)) := by
  have s1 := enc_size (c := c1) hP1 hD1
  have s2 := enc_size (c := c2) hP2 hD2
  have s3 := enc_size (c := c3) hP3 hD3
  rw [← encA_enc hP1] at s1 ⊢
  rw [← encA_enc hP2] at s2 ⊢
  rw [← encA_enc hP3] at s3 ⊢
  exact wpieces3 w q nq x1 d1 c1 _ _ t11 t21 t31 tc1 tp1 td1 h01 h11 (small_size hP1 (by decide)) (small_size (by omega) (by decide)) s1 x2 d2 c2 _ _ t12 t22 t32 tc2 tp2 td2 h02 h12 (small_size hP2 (by decide)) (small_size (by omega) (by decide)) s2
    x3 d3 c3 _ _ t13 t23 t33 tc3 tp3 td3 h03 h13 (small_size hP3 (by decide)) (small_size (by omega) (by decide)) s3 rest hr
/-- the greatest piece -/
theorem big_eq : encA 254 (zeros (Int.toNat 65533)) #[] = #[(Int.toNat 255).toUInt8, (Int.toNat 254).toUInt8, (Int.toNat 255).toUInt8, (Int.toNat 255).toUInt8] ++ zeros (Int.toNat 65533) := by
  unfold encA
  rw [if_pos (by decide), zeros_size]
  generalize zeros (Int.toNat 65533) = Z
  have e1 : (((Int.toNat 65533 : Nat) : Int) + 2).fdiv 256 = 255 := by decide
  have e2 : (((Int.toNat 65533 : Nat) : Int) + 2).fmod 256 = 255 := by decide
  rw [e1, e2]
  simp
theorem wpieces1_big (w : World) (q : Addr) (nq : Nat) {x1 d1 : Addr} {t11 t21 t31 tc1 tp1 td1 : Tok} (rest : Led) (hr : ∀ p ∈ rest, p.1 ∉ ([(q, listOf #[.ref x1] nq), (x1, instObj 111 d1), (d1, pieceDict w 254 (zeros (Int.toNat 65533)) #[] t11 t21 t31 tc1 tp1 td1)] : Led).map (·.1)) :
    Meet w 6 127 [.ref q] ([(q, listOf #[.ref x1] nq), (x1, instObj 111 d1), (d1, pieceDict w 254 (zeros (Int.toNat 65533)) #[] t11 t21 t31 tc1 tp1 td1)] ++ rest)
      (bytesOut (#[(Int.toNat 255).toUInt8, (Int.toNat 254).toUInt8, (Int.toNat 255).toUInt8, (Int.toNat 255).toUInt8] ++ zeros (Int.toNat 65533)) ([(q, listOf #[.ref x1] nq), (x1, instObj 111 d1), (d1, pieceDict w 254 (zeros (Int.toNat 65533)) #[] t11 t21 t31 tc1 tp1 td1)] ++ rest)) := by
  have hz : (zeros (Int.toNat 65533)).size ≤ 65533 := by rw [zeros_size]; decide
  rw [← big_eq]
  refine wpieces1 w q nq x1 d1 254 _ _ t11 t21 t31 tc1 tp1 td1 (by decide) (by decide) hz (by decide) ?_ rest hr
  rw [big_eq, Array.size_append, zeros_size]
  decide
theorem join3_enc {prog : Program} {w : World} {A : Around} {E : Value → Shared → Prop} {s : Shared} {t t1 t2 t3 : Tok} {q : Addr} {Q : Value → Shared → Prop} {h₀ : Heap} {L : Addr} {news : Led} {n : Nat} {c1 c2 c3 : Int} {P1 D1 P2 D2 P3 D3 : List Int}
    (N : News h₀ L s.heap news) (hm : (q, ({ cls := .type "list", data := .seq #[.bytes (enc c1 P1 D1) t1, .bytes (enc c2 P2 D2) t2, .bytes (enc c3 P3 D3) t3] n } : Obj)) ∈ news)
    (hP1 : P1.length ≤ 3) (hD1 : D1.length ≤ 2) (hP2 : P2.length ≤ 3) (hD2 : D2.length ≤ 2) (hP3 : P3.length ≤ 3) (hD3 : D3.length ≤ 2) (h : ∀ t' k, Q (.bytes (enc c1 P1 D1 ++ enc c2 P2 D2 ++ enc c3 P3 D3) t') { s with toks := k }) :
    wpAny (model prog w) A (call (.builtin "bytes.join") [.bytes #[] t, .ref q]) Q E s := by
  have s1 := enc_size (c := c1) hP1 hD1
  have s2 := enc_size (c := c2) hP2 hD2
  have s3 := enc_size (c := c3) hP3 hD3
  exact join3 N hm (by omega) h
theorem ne_same {prog : Program} {w : World} {A : Around} {E : Value → Shared → Prop} {s : Shared} {Q : Value → Shared → Prop} {b : Array UInt8} {t u : Tok} (h : Q (.bool false) s) : wpAny (model prog w) A (compareOp .NotEq (.bytes b t) (.bytes b u)) Q E s := by
  refine ne_bytes ?_
  have e : (b.toList != b.toList) = false := by simp
  rw [e]
  exact h
end Mine
end
section
open PySem PySem.W PyProof.Rows PySem.Calls PySem.Spec PyProof.V
set_option Elab.async false
set_option maxRecDepth 100000
set_option maxHeartbeats 0
namespace Mine
theorem has217 (w : World) (tc : Tok) (news : Led) : Meet w 2 93 [.int 217 tc] news (boolOut false news) := by
  have h := has_meets w 217 tc news
  rw [show hasOf 217 = false by decide] at h
  exact h




theorem wpieceN_meets (w : World) (x d : Addr) (P : Array UInt8) (t1 t2 t3 tc tp td : Tok) (rest : Led) (hr : ∀ p ∈ rest, p.1 ≠ x ∧ p.1 ≠ d) 
    :
    Meet w 4 122 [.ref x] ([(x, instObj 111 d), (d, pieceDict w 217 P #[] t1 t2 t3 tc tp td)] ++ rest) (bytesOut #[(Int.toNat 255).toUInt8, (Int.toNat 217).toUInt8] ([(x, instObj 111 d), (d, pieceDict w 217 P #[] t1 t2 t3 tc tp td)] ++ rest)) := by
  unfold Meet
  k_fill
  w_top off
  intro dp un gd cn cs aa ccd cl outer A₀ base h₀ hb0 mg mb L m s Q E B F X N T hk hdp hun hret
  refine wpAny_call ?_
  k_dflt (refine' code_keep (own := [(x, instObj 111 d), (d, pieceDict w 217 P #[] t1 t2 t3 tc tp td)]) (rest := rest) ?k1 ?k2 ?k3 ?k4 ?kO ?k5 ?kA ?kF ?kK ?k6 ?k7 ?k8 ?k9 ?kB ?_ ?c2 ?c3 ?c4 ?c5; (case kA => exact rfl); (case kF => exact rfl); (case kK => assumption); (case k1 => k_asm); (case k2 => k_asm); (case k3 => k_asm); (case k4 => exact N); (case kO => (intro q hq hm; simp only [List.map_cons, List.map_nil, List.mem_cons, List.not_mem_nil, or_false] at hm; rcases hm with hm | hm; exact (hr q hq).1 hm; exact (hr q hq).2 hm)); (case k5 => k_asm); (case k6 => k_is); (case k7 => k_is); (case k8 => ktr_room); (case k9 => exact BindsTo.of_eq rfl); (case c5 => decide); (case kB => exact locs rfl); (case c2 => exact rfl); (case c3 => exact rfl); (case c4 => exact rfl); k_whole)
  intro g' L' h' FG' NG' F' N' B' X' T' l1 hLr
  clear NG' N hLr
  k_lt l1
  (try dsimp only)
  (try k_fold)
  (repeat' (first | (k_unfold; (try dsimp only)) | (k_end; wrow_close) | ((with_reducible show wpAny _ _ (call (Value.type _) _) _ _ _); (with_reducible ((k_here; (with_reducible show wpAny _ _ (call (Value.type _) [Value.ref _]) _ _ _); k_dflt (refine' bytes_K ?FT27 ?NT27 ?lT27 ?iT27 ?rT27 ?zT27 ?hT27 ?_; (case FT27 => k_asm); (case NT27 => k_asm); (case lT27 => is_list); (case iT27 => l_ints); (case rT27 => exact word_in (by omega) (by omega)); (case zT27 => (simp only [sizeLine_eq, List.length_cons, List.length_nil]; decide)); (case hT27 => with_unfolding_all rfl); k_whole); intro hpzq tpzq kpzq Fpzq Npzq hBpzq; (try dsimp only [List.map]); (try k_sweep))))) | (with_reducible ((k_here; (with_reducible show wpAny _ _ (binaryOp Operator.Add (Value.bytes _ _) (Value.bytes _ _)) _ _ _); k_dflt (refine' KBy.add_bytes ?zT26 ?_; (case zT26 => ((simp only [Array.size_append, List.size_toArray, List.length_cons, List.length_nil]); omega)); k_whole); intro _ _))) | ((with_reducible show wpAny _ _ (call (Value.ref _) _) _ _ _); (with_reducible ((k_here; (with_reducible show wpAny _ _ (call (Value.ref 93) _) _ _ _); k_dflt ( refine' meet_use (has217 _ _ _) ?k1T25 ?k2T25 ?k3T25 ?k4T25 ?k5T25 ?kKT25 ?kdT25 ?kuT25 ?_; (case k1T25 => k_asm); (case k2T25 => k_asm); (case k3T25 => k_asm); (case k4T25 => k_asm); (case k5T25 => k_asm); (case kKT25 => first | exact rfl | assumption); (case kdT25 => ((try simp only [depth_under_make, depth_under_kw, depth_in1, depth_deeper, depth_caller]); (try dsimp only [ktrTop]); omega)); (case kuT25 => ((try simp only [units_in1, units_deeper, Around.mark_units, units_caller]); (try dsimp only [ktrTop]); omega))); intro v9zq n9zq h9zq tk9zq F9zq N9zq o9zq; (k_dflt (obtain ⟨e9zq, e8zq⟩ := o9zq; subst e9zq; subst e8zq)); (try dsimp only); (try k_sweep); (try k_fold))))) | walk1 | (dsimp only; (first | ((with_reducible show wpAny _ _ (call (Value.type _) _) _ _ _); (with_reducible ((k_here; (with_reducible show wpAny _ _ (call (Value.type _) [Value.ref _]) _ _ _); k_dflt (refine' bytes_K ?FT27 ?NT27 ?lT27 ?iT27 ?rT27 ?zT27 ?hT27 ?_; (case FT27 => k_asm); (case NT27 => k_asm); (case lT27 => is_list); (case iT27 => l_ints); (case rT27 => exact word_in (by omega) (by omega)); (case zT27 => (simp only [sizeLine_eq, List.length_cons, List.length_nil]; decide)); (case hT27 => with_unfolding_all rfl); k_whole); intro hpzq tpzq kpzq Fpzq Npzq hBpzq; (try dsimp only [List.map]); (try k_sweep))))) | (with_reducible ((k_here; (with_reducible show wpAny _ _ (binaryOp Operator.Add (Value.bytes _ _) (Value.bytes _ _)) _ _ _); k_dflt (refine' KBy.add_bytes ?zT26 ?_; (case zT26 => ((simp only [Array.size_append, List.size_toArray, List.length_cons, List.length_nil]); omega)); k_whole); intro _ _))) | ((with_reducible show wpAny _ _ (call (Value.ref _) _) _ _ _); (with_reducible ((k_here; (with_reducible show wpAny _ _ (call (Value.ref 93) _) _ _ _); k_dflt ( refine' meet_use (has217 _ _ _) ?k1T25 ?k2T25 ?k3T25 ?k4T25 ?k5T25 ?kKT25 ?kdT25 ?kuT25 ?_; (case k1T25 => k_asm); (case k2T25 => k_asm); (case k3T25 => k_asm); (case k4T25 => k_asm); (case k5T25 => k_asm); (case kKT25 => first | exact rfl | assumption); (case kdT25 => ((try simp only [depth_under_make, depth_under_kw, depth_in1, depth_deeper, depth_caller]); (try dsimp only [ktrTop]); omega)); (case kuT25 => ((try simp only [units_in1, units_deeper, Around.mark_units, units_caller]); (try dsimp only [ktrTop]); omega))); intro v9zq n9zq h9zq tk9zq F9zq N9zq o9zq; (k_dflt (obtain ⟨e9zq, e8zq⟩ := o9zq; subst e9zq; subst e8zq)); (try dsimp only); (try k_sweep); (try k_fold))))) | walk1)) | (leave1; walk_say "STEP leave1"; try dsimp only) | fail "no step"))
  all_goals (with_reducible rename News h₀ L _ (_ :: _) => zN)
  all_goals (with_reducible rename News h₀ L _ rest => zP)
  all_goals (refine hret _ ([(x, instObj 111 d), (d, pieceDict w 217 P #[] t1 t2 t3 tc tp td)] ++ rest) _ _ (by with_reducible assumption) (news_join zN zP (by lcg_sub)) (bytesOut_of ?_))
  all_goals simp only [Array.append_empty]

/-- write_piece, called over any ledger that bears the piece -/
theorem wpieceN_use {w : World} {dp un : Nat} {gd : Option (List Code)} {cn : Str} {cs : Scope} {aa : Addr} {ccd : Value} {cl : List (Str × Addr)} {outer : List Env} {A₀ : Around} {base h₀ hb0 : Heap} {mg mb : Str → Option Value} {L : Addr} {m : Str → Option Value} {s : Shared} {Q E : Value → Shared → Prop}
    {x d : Addr} {P : Array UInt8} {t1 t2 t3 tc tp td : Tok} {news : Led} (hx : (x, instObj 111 d) ∈ news) (hdd : (d, pieceDict w 217 P #[] t1 t2 t3 tc tp td) ∈ news) 
    (B : Below A₀ base outer h₀) (F : Fr h₀ L s.heap m) (X : (hd.heap_39 w.params).In h₀) (N : News h₀ L s.heap news) (T : Top hd.view_39 (looseW hd.view_39 [Str.ofString "Piece"]) (ExcName.means hb0) mg mb h₀) (hk : cs.kind = .function)
    (hd : dp + 4 < 900) (hu : un + 32 < 900)
    (hret : ∀ t h' tk', Fr h₀ L h' m → News h₀ L h' news → Q (.bytes (#[(Int.toNat 255).toUInt8, (Int.toNat 217).toUInt8]) t) { s with heap := h', toks := tk' }) :
    wpAny (model PySem.Challenge.rw_pf0228_01.row.prog w) (ktrTop dp un gd cn cs L aa ccd cl outer) (call (.ref 122) [.ref x]) Q E s := by
  refine meet_use (wpieceN_meets w x d P t1 t2 t3 tc tp td (news.filter fun p => decide (p.1 ≠ x ∧ p.1 ≠ d)) (fun p hp => of_decide_eq_true (List.mem_filter.mp hp).2) ) B F X (fun p hp => ?_) T hk hd (by omega) ?_
  · rcases List.mem_append.mp hp with hp | hp
    · simp only [List.mem_cons, List.not_mem_nil, or_false] at hp
      rcases hp with rfl | rfl
      · exact N _ hx
      · exact N _ hdd
    · exact N p (List.mem_filter.mp hp).1
  · rintro v news' h' tk' F' N' ⟨⟨t, rfl⟩, rfl⟩
    refine hret t h' tk' F' fun p hp => ?_
    have key : ∀ o, (p.1, o) ∈ news → p = (p.1, o) := fun o ho => by
      have a := (N _ hp).1
      rw [(N _ ho).1] at a
      exact (Prod.ext rfl (Option.some.inj a).symm)
    by_cases e1 : p.1 = x
    · have e := key (instObj 111 d) (e1 ▸ hx)
      rw [e1] at e
      rw [e]
      exact N' _ (.head _)
    · by_cases e2 : p.1 = d
      · have e := key (pieceDict w 217 P #[] t1 t2 t3 tc tp td) (e2 ▸ hdd)
        rw [e2] at e
        rw [e]
        exact N' _ (.tail _ (.head _))
      · exact N' p (List.mem_append_right _ (List.mem_filter.mpr ⟨hp, decide_eq_true ⟨e1, e2⟩⟩))





theorem wpiecesN (w : World) (q : Addr) (nq : Nat) (x1 d1 : Addr) (P1 : Array UInt8) (t11 t21 t31 tc1 tp1 td1 : Tok) (rest : Led) (hr : ∀ p ∈ rest, p.1 ∉ ([(q, listOf #[.ref x1] nq), (x1, instObj 111 d1), (d1, pieceDict w 217 P1 #[] t11 t21 t31 tc1 tp1 td1)] : Led).map (·.1)) :
    Meet w 6 127 [.ref q] ([(q, listOf #[.ref x1] nq), (x1, instObj 111 d1), (d1, pieceDict w 217 P1 #[] t11 t21 t31 tc1 tp1 td1)] ++ rest) (bytesOut (#[(Int.toNat 255).toUInt8, (Int.toNat 217).toUInt8]) ([(q, listOf #[.ref x1] nq), (x1, instObj 111 d1), (d1, pieceDict w 217 P1 #[] t11 t21 t31 tc1 tp1 td1)] ++ rest)) := by
  unfold Meet
  k_fill
  w_top off
  intro dp un gd cn cs aa ccd cl outer A₀ base h₀ hb0 mg mb L m s Q E B F X N T hk hdp hun hret
  refine wpAny_call ?_
  k_dflt (refine' code_keep (own := [(q, listOf #[.ref x1] nq), (x1, instObj 111 d1), (d1, pieceDict w 217 P1 #[] t11 t21 t31 tc1 tp1 td1)]) (rest := rest) ?k1 ?k2 ?k3 ?k4 ?kO ?k5 ?kA ?kF ?kK ?k6 ?k7 ?k8 ?k9 ?kB ?_ ?c2 ?c3 ?c4 ?c5; (case kA => exact rfl); (case kF => exact rfl); (case kK => assumption); (case k1 => k_asm); (case k2 => k_asm); (case k3 => k_asm); (case k4 => exact N); (case kO => exact hr); (case k5 => k_asm); (case k6 => k_is); (case k7 => k_is); (case k8 => ktr_room); (case k9 => exact BindsTo.of_eq rfl); (case c5 => decide); (case kB => exact locs rfl); (case c2 => exact rfl); (case c3 => exact rfl); (case c4 => exact rfl); k_whole)
  intro g' L' h' FG' NG' F' N' B' X' T' l1 hLr
  clear NG' N hLr
  k_lt l1
  (try dsimp only)
  (try k_fold)
  (repeat' (first | (k_unfold; (try dsimp only)) | (k_end; wrow_close) | ((with_reducible show wpAny _ _ (call (Value.builtin _) _) _ _ _); (with_reducible ((k_here; k_dflt (first | (refine' join3 ?NT32 ?mT32 ?zT32 ?_; (case NT32 => k_asm); (case mT32 => k_mem); (case zT32 => decide); k_whole; intro t9zq k9zq) | (refine' join1 ?NT32 ?mT32 ?_; (case NT32 => k_asm); (case mT32 => k_mem); k_whole)))))) | ((with_reducible show wpAny _ _ (getMethod (Value.bytes ..) _ _) _ _ _); (with_reducible ((k_here; (with_reducible refine join_method ?_))))) | ((with_reducible show LCg.CompSrc ..); (with_reducible ((k_here; k_dflt (refine LCg.CompSrc.ledger (by rfl) (by k_asm) (by k_asm) (by k_mem) (by exact Nat.le_of_ble_eq_true rfl) ?_; intro g9pzq; lcg_lit))))) | ((with_reducible show wpAny _ _ (eval (PySem.Expr.ListComp ..) _) _ _ _); (with_reducible ((k_here; k_dflt (refine LCg.ListComp_U (F₀ := by k_asm) (by with_unfolding_all rfl) (by decide) (by rfl) (by decide) (by rfl) ?_))))) | ((with_reducible show wpAny _ _ (call (Value.ref _) _) _ _ _); (first | (with_reducible ((k_here; (with_reducible show wpAny _ _ (call (Value.ref 122) _) _ _ _); k_dflt ( refine' wpieceN_use ?kxT28 ?kyT28 ?k1T28 ?k2T28 ?k3T28 ?k4T28 ?k5T28 ?kKT28 ?kdT28 ?kuT28 ?_; (case k1T28 => k_asm); (case k2T28 => k_asm); (case k3T28 => k_asm); (case k4T28 => k_asm); (case k5T28 => k_asm); (case kxT28 => k_mem); (case kyT28 => k_mem); (case kKT28 => first | exact rfl | assumption); (case kdT28 => ((try simp only [depth_under_make, depth_under_kw, depth_in1, depth_deeper, depth_caller]); (try dsimp only [ktrTop]); omega)); (case kuT28 => ((try simp only [units_in1, units_deeper, Around.mark_units, units_caller]); (try dsimp only [ktrTop]); omega))); intro t9zq h9zq tk9zq F9zq N9zq; (try dsimp only); (try k_sweep); (try k_fold)))) | (with_reducible ((k_here; (with_reducible show wpAny _ _ (call (Value.ref 93) _) _ _ _); k_dflt ( refine' meet_use (has217 _ _ _) ?k1T25 ?k2T25 ?k3T25 ?k4T25 ?k5T25 ?kKT25 ?kdT25 ?kuT25 ?_; (case k1T25 => k_asm); (case k2T25 => k_asm); (case k3T25 => k_asm); (case k4T25 => k_asm); (case k5T25 => k_asm); (case kKT25 => first | exact rfl | assumption); (case kdT25 => ((try simp only [depth_under_make, depth_under_kw, depth_in1, depth_deeper, depth_caller]); (try dsimp only [ktrTop]); omega)); (case kuT25 => ((try simp only [units_in1, units_deeper, Around.mark_units, units_caller]); (try dsimp only [ktrTop]); omega))); intro v9zq n9zq h9zq tk9zq F9zq N9zq o9zq; (k_dflt (obtain ⟨e9zq, e8zq⟩ := o9zq; subst e9zq; subst e8zq)); (try dsimp only); (try k_sweep); (try k_fold)))))) | ((with_reducible show wpAny _ _ (call (Value.type _) _) _ _ _); (with_reducible ((k_here; (with_reducible show wpAny _ _ (call (Value.type _) [Value.ref _]) _ _ _); k_dflt (refine' bytes_K ?FT27 ?NT27 ?lT27 ?iT27 ?rT27 ?zT27 ?hT27 ?_; (case FT27 => k_asm); (case NT27 => k_asm); (case lT27 => is_list); (case iT27 => l_ints); (case rT27 => exact word_in (by omega) (by omega)); (case zT27 => (simp only [sizeLine_eq, List.length_cons, List.length_nil]; decide)); (case hT27 => with_unfolding_all rfl); k_whole); intro hpzq tpzq kpzq Fpzq Npzq hBpzq; (try dsimp only [List.map]); (try k_sweep))))) | (with_reducible ((k_here; (with_reducible show wpAny _ _ (binaryOp Operator.Add (Value.bytes _ _) (Value.bytes _ _)) _ _ _); k_dflt (refine' KBy.add_bytes ?zT26 ?_; (case zT26 => ((simp only [Array.size_append, List.size_toArray, List.length_cons, List.length_nil]); omega)); k_whole); intro _ _))) | walk1 | (dsimp only; (first | ((with_reducible show wpAny _ _ (call (Value.builtin _) _) _ _ _); (with_reducible ((k_here; k_dflt (first | (refine' join3 ?NT32 ?mT32 ?zT32 ?_; (case NT32 => k_asm); (case mT32 => k_mem); (case zT32 => decide); k_whole; intro t9zq k9zq) | (refine' join1 ?NT32 ?mT32 ?_; (case NT32 => k_asm); (case mT32 => k_mem); k_whole)))))) | ((with_reducible show wpAny _ _ (getMethod (Value.bytes ..) _ _) _ _ _); (with_reducible ((k_here; (with_reducible refine join_method ?_))))) | ((with_reducible show LCg.CompSrc ..); (with_reducible ((k_here; k_dflt (refine LCg.CompSrc.ledger (by rfl) (by k_asm) (by k_asm) (by k_mem) (by exact Nat.le_of_ble_eq_true rfl) ?_; intro g9pzq; lcg_lit))))) | ((with_reducible show wpAny _ _ (eval (PySem.Expr.ListComp ..) _) _ _ _); (with_reducible ((k_here; k_dflt (refine LCg.ListComp_U (F₀ := by k_asm) (by with_unfolding_all rfl) (by decide) (by rfl) (by decide) (by rfl) ?_))))) | ((with_reducible show wpAny _ _ (call (Value.ref _) _) _ _ _); (first | (with_reducible ((k_here; (with_reducible show wpAny _ _ (call (Value.ref 122) _) _ _ _); k_dflt ( refine' wpieceN_use ?kxT28 ?kyT28 ?k1T28 ?k2T28 ?k3T28 ?k4T28 ?k5T28 ?kKT28 ?kdT28 ?kuT28 ?_; (case k1T28 => k_asm); (case k2T28 => k_asm); (case k3T28 => k_asm); (case k4T28 => k_asm); (case k5T28 => k_asm); (case kxT28 => k_mem); (case kyT28 => k_mem); (case kKT28 => first | exact rfl | assumption); (case kdT28 => ((try simp only [depth_under_make, depth_under_kw, depth_in1, depth_deeper, depth_caller]); (try dsimp only [ktrTop]); omega)); (case kuT28 => ((try simp only [units_in1, units_deeper, Around.mark_units, units_caller]); (try dsimp only [ktrTop]); omega))); intro t9zq h9zq tk9zq F9zq N9zq; (try dsimp only); (try k_sweep); (try k_fold)))) | (with_reducible ((k_here; (with_reducible show wpAny _ _ (call (Value.ref 93) _) _ _ _); k_dflt ( refine' meet_use (has217 _ _ _) ?k1T25 ?k2T25 ?k3T25 ?k4T25 ?k5T25 ?kKT25 ?kdT25 ?kuT25 ?_; (case k1T25 => k_asm); (case k2T25 => k_asm); (case k3T25 => k_asm); (case k4T25 => k_asm); (case k5T25 => k_asm); (case kKT25 => first | exact rfl | assumption); (case kdT25 => ((try simp only [depth_under_make, depth_under_kw, depth_in1, depth_deeper, depth_caller]); (try dsimp only [ktrTop]); omega)); (case kuT25 => ((try simp only [units_in1, units_deeper, Around.mark_units, units_caller]); (try dsimp only [ktrTop]); omega))); intro v9zq n9zq h9zq tk9zq F9zq N9zq o9zq; (k_dflt (obtain ⟨e9zq, e8zq⟩ := o9zq; subst e9zq; subst e8zq)); (try dsimp only); (try k_sweep); (try k_fold)))))) | ((with_reducible show wpAny _ _ (call (Value.type _) _) _ _ _); (with_reducible ((k_here; (with_reducible show wpAny _ _ (call (Value.type _) [Value.ref _]) _ _ _); k_dflt (refine' bytes_K ?FT27 ?NT27 ?lT27 ?iT27 ?rT27 ?zT27 ?hT27 ?_; (case FT27 => k_asm); (case NT27 => k_asm); (case lT27 => is_list); (case iT27 => l_ints); (case rT27 => exact word_in (by omega) (by omega)); (case zT27 => (simp only [sizeLine_eq, List.length_cons, List.length_nil]; decide)); (case hT27 => with_unfolding_all rfl); k_whole); intro hpzq tpzq kpzq Fpzq Npzq hBpzq; (try dsimp only [List.map]); (try k_sweep))))) | (with_reducible ((k_here; (with_reducible show wpAny _ _ (binaryOp Operator.Add (Value.bytes _ _) (Value.bytes _ _)) _ _ _); k_dflt (refine' KBy.add_bytes ?zT26 ?_; (case zT26 => ((simp only [Array.size_append, List.size_toArray, List.length_cons, List.length_nil]); omega)); k_whole); intro _ _))) | walk1)) | (leave1; walk_say "STEP leave1"; try dsimp only) | fail "no step"))
  all_goals (with_reducible rename News h₀ L _ (_ :: _) => zN)
  all_goals (with_reducible rename News h₀ L _ rest => zP)
  all_goals (refine hret _ ([(q, listOf #[.ref x1] nq), (x1, instObj 111 d1), (d1, pieceDict w 217 P1 #[] t11 t21 t31 tc1 tp1 td1)] ++ rest) _ _ (by with_reducible assumption) (news_join zN zP (by lcg_sub)) (bytesOut_of rfl))

end Mine
end
section
open PySem PySem.W PyProof.Rows PySem.Calls PySem.Spec PyProof.V
set_option Elab.async false
set_option maxRecDepth 100000
set_option maxHeartbeats 0
namespace Mine


theorem refused_no (w : World) (t1 t2 : Tok) (news : Led) : Meet w 9 174 [.int 217 t1, .int 65534 t2] news (boolOut false news) := by
  unfold Meet
  k_fill
  w_top off
  intro dp un gd cn cs aa ccd cl outer A₀ base h₀ hb0 mg mb L m s Q E B F X N T hk hdp hun hret
  refine wpAny_call ?_
  k_dflt (refine' code_pure ?k1 ?k2 ?k3 ?k4 ?k5 ?kA ?kF ?kK ?k6 ?k7 ?k8 ?k9 ?kB ?_ ?c2 ?c3 ?c4 ?c5; (case kA => exact rfl); (case kF => exact rfl); (case kK => assumption); (case k1 => k_asm); (case k2 => k_asm); (case k3 => k_asm); (case k4 => k_asm); (case k5 => k_asm); (case k6 => k_is); (case k7 => k_is); (case k8 => ktr_room); (case k9 => exact BindsTo.of_eq rfl); (case c5 => decide); (case kB => exact locs rfl); (case c2 => exact rfl); (case c3 => exact rfl); (case c4 => exact rfl); k_whole; intro g' L' h' FG' NG' F' N' B' X' T'; (try dsimp only); (try k_fold))
  clear N NG'
  (repeat' (first | (k_unfold; (try dsimp only)) | (k_end; wrow_close) | ((with_reducible show wpAny _ _ (call (Value.type _) _) _ _ _); (with_reducible ((k_here; (with_reducible show wpAny _ _ (call (Value.type "bytes") [Value.int _ _]) _ _ _); k_dflt (refine' call_bytes_count ?aT34 ?bT34 ?_; (case aT34 => decide); (case bT34 => decide); k_whole); intro t9zq k9zq)))) | ((with_reducible show wpAny _ _ (call (Value.ref _) _) _ _ _); (with_reducible ((k_here; (with_reducible show wpAny _ _ (call (Value.ref 127) _) _ _ _); k_dflt ( refine' bytes_use (wpiecesN _ _ _ _ _ _ _ _ _ _ _ _) ?ksT33 ?k1T33 ?k2T33 ?k3T33 ?k4T33 ?k5T33 ?kKT33 ?kdT33 ?kuT33 ?_; (case k1T33 => k_asm); (case k2T33 => k_asm); (case k3T33 => k_asm); (case k4T33 => k_asm); (case k5T33 => k_asm); (case kKT33 => first | exact rfl | assumption); (case ksT33 => lcg_sub); (case kdT33 => ((try simp only [depth_under_make, depth_under_kw, depth_in1, depth_deeper, depth_caller]); (try dsimp only [ktrTop]); omega)); (case kuT33 => ((try simp only [units_in1, units_deeper, Around.mark_units, units_caller]); (try dsimp only [ktrTop]); omega))); intro t9zq h9zq tk9zq F9zq N9zq; (try dsimp only); (try k_sweep); (try k_fold))))) | walk1 | (dsimp only; (first | ((with_reducible show wpAny _ _ (call (Value.type _) _) _ _ _); (with_reducible ((k_here; (with_reducible show wpAny _ _ (call (Value.type "bytes") [Value.int _ _]) _ _ _); k_dflt (refine' call_bytes_count ?aT34 ?bT34 ?_; (case aT34 => decide); (case bT34 => decide); k_whole); intro t9zq k9zq)))) | ((with_reducible show wpAny _ _ (call (Value.ref _) _) _ _ _); (with_reducible ((k_here; (with_reducible show wpAny _ _ (call (Value.ref 127) _) _ _ _); k_dflt ( refine' bytes_use (wpiecesN _ _ _ _ _ _ _ _ _ _ _ _) ?ksT33 ?k1T33 ?k2T33 ?k3T33 ?k4T33 ?k5T33 ?kKT33 ?kdT33 ?kuT33 ?_; (case k1T33 => k_asm); (case k2T33 => k_asm); (case k3T33 => k_asm); (case k4T33 => k_asm); (case k5T33 => k_asm); (case kKT33 => first | exact rfl | assumption); (case ksT33 => lcg_sub); (case kdT33 => ((try simp only [depth_under_make, depth_under_kw, depth_in1, depth_deeper, depth_caller]); (try dsimp only [ktrTop]); omega)); (case kuT33 => ((try simp only [units_in1, units_deeper, Around.mark_units, units_caller]); (try dsimp only [ktrTop]); omega))); intro t9zq h9zq tk9zq F9zq N9zq; (try dsimp only); (try k_sweep); (try k_fold))))) | walk1)) | (leave1; walk_say "STEP leave1"; try dsimp only) | fail "no step"))
  all_goals (try k_data)
  all_goals (exact hret _ _ _ _ (by with_reducible assumption) (by with_reducible assumption) ⟨rfl, rfl⟩)
end Mine
end
section
open PySem PySem.W PyProof.Rows PySem.Calls PySem.Spec PyProof.V
set_option Elab.async false
set_option maxRecDepth 100000
set_option maxHeartbeats 0
namespace Mine
theorem ns_some_of {K : Frag} {h : Heap} {N : Addr} {mg : Str → Option Value} {n : Str} {v : Value} (X : K.In h) (G : h.Ns N mg) (e : nsIn K N n = some (some v)) : mg n = some v := by
  obtain ⟨o, es, ep, ho, hd, _, hf⟩ := G
  unfold nsIn at e
  split at e
  · rename_i c d es' n' sl q
    have := X _ _ q
    rw [ho] at this
    cases this
    cases hd
    split at e
    · rename_i en he
      cases e
      rw [← hf]
      unfold nsFind findBy
      rw [← Array.find?_toList, he]
      rfl
    · split at e <;> cases e
  · cases e
/-- the own class: SegmentError -/
structure SegIs (h : Heap) : Prop where
  cls : ∃ nm q bs sn sub ab col dd k0 k1 k2 k3 k5, h.get? 44 = some (excClassObj nm q 44 43 bs [.ref 31, .type "Exception", .type "BaseException", .type "object"] true sn sub ab col dd k0 k1 k2 k3 k5 "Exception.__new__")
  up : ∃ c0 dd cd sl, h.get? 31 = some { cls := c0, dict := dd, data := .cls cd, slots := sl } ∧ cd.ns = 30
  ns : h.Ns 43 (h.nsMap 43)
  upNs : h.Ns 30 (h.nsMap 30)
  noInit : h.nsMap 43 "__init__" = none
  noMessage : h.nsMap 43 "message" = none
  noSet : h.nsMap 43 "__setattr__" = none
  init : h.nsMap 30 "__init__" = some (.ref 28)
  noMessage2 : h.nsMap 30 "message" = none
  noSet2 : h.nsMap 30 "__setattr__" = none
theorem segIs0 {w : World} {h : Heap} : (hd.heap_39 w.params).In h → PySem.Challenge.rw_pf0228_01 = PySem.Challenge.rw_pf0228_01 → SegIs h := by
  k_fill
  w_top off
  intro X _
  have o43 : nsOkIn (hd.heap_39 w.params) 43 = true := by kernel_rfl
  have o30 : nsOkIn (hd.heap_39 w.params) 30 = true := by kernel_rfl
  exact { cls := ⟨_, _, _, _, _, _, _, _, _, _, _, _, _, X _ _ (by k_is)⟩
          up := ⟨_, _, _, _, X _ _ (by k_is), rfl⟩
          ns := .of_isNs (isNs_of_in X o43)
          upNs := .of_isNs (isNs_of_in X o30)
          noInit := nsMap_none_of_in X o43 (by k_is)
          noMessage := nsMap_none_of_in X o43 (by k_is)
          noSet := nsMap_none_of_in X o43 (by k_is)
          init := ns_some_of X (.of_isNs (isNs_of_in X o30)) (by k_is)
          noMessage2 := nsMap_none_of_in X o30 (by k_is)
          noSet2 := nsMap_none_of_in X o30 (by k_is) }
theorem segIs {w : World} {h : Heap} (X : (hd.heap_39 w.params).In h) : SegIs h := segIs0 X rfl
end Mine
end
section
open PySem
set_option Elab.async false
set_option maxRecDepth 100000
set_option maxHeartbeats 0
namespace Mine
abbrev excTail : List Value := [.type "Exception", .type "BaseException", .type "object"]
section
variable {M : Model} {A : Around} {E : Value → Shared → Prop} {h : Heap} {g : Array GenState} {d : Drawn} {t : Nat} {os : OsState}
variable {nm q : Str} {bs : List Value} {sn : List Str} {sub : List Value} {ab : Bool} {col : Option Bool} {dd : Option Addr} {k0 k1 k2 k3 k5 : Option Value}
theorem look44 (S : SegIs h) {name : Str} {y : Option Value} {Q : Option Value → Shared → Prop} (hB : typeLookup (.type "Exception") name = pure y)
    (hq : Q (match h.nsMap 43 name with | some v => some v | none => match h.nsMap 30 name with | some v => some v | none => y) ⟨h, g, d, t, os⟩) : wpAny M A (typeLookup (.ref 44) name) Q E ⟨h, g, d, t, os⟩ := by
  obtain ⟨nm, q, bs, sn, sub, ab, col, dd, k0, k1, k2, k3, k5, hC⟩ := S.cls
  obtain ⟨c0, dd', cd, sl, hU, hns⟩ := S.up
  have hrest : lookupAlong excTail name = pure y := by rw [typeLookup_eq, PySem.F.excBase_Exception.mroIs] at hB; exact hB
  rw [typeLookup_eq]
  refine wpAny_bind (wpAny_mroOf_exc hC ?_)
  rw [lookupAlong_cons]
  refine wpAny_bind (wpAny_classOwn_exc hC S.ns ?_)
  cases h1 : h.nsMap 43 name with
  | some v => rw [h1] at hq; exact wpAny_pure hq
  | none =>
    rw [h1] at hq
    dsimp only
    rw [lookupAlong_cons]
    refine wpAny_bind (wpAny_classOwn_cls hU (by rw [hns]; exact S.upNs) ?_)
    cases h2 : h.nsMap 30 name with
    | some v => rw [h2] at hq; exact wpAny_pure hq
    | none => rw [h2] at hq; dsimp only; rw [hrest]; exact wpAny_pure hq
theorem seg_contains {X : String} {b : Bool} (h : excTail.contains (.type X) = b) : (Value.ref 44 :: .ref 31 :: excTail).contains (.type X) = b := by
  rw [List.contains_cons, List.contains_cons, h]; rfl
theorem seg_check_new {rest : List Value} {Q : Unit → Shared → Prop} (hC : h.get? 44 = some (excClassObj nm q 44 43 bs (.ref 31 :: excTail) true sn sub ab col dd k0 k1 k2 k3 k5 "Exception.__new__"))
    (hq : Q () ⟨h, g, d, t, os⟩) : wpAny M A (checkBuiltinCall "Exception.__new__" ⟨.ref 44 :: rest, []⟩) Q E ⟨h, g, d, t, os⟩ := by
  have F := PySem.F.excBase_Exception
  have hcont := seg_contains F.hasB
  have hstar := F.noStar
  simp only [checkBuiltinCall, F.newKind, F.newSplit, F.newRow]
  repeat (first | refine wpAny_loadPart_at hC ?_ | (refine wpAny_isSubtype_exc hC ?_; rw [hcont]) | refine wpAny_staticBase_exc hC ?_ | refine wpAny_madeBy_exc hC ?_ | simp only [bne_self_eq_false, Bool.false_eq_true, if_false] | wp_step)
  exact hq
end
section
variable {prog : Program} {w : World} {A : Around} {R : Result → Shared → Prop} {E : Value → Shared → Prop} {h : Heap} {g : Array GenState} {d : Drawn} {t : Nat} {os : OsState}
variable {nm q : Str} {bs : List Value} {sn : List Str} {sub : List Value} {ab : Bool} {col : Option Bool} {dd : Option Addr} {k0 k1 k2 k3 k5 : Option Value}
theorem seg_new {rest : List Value} (hC : h.get? 44 = some (excClassObj nm q 44 43 bs (.ref 31 :: excTail) true sn sub ab col dd k0 k1 k2 k3 k5 "Exception.__new__"))
    (hq : R (.ok (.ret (.ref (h.objs.size + 1)))) ⟨(h.push { cls := .type "tuple", data := .seq rest.toArray }).push
      { cls := .ref 44, data := .fields #[.ref h.objs.size, .none, .none, .none, .bool false, .none] }, g, d, t, os⟩) (hrest : rest.length ≤ sizeLine) :
    codeAny (model prog w) A (.builtin "Exception.__new__" ⟨.ref 44 :: rest, []⟩) R ⟨h, g, d, t, os⟩ := by
  have F := PySem.F.excBase_Exception
  have hends := F.ends
  have hcB := seg_contains F.hasB
  have hcA := seg_contains F.noAttr
  have hcN := seg_contains F.noName
  refine codeAny_builtinAt F.entry ?_
  unfold Builtin.«BaseException.__new__»
  refine wpAt_bind ?_
  show wpAt _ _ _ (stack >>= _) _ _ _
  refine wpAt_bind (wpAt_stack fun p below => wpAt_of_wpAny ?_)
  wp_walk
  refine wpAt_of_wpAny ?_
  rw [F.owner]
  repeat (first | with_reducible refine wpAny_madeHere_exc F.canon hC ?_ | with_reducible refine wpAny_loadPart_at hC ?_ | (with_reducible refine wpAny_isSubtype_exc hC ?_; first | rw [hcB] | rw [hcA] | rw [hcN]) | wp_step)
  show R _ _
  rw [Heap.size_push]
  exact hq
theorem SegIs.keeps {h h' : Heap} (S : SegIs h) (k : ∀ b o, h.get? b = some o → h'.get? b = some o) : h'.Ns 43 (h.nsMap 43) ∧ h'.Ns 30 (h.nsMap 30) := ⟨S.ns.keeps k, S.upNs.keeps k⟩
theorem look44k (S : SegIs h) {h' : Heap} (k : ∀ b o, h.get? b = some o → h'.get? b = some o) {name : Str} {y : Option Value} {Q : Option Value → Shared → Prop} (hB : typeLookup (.type "Exception") name = pure y)
    (hq : Q (match h.nsMap 43 name with | some v => some v | none => match h.nsMap 30 name with | some v => some v | none => y) ⟨h', g, d, t, os⟩) : wpAny (model prog w) A (typeLookup (.ref 44) name) Q E ⟨h', g, d, t, os⟩ := by
  obtain ⟨nm, q, bs, sn, sub, ab, col, dd, k0, k1, k2, k3, k5, hC⟩ := S.cls
  obtain ⟨c0, dd', cd, sl, hU, hns⟩ := S.up
  have hrest : lookupAlong excTail name = pure y := by rw [typeLookup_eq, PySem.F.excBase_Exception.mroIs] at hB; exact hB
  rw [typeLookup_eq]
  refine wpAny_bind (wpAny_mroOf_exc (k _ _ hC) ?_)
  rw [lookupAlong_cons]
  refine wpAny_bind (wpAny_classOwn_exc (k _ _ hC) (S.keeps k).1 ?_)
  cases h1 : h.nsMap 43 name with
  | some v => rw [h1] at hq; exact wpAny_pure hq
  | none =>
    rw [h1] at hq
    dsimp only
    rw [lookupAlong_cons]
    refine wpAny_bind (wpAny_classOwn_cls (k _ _ hU) (by rw [hns]; exact (S.keeps k).2) ?_)
    cases h2 : h.nsMap 30 name with
    | some v => rw [h2] at hq; exact wpAny_pure hq
    | none => rw [h2] at hq; dsimp only; rw [hrest]; exact wpAny_pure hq
theorem seg_type_call {rest : List Value} {oI : Obj} {Q : Fin → Shared → Prop} (S : SegIs h)
    (hfI : h.get? 28 = some oI) (hfc : oI.cls = .type "function")
    (hq : ∀ h' e, Heap.MadeExcOf h h' e (.ref 44) rest →
      wpAny (model prog w) A (call (.ref 28) (.ref e :: rest)) (fun r s' => r = .none ∧ Q (.done (.ret (.ref e))) s') E ⟨h', g, d, t, os⟩) (hrest : rest.length ≤ sizeLine) :
    wpAny (model prog w) A (Builtin.«type.__call__» ⟨.ref 44 :: rest, []⟩) Q E ⟨h, g, d, t, os⟩ := by
  obtain ⟨nm, q, bs, sn, sub, ab, col, dd, k0, k1, k2, k3, k5, hC⟩ := S.cls
  have F := PySem.F.excBase_Exception
  repeat (first | with_reducible refine wpAny_loadPart_at hC ?_ | with_reducible refine wpAny_madeBy_exc hC ?_ | wp_step)
  refine codeAny_call_builtin_code (Code.quiet_builtin _ F.quiet) (seg_check_new hC ?_)
  refine seg_new hC ?_ hrest
  show wpAny _ _ _ _ _ _
  have hk : ∀ b o, h.get? b = some o → ((h.push { cls := .type "tuple", data := .seq rest.toArray }).push { cls := .ref 44, data := .fields #[.ref h.objs.size, .none, .none, .none, .bool false, .none] }).get? b = some o := fun b o e => Heap.get?_push_of_some _ (Heap.get?_push_of_some _ e)
  have hC₁ := hk _ _ hC
  have hfI₁ := hk _ _ hfI
  have hget : ((h.push { cls := .type "tuple", data := .seq rest.toArray }).push
      { cls := .ref 44, data := .fields #[.ref h.objs.size, .none, .none, .none, .bool false, .none] }).get? (h.objs.size + 1) = some
      { cls := .ref 44, data := .fields #[.ref h.objs.size, .none, .none, .none, .bool false, .none] } := by heap_get
  have hcC : (Value.ref 44 :: (Value.ref 31 :: excTail)).contains (.ref 44) = true := by simp
  unfold isInstance
  repeat (first | with_reducible refine wpAny_loadPart_at hget ?_ | (with_reducible refine wpAny_isSubtype_exc hC₁ ?_; rw [hcC]) | wp_step)
  show wpAny _ _ (typeLookup (.ref 44) _) _ _ _
  refine look44k S hk F.init.lookup ?_
  rw [S.noInit]
  dsimp only
  rw [S.init]
  refine wpAny_holding (wpAny_bind ?_)
  unfold bindSpecial
  refine wpAny_bind (wpAny_typeOf (T := "function") ⟨_, hfI₁, hfc⟩ ?_)
  rw [if_pos (by decide)]
  refine wpAny_pure (wpAny_bind (wpAny_mono (hq _ (h.objs.size + 1) ⟨hk, Heap.get?_none_of_le (Nat.le_succ _), h.objs.size, hget, Heap.get?_none_of_le (Nat.le_refl _), ?_⟩) (fun r s' hr => ?_) fun _ _ x => x))
  · exact Heap.get?_push_of_some _ (Heap.get?_push_at rfl rfl)
  · obtain ⟨rfl, hQ⟩ := hr
    wp_walk
    exact hQ
theorem seg_call {rest : List Value} {oI : Obj} {Q : Value → Shared → Prop} (S : SegIs h)
    (hfI : h.get? 28 = some oI) (hfc : oI.cls = .type "function")
    (hq : ∀ h' e, Heap.MadeExcOf h h' e (.ref 44) rest →
      wpAny (model prog w) (A.under (.builtin "type.__call__" ⟨.ref 44 :: rest, []⟩)) (call (.ref 28) (.ref e :: rest)) (fun r s' => r = .none ∧ Q (.ref e) s') E ⟨h', g, d, t, os⟩) (hrest : rest.length ≤ sizeLine) :
    wpAny (model prog w) A (call (.ref 44) rest) Q E ⟨h, g, d, t, os⟩ := by
  obtain ⟨nm, q, bs, sn, sub, ab, col, dd, k0, k1, k2, k3, k5, hC⟩ := S.cls
  have f1 := tc_lookup
  have f2 := tc_bind (.ref 44)
  have hT : (⟨h, g, d, t, os⟩ : Shared).TypeIs (.ref 44) "type" := ⟨_, hC, rfl⟩
  refine wpAny_call (codeAny_of_tree ?_)
  show wpAny _ _ (callAny (.ref 44) _) _ _ _
  repeat (any_goals (first | assumption | with_reducible refine wpAny_loadPart_at hC ?_ | wp_step))
  refine ⟨rfl, ?_⟩
  refine codeAny_call_builtin_at (Code.quiet_builtin _ (by decide +kernel)) entry_typeCall (wpAny_check_type_call_sub hC (seg_type_call (hrest := hrest) S hfI hfc fun h' e hm => ?_))
  exact hq h' e hm
end
end Mine
end
section
open PySem
set_option Elab.async false
set_option maxRecDepth 100000
set_option maxHeartbeats 0
namespace Mine
abbrev excObj (t : Addr) (dd : Option Addr) : Obj := { cls := .ref 44, dict := dd, data := .fields #[.ref t, .none, .none, .none, .bool false, .none] }
section
variable {prog : Program} {w : World} {A : Around} {R : Result → Shared → Prop} {E : Value → Shared → Prop} {h : Heap} {g : Array GenState} {d : Drawn} {t : Nat} {os : OsState}
variable {nm q : Str} {bs : List Value} {sn : List Str} {sub : List Value} {ab : Bool} {col : Option Bool} {dd : Option Addr} {k0 k1 k2 k3 k5 : Option Value}
theorem seg_check_init {M : Model} {e : Addr} {oe : Obj} {rest : List Value} {Q : Unit → Shared → Prop}
    (hC : h.get? 44 = some (excClassObj nm q 44 43 bs (.ref 31 :: excTail) true sn sub ab col dd k0 k1 k2 k3 k5 "Exception.__new__")) (he : h.get? e = some oe) (hcls : oe.cls = .ref 44) (hq : Q () ⟨h, g, d, t, os⟩) :
    wpAny M A (checkBuiltinCall "Exception.__init__" ⟨.ref e :: rest, []⟩) Q E ⟨h, g, d, t, os⟩ := by
  have F := PySem.F.excBase_Exception
  have hcB := seg_contains F.hasB
  have hshort := F.noStar
  simp only [checkBuiltinCall, F.initKind, F.initSplit, F.initRow]
  repeat (first | (with_reducible refine wpAny_loadPart_at he ?_; rw [hcls]) | with_reducible refine wpAny_loadPart_at hC ?_ | (with_reducible refine wpAny_isSubtype_exc hC ?_; rw [hcB]) | wp_step)
  refine wpAny_onRaise ?_
  rw [show ∀ (a b : String) (n : Nat), Bind.check ⟨.positional, "*", "Exception", .self, [⟨"args", .varPos, false⟩]⟩ a b n (List.map (fun x => x.fst) ({ pos := Value.ref e :: rest } : Args).kw) = pure () from
    fun a b n => check_star_args _ _ _ _ _ _]
  exact wpAny_pure hq
/-- Exception.__init__(self, *rest) of an own exception: the arguments are kept in a new tuple -/
theorem seg_base_init {e : Addr} {rest : List Value} {Q : Value → Shared → Prop} {t0 : Addr} (S : SegIs h) (he : h.get? e = some (excObj t0 none))
    (hq : ∀ h' t2, (∀ b o, b ≠ e → h.get? b = some o → h'.get? b = some o) → h'.get? e = some (excObj t2 none) → Q .none ⟨h', g, d, t, os⟩) (hrest : rest.length ≤ sizeLine) :
    wpAny (model prog w) A (call (.builtin "Exception.__init__") (.ref e :: rest)) Q E ⟨h, g, d, t, os⟩ := by
  obtain ⟨nm, q, bs, sn, sub, ab, col, dd, k0, k1, k2, k3, k5, hC⟩ := S.cls
  have F := PySem.F.excBase_Exception
  refine wpAny_call (codeAny_call_builtin F.init.plain F.initEntry (seg_check_init hC he rfl ?_))
  wp_walk
  have hne : e ≠ h.objs.size := Nat.ne_of_lt (Heap.lt_size he)
  have he₁ := Heap.get?_push_of_some { cls := .type "tuple", data := .seq rest.toArray } he
  refine hq _ h.objs.size (fun b o hb hbo => ?_) ?_
  · rw [Heap.get?_update_other _ _ (Ne.symm hb)]
    exact Heap.get?_push_of_some _ hbo
  · rw [Heap.get?_update_self _ he₁ rfl]
    rfl
end
theorem meta_exc : typeOf (.type "Exception") = pure (.type "type") := by first | rfl | kernel_rfl
end Mine
end
section
open PySem PySem.Builtin PySem.Builtin.ObjectAttr
set_option Elab.async false
set_option maxRecDepth 100000
set_option maxHeartbeats 0
namespace Mine
theorem no_message : typeLookup (.type "Exception") "message" = pure none := by rw [typeLookup_type, builtinLookup_eq_fast]; kernel_rfl
section
variable {prog : Program} {w : World} {A : Around} {R : Result → Shared → Prop} {E : Value → Shared → Prop} {h : Heap} {g : Array GenState} {d : Drawn} {t : Nat} {os : OsState}
variable {nm q : Str} {bs : List Value} {sn : List Str} {sub : List Value} {ab : Bool} {col : Option Bool} {dd : Option Addr} {k0 k1 k2 k3 k5 : Option Value}
theorem seg_check_sa {M : Model} {x : Addr} {v : Value} {o : Obj} {nameV : Value} {Q : Unit → Shared → Prop}
    (hC : h.get? 44 = some (excClassObj nm q 44 43 bs (.ref 31 :: excTail) true sn sub ab col dd k0 k1 k2 k3 k5 "Exception.__new__")) (hx : h.get? x = some o) (hc : o.cls = .ref 44) (hq : Q () ⟨h, g, d, t, os⟩) :
    wpAny M A (checkBuiltinCall "object.__setattr__" ⟨[.ref x, nameV, v], []⟩) Q E ⟨h, g, d, t, os⟩ := by
  have SF := PySem.F.store_Exception
  have hcB := seg_contains SF.hasOwner
  have ha := SF.args (.ref x) nameV v
  simp only [checkBuiltinCall, SF.kind, SF.split]
  refine wpAny_bind ?_
  · unfold isInstance
    repeat (first | (with_reducible refine wpAny_loadPart_at hx ?_; rw [hc]) | (with_reducible refine wpAny_isSubtype_exc hC ?_; rw [hcB]) | wp_step)
    exact hq
theorem seg_store0 {x : Addr} {o : Obj} {vs : Array Value} {v : Value} {tk : Tok} {Q : Fin → Shared → Prop} (S : SegIs h) (hx : h.get? x = some o) (hc : o.cls = .ref 44) (hdn : o.dict = none) (hdt : o.data = .fields vs)
    (hq : ∀ h' tk' dx, (∀ b o, b ≠ x → h.get? b = some o → h'.get? b = some o) → h'.get? x = some { o with dict := some dx } → Q (.done (.ret .none)) ⟨h', g, d, tk', os⟩) :
    wpAny (model prog w) A (Builtin.«object.__setattr__» ⟨[.ref x, .str "message" tk, v], []⟩) Q E ⟨h, g, d, t, os⟩ := by
  obtain ⟨nm, q, bs, sn, sub, ab, col, dd, k0, k1, k2, k3, k5, hC⟩ := S.cls
  have SF := PySem.F.store_Exception
  have hpass := SF.passes (.ref x)
  generalize hname : (Str.ofString "message" : Str) = name
  have hm0 := no_message
  have hm1 := S.noMessage
  have hm2 := S.noMessage2
  change typeLookup (.type "Exception") (Str.ofString "message") = _ at hm0
  change h.nsMap 43 (Str.ofString "message") = _ at hm1
  change h.nsMap 30 (Str.ofString "message") = _ at hm2
  rw [hname] at hm0 hm1 hm2
  unfold Builtin.«object.__setattr__»
  repeat (first | rw [refuse_eq] | (rw [refuseLoop_ref, refuseLoop_ref, hpass]) | (with_reducible refine wpAny_loadPart_at hx ?_; rw [hc]) | with_reducible refine wpAny_mroOf_exc hC ?_ | (with_reducible refine look44 S hm0 ?_; rw [hm1, hm2]) | wp_step)
  rw [hdn, if_neg (by simp [typeHasDict])]
  split
  · rename_i hcd
    cases hcd
  split
  · rename_i c hcd
    rw [hdt] at hcd
    cases hcd
  · have hx₁ : (h.push { cls := .type "dict", data := .dict #[] }).get? x = some o := Heap.get?_push_of_some _ hx
    have hxs : x ≠ h.objs.size := Nat.ne_of_lt (Heap.lt_size hx)
    refine wpAny_bind (wpAny_alloc' ?_)
    refine wpAny_bind (wpAny_update' hx₁ ?_)
    refine wpAny_pure ?_
    have hgd : ((h.push { cls := .type "dict", data := .dict #[] }).update x fun o => { cls := o.cls, dict := some h.objs.size, data := o.data, slots := o.slots }).get? h.objs.size
        = some { cls := .type "dict", data := .dict #[] } :=
      (Heap.get?_update_ne _ _ _ _ hxs.symm).trans (Heap.get?_push_at rfl rfl)
    have hnd : ((h.push { cls := .type "dict", data := .dict #[] }).update x fun o => { cls := o.cls, dict := some h.objs.size, data := o.data, slots := o.slots }).Ns h.objs.size (fun _ => none) :=
      ⟨_, #[], _, hgd, rfl, fun e he => absurd he (by simp), fun _ => rfl⟩
    show wpAny _ _ (storeInDict h.objs.size (.str name tk) name v) _ _ _
    unfold storeInDict newKeyGuard
    refine wpAny_bind (wpAny_pure (wpAny_bind (wpAny_nsSet1 (Heap.Ns1.of_empty hnd) fun h' hn' hs => ?_)))
    obtain ⟨oD, esD, epD, hoD, hdD, hcD⟩ := hn'.count (Within.cons name v Within.nil)
    refine wpAny_bind (wpAny_lookBehind hoD (by rw [hdD]; exact pastItsLine_dict (Nat.le_trans hcD (by rw [List.length_cons, List.length_nil, sizeLine_eq]; omega))) ?_)
    wp_walk
    have hx' : h'.get? x = some { cls := o.cls, dict := some h.objs.size, data := o.data, slots := o.slots } := by
      refine (hs.2 x hxs).trans (Heap.get?_update_self _ hx₁ ?_)
      have hfr := (Heap.get?_some_iff.mp hx).2
      obtain ⟨oc, od, odt, osl⟩ := o
      cases odt <;> first | rfl | exact hfr
    refine hq h' _ h.objs.size (fun b ob hbx hb => ?_) hx'
    exact (hs.2 b (Nat.ne_of_lt (Heap.lt_size hb))).trans ((Heap.get?_update_ne _ _ _ _ hbx).trans (Heap.get?_push_of_some _ hb))
theorem seg_setattr {x t0 : Addr} {v : Value} {Q : Unit → Shared → Prop} (S : SegIs h) (hx : h.get? x = some (excObj t0 none))
    (hq : ∀ h' tk' dx, (∀ b o, b ≠ x → h.get? b = some o → h'.get? b = some o) → h'.get? x = some (excObj t0 (some dx)) → Q () ⟨h', g, d, tk', os⟩) :
    wpAny (model prog w) A (setAttr (.ref x) "message" v) Q E ⟨h, g, d, t, os⟩ := by
  obtain ⟨nm, q, bs, sn, sub, ab, col, dd, k0, k1, k2, k3, k5, hC⟩ := S.cls
  have SF := PySem.F.store_Exception
  have f3 := SF.slot.bind (.ref x)
  have hc : (excObj t0 none).cls = .ref 44 := rfl
  unfold setAttr callSpecial? specialOf
  repeat (any_goals (first | assumption | (with_reducible refine wpAny_loadPart_at hx ?_; rw [hc]) | (with_reducible refine look44 S SF.slot.lookup ?_; rw [S.noSet, S.noSet2]) | wp_step))
  refine codeAny_call_builtin SF.slot.plain SF.entry (seg_check_sa hC hx hc (seg_store0 S hx hc rfl rfl fun h' tk' dx hk hx' => ?_))
  repeat (any_goals (first | assumption | wp_step))
  exact hq h' tk' dx hk hx'
end
end Mine
end
section
open PySem PySem.W PyProof.Rows PySem.Calls PySem.Spec PyProof.V
set_option Elab.async false
set_option maxRecDepth 100000
set_option maxHeartbeats 0
namespace Mine
section
variable {prog : Program} {w : World} {A₀ A : Around} {s : Shared} {K : Frag} {L : Addr} {h₀ base : Heap} {m mg mb : Str → Option Value} {own : Led} {p : Program} {loose : List Str} {mean : ExcName → Option Value}
  {env : Env} {outer : List Env} {R : Result → Shared → Prop} {name qual : Str} {params : Arguments} {body : List Stmt} {scope : Scope} {dV kV doc pm cdv ct oc : Value} {an od : Option Addr} {osl : Array (Option Value)} {f : Addr} {args : Args} {binds : List (Str × Value)}
/-- a def's call with all that stands: for a body that may be left by an exception -/
theorem code_raw (B : Below A₀ base outer h₀) (F : Fr h₀ L s.heap m) (X₀ : K.In h₀) (N : News h₀ L s.heap own) (T : Top p loose mean mg mb h₀) (hA : A.frames = some (env :: outer)) (hf : env.frame = some L) (hke : env.scope.kind = .function)
    (ho : K.lookup f = some ⟨oc, od, .func (fnOf name qual params body scope dV kV doc pm an cdv ct), osl⟩) (hcd : codeIn K cdv qual = true) (hroom : A.depth < recursionLimit)
    (hbind : BindsTo s (fnOf name qual params body scope dV kV doc pm an cdv ct) args binds) (hloc : ∀ y ∈ binds, scope.names.lookup y.1 = some .local)
    (h : ∀ g L' h₁, Fr h₀ L g m → Fr g L' h₁ (fun y => binds.reverse.lookup y) → News g L' h₁ own → Below A base (env :: outer) g → K.In g → Top p loose mean mg mb g → (∀ q ∈ own, q.1 < L') →
      (∀ b o, s.heap.get? b = some o → b ∉ own.map (·.1) → g.get? b = some o) → s.heap.get? L' = none →
      wpAny (model prog w) (A.deeper (envOf qual scope L' f cdv)) (execs body (envOf qual scope L' f cdv))
        (fun fl s' => R (.ok (.ret (match fl with | .ret v => v | _ => .none))) s')
        (fun e s' => wpAny (model prog w) (A.deeper (envOf qual scope L' f cdv)) (leaving (envOf qual scope L' f cdv) e) (fun _ s'' => R (.error e) s'') (fun e' s'' => R (.error e') s'') s')
        { s with heap := h₁, toks := s.toks + binds.length })
    (hco : scope.isCoroutine = false) (hgen : scope.isGenerator = false) (hk : scope.kind = .function)
    (hcell : ∀ x ∈ scope.names, x.2 ≠ .cell) : codeAny (model prog w) A (.call (.ref f) args) R s := by
  obtain ⟨FG, BG, st, _⟩ := groundX (R := R) B F N hA hf hke
  refine codeAny_call_def (fd := fnOf name qual params body scope dV kV doc pm an cdv ct) (body := body) (binds := binds) hroom ((X₀.keeps F.keep) _ _ ho) rfl (T.nolimit.keeps F.keep) (codeRec_of (X₀.keeps F.keep) hcd) rfl hbind hcell hloc (fun h₁ hns hk₁ => ?_) hco hgen hk
  exact h (hideAll s.heap (own.map (·.1))) s.heap.objs.size h₁ FG ⟨hns, fun b o e => hk₁ b o (of_hideAll _ e), Nat.le_of_eq (hideAll_size _ _)⟩
    (fun q hq => ⟨hk₁ _ _ (N q hq).1, Nat.ne_of_lt (Heap.lt_size (N q hq).1), hideAll_none _ (List.mem_map_of_mem hq)⟩) BG (X₀.keeps fun b o e => st b o e) (T.keeps fun b o e => st b o e) (fun q hq => Heap.lt_size (N q hq).1)
    (fun b o e hb => hideAll_get _ e hb) (Heap.get?_none_of_le (Nat.le_refl _))
end
section
variable {prog : Program} {w : World} {A : Around} {E : Value → Shared → Prop} {s : Shared} {h₀ : Heap} {L e t0 : Addr} {m : Str → Option Value} {v : Value} {news : Led}
theorem fr_but {h h' : Heap} {o : Obj} (F : Fr h₀ L h m) (N : News h₀ L h [(e, o)]) (k : ∀ b o, b ≠ e → h.get? b = some o → h'.get? b = some o) : Fr h₀ L h' m := by
  obtain ⟨_, n1, n2⟩ := N _ (.head _)
  obtain ⟨oL, es, ep, hL, r⟩ := F.ns
  refine ⟨⟨oL, es, ep, k _ _ (fun q => n1 q.symm) hL, r⟩, fun b o hb => k _ _ (fun q => by rw [q, n2] at hb; cases hb) (F.keep b o hb), F.above⟩
theorem newsOne {h h' : Heap} {o o' : Obj} (N : News h₀ L h [(e, o)]) (k : h'.get? e = some o') : News h₀ L h' [(e, o')] := fun q hq => by
  obtain ⟨_, n1, n2⟩ := N _ (.head _)
  cases hq with
  | head => exact ⟨k, n1, n2⟩
  | tail _ hq => cases hq
theorem seg_keep {h : Heap} (S : SegIs h₀) (F : Fr h₀ L h m) : SegIs h := by
  have k := F.keep
  have n43 := S.ns.keeps k
  have n30 := S.upNs.keeps k
  have e43 : ∀ y, h.nsMap 43 y = h₀.nsMap 43 y := fun y => by
    obtain ⟨o, es, ep, ho, hd, r⟩ := S.ns
    unfold Heap.nsMap
    rw [ho, k _ _ ho]
  have e30 : ∀ y, h.nsMap 30 y = h₀.nsMap 30 y := fun y => by
    obtain ⟨o, es, ep, ho, hd, r⟩ := S.upNs
    unfold Heap.nsMap
    rw [ho, k _ _ ho]
  obtain ⟨nm, q, bs, sn, sub, ab, col, dd, k0, k1, k2, k3, k5, hC⟩ := S.cls
  obtain ⟨c0, dd', cd, sl, hU, hns⟩ := S.up
  exact { cls := ⟨_, _, _, _, _, _, _, _, _, _, _, _, _, k _ _ hC⟩
          up := ⟨_, _, _, _, k _ _ hU, hns⟩
          ns := by rw [show h.nsMap 43 = h₀.nsMap 43 from funext e43]; exact n43
          upNs := by rw [show h.nsMap 30 = h₀.nsMap 30 from funext e30]; exact n30
          noInit := (e43 _).trans S.noInit
          noMessage := (e43 _).trans S.noMessage
          noSet := (e43 _).trans S.noSet
          init := (e30 _).trans S.init
          noMessage2 := (e30 _).trans S.noMessage2
          noSet2 := (e30 _).trans S.noSet2 }
theorem base_initK {Q : Value → Shared → Prop} (F : Fr h₀ L s.heap m) (X : (hd.heap_39 w.params).In h₀) (N : News h₀ L s.heap [(e, excObj t0 none)])
    (h : ∀ h' t2, Fr h₀ L h' m → News h₀ L h' [(e, excObj t2 none)] → Q .none { s with heap := h' }) :
    wpAny (model prog w) A (call (.builtin "Exception.__init__") [.ref e, v]) Q E s := by
  obtain ⟨hp, g, d, tk, os⟩ := s
  exact seg_base_init (seg_keep (segIs X) F) (N _ (.head _)).1 (fun h' t2 k he => h h' t2 (fr_but F N k) (newsOne N he)) (by rw [List.length_singleton, sizeLine_eq]; omega)
theorem setattrK {Q : Unit → Shared → Prop} (F : Fr h₀ L s.heap m) (X : (hd.heap_39 w.params).In h₀) (N : News h₀ L s.heap [(e, excObj t0 none)])
    (h : ∀ h' tk' dx, Fr h₀ L h' m → News h₀ L h' [(e, excObj t0 (some dx))] → Q () { s with heap := h', toks := tk' }) :
    wpAny (model prog w) A (setAttr (.ref e) (Str.ofString "message") v) Q E s := by
  obtain ⟨hp, g, d, tk, os⟩ := s
  exact seg_setattr (seg_keep (segIs X) F) (N _ (.head _)).1 fun h' tk' dx k he => h h' tk' dx (fr_but F N k) (newsOne N he)
end



theorem init28 {w : World} {dp un : Nat} {gd : Option (List Code)} {cn : Str} {cs : Scope} {aa : Addr} {ccd : Value} {cl : List (Str × Addr)} {outer : List Env} {A₀ : Around} {base h₀ hb0 : Heap} {mg mb : Str → Option Value} {L : Addr} {m : Str → Option Value} {s : Shared} {Q E : Value → Shared → Prop}
    {e t : Addr} {msg : Str} {tm : Tok}
    (B : Below A₀ base outer h₀) (F : Fr h₀ L s.heap m) (X : (hd.heap_39 w.params).In h₀) (T : Top hd.view_39 (looseW hd.view_39 [Str.ofString "Piece"]) (ExcName.means hb0) mg mb h₀) (hk : cs.kind = .function)
    (hdp : dp + 4 < 900) (hu : un + 32 < 900) (N : News h₀ L s.heap [(e, excObj t none)])
    (hq : ∀ h' tk' t2 dd, (∀ b o, b ≠ e → s.heap.get? b = some o → h'.get? b = some o) → h'.get? e = some (excObj t2 dd) → Q .none { s with heap := h', toks := tk' }) :
    wpAny (model PySem.Challenge.rw_pf0228_01.row.prog w) ((ktrTop dp un gd cn cs L aa ccd cl outer).under (.builtin "type.__call__" ⟨[.ref 44, .str msg tm], []⟩)) (call (.ref 28) [.ref e, .str msg tm]) Q E s := by
  revert X
  k_fill
  w_top off
  intro X
  refine wpAny_call ?_
  k_dflt (refine' code_raw (own := [(e, excObj t none)]) ?k1 ?k2 ?k3 ?k4 ?k5 ?kA ?kF ?kK ?k6 ?k7 ?k8 ?k9 ?kB ?_ ?c2 ?c3 ?c4 ?c5; (case kA => exact rfl); (case kF => exact rfl); (case kK => assumption); (case k1 => k_asm); (case k2 => k_asm); (case k3 => k_asm); (case k4 => exact N); (case k5 => k_asm); (case k6 => k_is); (case k7 => k_is); (case k8 => ktr_room); (case k9 => exact BindsTo.of_eq rfl); (case c5 => decide); (case kB => exact locs rfl); (case c2 => exact rfl); (case c3 => exact rfl); (case c4 => exact rfl); k_whole)
  intro g' L' h' FG' F' N' B' X' T' l1 hg hL
  clear N
  k_lt l1
  (try dsimp only)
  (try k_fold)
  (repeat' (first | (k_unfold; (try dsimp only)) | (k_end; wrow_close) | ((with_reducible show wpAny _ _ (setAttr (Value.ref _) ..) _ _ _); (with_reducible ((k_here; k_dflt (refine' setattrK ?FT37 ?XT37 ?NT37 ?_; (case FT37 => k_asm); (case XT37 => k_asm); (case NT37 => k_asm); k_whole); intro h9zq tk9zq d9zq F9zq N9zq; (try dsimp only); (try k_sweep); (try k_fold))))) | ((with_reducible show wpAny _ _ (call (Value.builtin _) _) _ _ _); (with_reducible ((k_here; (with_reducible show wpAny _ _ (call (Value.builtin "Exception.__init__") [Value.ref _, _]) _ _ _); k_dflt (refine' base_initK ?FT36 ?XT36 ?NT36 ?_; (case FT36 => k_asm); (case XT36 => k_asm); (case NT36 => k_asm); k_whole); intro h9zq t9zq F9zq N9zq; (try dsimp only); (try k_sweep); (try k_fold))))) | ((with_reducible show wpAny _ _ (getMethod (Value.type ..) _ _) _ _ _); (with_reducible ((k_here; refine' method_type ?FT35 ?XT35 ?mT35 (by decide +kernel) ?eT35 ?hT35 ?_; (case FT35 => k_asm); (case XT35 => k_asm); (case mT35 => exact meta_exc); (case eT35 => k_dflt k_is); (case hT35 => k_handed))))) | walk1 | (dsimp only; (first | ((with_reducible show wpAny _ _ (setAttr (Value.ref _) ..) _ _ _); (with_reducible ((k_here; k_dflt (refine' setattrK ?FT37 ?XT37 ?NT37 ?_; (case FT37 => k_asm); (case XT37 => k_asm); (case NT37 => k_asm); k_whole); intro h9zq tk9zq d9zq F9zq N9zq; (try dsimp only); (try k_sweep); (try k_fold))))) | ((with_reducible show wpAny _ _ (call (Value.builtin _) _) _ _ _); (with_reducible ((k_here; (with_reducible show wpAny _ _ (call (Value.builtin "Exception.__init__") [Value.ref _, _]) _ _ _); k_dflt (refine' base_initK ?FT36 ?XT36 ?NT36 ?_; (case FT36 => k_asm); (case XT36 => k_asm); (case NT36 => k_asm); k_whole); intro h9zq t9zq F9zq N9zq; (try dsimp only); (try k_sweep); (try k_fold))))) | ((with_reducible show wpAny _ _ (getMethod (Value.type ..) _ _) _ _ _); (with_reducible ((k_here; refine' method_type ?FT35 ?XT35 ?mT35 (by decide +kernel) ?eT35 ?hT35 ?_; (case FT35 => k_asm); (case XT35 => k_asm); (case mT35 => exact meta_exc); (case eT35 => k_dflt k_is); (case hT35 => k_handed))))) | walk1)) | (leave1; walk_say "STEP leave1"; try dsimp only) | fail "no step"))
  with_reducible rename Fr g' L' _ _ => zF
  with_reducible rename News g' L' _ _ => zN
  refine hq _ _ _ _ (fun b o hb ho => zF.keep b o (hg b o ho fun q => ?_)) (zN _ (.head _)).1
  simp only [List.map_cons, List.map_nil, List.mem_cons, List.not_mem_nil, or_false] at q
  exact hb q
end Mine
end
section
open PySem PySem.W PyProof.Rows PySem.Calls PySem.Spec
set_option Elab.async false
set_option maxRecDepth 100000
set_option maxHeartbeats 0
namespace Mine
section
variable {M : Model} {A : Around} {E : Value → Shared → Prop} {env : Env}
theorem raiseStmt_seg {s : Shared} {x : Sem Value} {Q : Flow → Shared → Prop} (hh : A.handled = none)
    (h : wpAny M A x (fun v s₁ => ∃ e t2 dd, v = .ref e ∧ SegIs s₁.heap ∧ s₁.heap.get? e = some (excObj t2 dd) ∧ E (.ref e) s₁) E s) :
    wpAny M A (raiseStmt env (some x) none) Q E s := by
  have hcB := seg_contains PySem.F.excBase_Exception.hasBase
  unfold raiseStmt
  refine wpAny_bind (wpAny_mono h (fun v s₁ h₁ => ?_) fun _ _ x => x)
  obtain ⟨e, t, dd, rfl, S, he, hE⟩ := h₁
  obtain ⟨nm, q, bs, sn, sub, ab, col, dd', k0, k1, k2, k3, k5, hC⟩ := S.cls
  obtain ⟨hp, g, d, tk, os⟩ := s₁
  repeat (first | with_reducible refine wpAny_loadPart_at he ?_ | with_reducible refine wpAny_loadPart_at hC ?_ | (with_reducible refine wpAny_isSubtype_exc hC ?_; rw [hcB]) | wp_step)
  exact wpAny_raiseNew_none hh hE
end
theorem fnAt28' {w : World} {h : Heap} : (hd.heap_39 w.params).In h → PySem.Challenge.rw_pf0228_01 = PySem.Challenge.rw_pf0228_01 → ∃ o, h.get? 28 = some o ∧ o.cls = .type "function" := by
  k_fill
  w_top off
  intro X _
  exact ⟨_, X _ _ (by k_is), rfl⟩
theorem fnAt28 {w : World} {h : Heap} (X : (hd.heap_39 w.params).In h) : ∃ o, h.get? 28 = some o ∧ o.cls = .type "function" := fnAt28' X rfl
def RaiseEnd (h₀ : Heap) (L : Addr) (E : Value → Shared → Prop) (vs : List Value) (s₂ : Shared) : Prop :=
  ∃ msg tm m', vs = [.str msg tm] ∧ Fr h₀ L s₂.heap m' ∧
    ∀ e t2 h' tk' dd, (∀ b o, s₂.heap.get? b = some o → h'.get? b = some o) → s₂.heap.get? e = none → h'.get? e = some (excObj t2 dd) → E (.ref e) { s₂ with heap := h', toks := tk' }
theorem Raise_seg {w : World} {dp un : Nat} {gd : Option (List Code)} {cn : Str} {cs : Scope} {aa : Addr} {ccd : Value} {cl : List (Str × Addr)} {outer : List Env} {A₀ : Around} {base h₀ hb0 : Heap} {mg mb : Str → Option Value} {L : Addr} {m : Str → Option Value} {s : Shared} {Q : Flow → Shared → Prop} {E : Value → Shared → Prop}
    {x : Str} {np cpos pos : Pos} {e₀ : PySem.Expr} {rest : List PySem.Expr} {env : Env}
    (B : Below A₀ base outer h₀) (F : Fr h₀ L s.heap m) (X : (hd.heap_39 w.params).In h₀) (T : Top hd.view_39 (looseW hd.view_39 [Str.ofString "Piece"]) (ExcName.means hb0) mg mb h₀) (hk : cs.kind = .function)
    (hdp : dp + 4 < 900) (hu : un + 32 < 900)
    (hn : wpAny (model PySem.Challenge.rw_pf0228_01.row.prog w) (ktrTop dp un gd cn cs L aa ccd cl outer) (eval (.Name x np) env) (fun f s₁ => f = .ref 44 ∧ s₁ = s) E s)
    (h : wpAny (model PySem.Challenge.rw_pf0228_01.row.prog w) (ktrTop dp un gd cn cs L aa ccd cl outer) (spliced (backTo cpos (starEach (e₀ :: rest) env))) (RaiseEnd h₀ L E) E s)
    (he : starEach (e₀ :: rest) env = (false, eval e₀ env) :: starEach rest env := by rfl)
    (hplain : (backTo cpos (starEach rest env)).any (·.1) = false := by rfl) :
    wpAny (model PySem.Challenge.rw_pf0228_01.row.prog w) (ktrTop dp un gd cn cs L aa ccd cl outer) (exec (.Raise (some (.Call (.Name x np) (e₀ :: rest) [] cpos)) none pos) env) Q E s := by
  have hpl : (backTo cpos (starEach (e₀ :: rest) env)).any (·.1) = false := by rw [he]; show (false || (backTo cpos (starEach rest env)).any (·.1)) = false; rw [hplain]; rfl
  rw [arm_exec_Raise]
  refine wpAny_bind (wpAny_standAt (raiseStmt_seg rfl ?_))
  refine wpAny_bind (wpAny_mono (wpAny_Call_ofName (wpAny_mono hn (fun f s₁ h₁ => ?_) fun _ _ x => x)) (fun v s₃ h₃ => wpAny_bind (wpAny_standAt (wpAny_pure h₃))) fun _ _ x => x)
  obtain ⟨rfl, rfl⟩ := h₁
  unfold callWith
  refine wpAny_bind (wpAny_holding (wpAny_mono (Q := fun a s₂ => a.kw = [] ∧ ∃ msg tm m', a.pos = [.str msg tm] ∧ Fr h₀ L s₂.heap m' ∧
      ∀ e t2 h' tk' dd, (∀ b o, s₂.heap.get? b = some o → h'.get? b = some o) → s₂.heap.get? e = none → h'.get? e = some (excObj t2 dd) → E (.ref e) { s₂ with heap := h', toks := tk' }) ?_ (fun a s₂ h₂ => wpAny_bind (wpAny_standAt ?_)) fun _ _ x => x))
  · rw [he] at h ⊢
    exact Calls.evalArgs_plain (wpAny_mono h (fun vs s₂ h₂ => ⟨rfl, h₂⟩) fun _ _ y => y)
  obtain ⟨apos, akw⟩ := a
  obtain ⟨hkw, msg, tm, m', hpos, F₂, h₂⟩ := h₂
  obtain rfl : akw = [] := hkw
  obtain rfl : apos = [.str msg tm] := hpos
  obtain ⟨hp, g, d, tk, os⟩ := s₂
  simp only [hpl]
  have S := seg_keep (segIs X) F₂
  obtain ⟨nm, q, bs, sn, sub, ab, col, dd, k0, k1, k2, k3, k5, hC⟩ := S.cls
  refine wpAny_bind (wpAny_keeperOf_exc hC ?_)
  obtain ⟨oI, hI, hIc⟩ := fnAt28 X
  refine wpAny_bind (seg_call S (F₂.keep _ _ hI) hIc (fun h' e hm => ?_) (by rw [sizeLine_eq]; show 1 ≤ _; omega))
  obtain ⟨t, ht, htn, _⟩ := hm.there
  have F₃ : Fr h₀ L h' m' := ⟨F₂.ns.keeps hm.keeps, fun b o z => hm.keeps _ _ (F₂.keep b o z), F₂.above⟩
  refine init28 (t := t) B F₃ X T hk hdp hu (fun q hq => ?_) fun h₄ tk₄ t2 dd₄ kk he₄ => ⟨rfl, ?_⟩
  · cases hq with
    | head =>
      refine ⟨ht, fun z => ?_, ?_⟩
      · obtain ⟨oL, _, _, hL, _⟩ := F₂.ns
        have := hm.new
        dsimp only at z
        rw [z, hL] at this
        cases this
      · cases z : h₀.get? e with
        | none => rfl
        | some o => have := F₂.keep _ _ z; rw [hm.new] at this; cases this
    | tail _ hq => cases hq
  have keep : ∀ b o, hp.get? b = some o → h₄.get? b = some o := fun b o z => kk b o (fun y => by rw [y, hm.new] at z; cases z) (hm.keeps b o z)
  refine wpAny_bind (wpAny_holding (wpAny_point (wpAny_pure ?_)))
  exact ⟨e, t2, dd₄, rfl, seg_keep (segIs X) (m := m') ⟨F₂.ns.keeps keep, fun b o z => keep _ _ (F₂.keep b o z), F₂.above⟩, he₄, h₂ e t2 h₄ tk₄ dd₄ keep hm.new he₄⟩
end Mine
end
section
open PySem PySem.W PyProof.Rows PySem.Calls PySem.Spec
set_option Elab.async false
set_option maxRecDepth 100000
set_option maxHeartbeats 0
namespace Mine
/-- an own exception on its way up through «l»; all that «H» holds, the frames of «l» left out, stands -/
def Thrown (H : Heap) (l : List Env) (e : Addr) (h' : Heap) : Prop :=
  H.UpToSlots h' ∧ ∃ a0, Heap.FlyingW (hideAll H (l.filterMap (·.frame))) l e (.ref 44) a0 h'
theorem funFrames_to {base B h : Heap} : ∀ {l : List Env}, h.FunFrames base l → (∀ env ∈ l, ∀ a, env.frame = some a → B.get? a = none) → h.FunFrames B l
  | [], _, _ => trivial
  | env :: _, ⟨hk, ⟨L, o, hf, _, ho, hd⟩, hr⟩, hin => ⟨hk, ⟨L, o, hf, hin env (.head _) L hf, ho, hd⟩, funFrames_to hr fun e he => hin e (.tail _ he)⟩
section
variable {M : Model} {A : Around} {E : Value → Shared → Prop} {s' : Shared} {base g h H : Heap} {outer : List Env} {L a e t2 : Addr} {dd : Option Addr} {m : Str → Option Value} {name : Str} {scope : Scope} {cd : Value} {Q : Unit → Shared → Prop}
theorem leave_seg (K : Below A base outer g) (F : Fr g L h m) (hH : ∀ b o, H.get? b = some o → h.get? b = some o) (hL : H.get? L = none)
    (hk : ∀ b o, h.get? b = some o → s'.heap.get? b = some o) (hen : h.get? e = none) (he : s'.heap.get? e = some (excObj t2 dd))
    (hQ : ∀ h', Thrown H outer e h' → Q () { s' with heap := h' }) (hkf : scope.kind = .function) :
    wpAny M (A.deeper (envOf name scope L a cd)) (leaving (envOf name scope L a cd) (.ref e)) Q E s' := by
  have K' := K.push (name := name) (a := a) (cd := cd) F hkf
  have fr : s'.heap.FunFrames (hideAll H (outer.filterMap (·.frame))) (envOf name scope L a cd :: outer) := by
    refine (funFrames_to K'.frames fun env henv b hb => ?_).of_keeps fun b o hb _ => ⟨o, hk b o hb, rfl⟩
    rcases List.mem_cons.mp henv with rfl | henv
    · obtain rfl : L = b := Option.some.inj hb
      cases q : (hideAll H (outer.filterMap (·.frame))).get? L with
      | none => rfl
      | some o => have := of_hideAll _ q; rw [hL] at this; cases this
    · exact hideAll_none _ (List.mem_filterMap.mpr ⟨env, henv, hb⟩)
  have st : (hideAll H (outer.filterMap (·.frame))).StaysIn s'.heap := fun b o q => hk _ _ (hH _ _ (of_hideAll _ q))
  have hen' : (hideAll H (outer.filterMap (·.frame))).get? e = none := by
    cases q : (hideAll H (outer.filterMap (·.frame))).get? e with
    | none => rfl
    | some o => have := hH _ _ (of_hideAll _ q); rw [hen] at this; cases this
  refine wpAny_leaving_firstW (a0 := .ref t2) K'.stack fr rfl he st hen' rfl rfl rfl fun h' hl => ?_
  obtain ⟨k1, ⟨_, _, k2⟩, k3, k4⟩ := hl
  exact hQ h' ⟨((Heap.UpToSlots.of_keeps hH).trans (Heap.UpToSlots.of_keeps hk)).trans k4, _, k1, hen', k2, k3⟩
end
theorem keeps_all {H g h h₀ : Heap} {L L' : Addr} {m : Str → Option Value} {own led : Led} (hg : ∀ b o, H.get? b = some o → b ∉ own.map (·.1) → g.get? b = some o) (F : Fr g L' h m) (N : News h₀ L H own) (N' : News g L' h led) (hs : ∀ p ∈ own, p ∈ led) :
    ∀ b o, H.get? b = some o → h.get? b = some o := fun b o q => by
  by_cases hb : b ∈ own.map (·.1)
  · obtain ⟨p, hp, rfl⟩ := List.mem_map.mp hb
    have a := (N p hp).1
    rw [q] at a
    rw [Option.some.inj a]
    exact (N' p (hs p hp)).1
  · exact F.keep _ _ (hg b o q hb)
theorem len_big {prog : Program} {w : World} {A : Around} {E : Value → Shared → Prop} {s : Shared} {t : Tok} {Q : Value → Shared → Prop} {n : Nat} (hn : n ≤ 1099511627776) (h : Q (.int (n : Nat) (s.toks + 1)) { s with toks := s.toks + 1 + 1 }) :
    wpAny (model prog w) A (call (.builtin "len") [.bytes (zeros n) t]) Q E s := by
  have e : (KBw.bInts (zeros n)).length = n := by
    have := zeros_size n
    unfold KBw.bInts
    simp [this]
  refine KBw.len_K rfl (by rw [e]; exact hn) ?_
  rw [e]
  exact h
theorem has254 (w : World) (tc : Tok) (news : Led) : Meet w 2 93 [.int 254 tc] news (boolOut true news) := by
  have h := has_meets w 254 tc news
  rw [show hasOf 254 = true by decide] at h
  exact h
end Mine
end
section
open PySem PySem.W PyProof.Rows PySem.Calls PySem.Spec PyProof.V
set_option Elab.async false
set_option maxRecDepth 100000
set_option maxHeartbeats 0
namespace Mine




theorem wpiece_throws {w : World} {dp un : Nat} {gd : Option (List Code)} {cn : Str} {cs : Scope} {aa : Addr} {ccd : Value} {cl : List (Str × Addr)} {outer : List Env} {A₀ : Around} {base h₀ hb0 : Heap} {mg mb : Str → Option Value} {L : Addr} {m : Str → Option Value} {s : Shared} {Q E : Value → Shared → Prop}
    {x d : Addr} {t1 t2 t3 tc tp td : Tok} (N : News h₀ L s.heap [(x, instObj 111 d), (d, pieceDict w 254 (zeros (Int.toNat 65534)) #[] t1 t2 t3 tc tp td)])
    (B : Below A₀ base outer h₀) (F : Fr h₀ L s.heap m) (X : (hd.heap_39 w.params).In h₀) (T : Top hd.view_39 (looseW hd.view_39 [Str.ofString "Piece"]) (ExcName.means hb0) mg mb h₀) (hk : cs.kind = .function)
    (hdp : dp + 6 < 900) (hu : un + 64 < 900)
    (hE : ∀ e h' tk', Thrown s.heap (envX cn cs L aa ccd cl :: outer) e h' → E (.ref e) { s with heap := h', toks := tk' }) :
    wpAny (model PySem.Challenge.rw_pf0228_01.row.prog w) (ktrTop dp un gd cn cs L aa ccd cl outer) (call (.ref 122) [.ref x]) Q E s := by
  revert X
  k_fill
  w_top off
  intro X
  refine wpAny_call ?_
  k_dflt (refine' code_raw (own := [(x, instObj 111 d), (d, pieceDict w 254 (zeros (Int.toNat 65534)) #[] t1 t2 t3 tc tp td)]) ?k1 ?k2 ?k3 ?k4 ?k5 ?kA ?kF ?kK ?k6 ?k7 ?k8 ?k9 ?kB ?_ ?c2 ?c3 ?c4 ?c5; (case kA => exact rfl); (case kF => exact rfl); (case kK => assumption); (case k1 => k_asm); (case k2 => k_asm); (case k3 => k_asm); (case k4 => exact N); (case k5 => k_asm); (case k6 => k_is); (case k7 => k_is); (case k8 => ktr_room); (case k9 => exact BindsTo.of_eq rfl); (case c5 => decide); (case kB => exact locs rfl); (case c2 => exact rfl); (case c3 => exact rfl); (case c4 => exact rfl); k_whole)
  intro g' L' h' FG' F' N' B' X' T' l1 hg hL
  k_lt l1
  have zN := N
  clear N
  (try dsimp only)
  (try k_fold)
  (repeat' (first | (k_unfold; (try dsimp only)) | (k_end; wrow_close) | ((with_reducible show RaiseEnd ..); (with_reducible (((unfold RaiseEnd); k_dflt (refine' ⟨_, _, _, rfl, ?FT41, ?_⟩; (case FT41 => k_asm)); intro e9zq t9zq h9zq tk9zq d9zq k1zq k2zq k3zq; (try dsimp only); (try k_fold))))) | ((with_reducible show wpAny _ _ (exec (PySem.Stmt.Raise ..) _) _ _ _); (with_reducible ((k_here; k_dflt (refine' Raise_seg ?BT40 ?FT40 ?XT40 ?TT40 ?hkT40 ?hdpT40 ?huT40 ?hnT40 ?_ ?heT40 ?hplT40; (case BT40 => k_asm); (case FT40 => k_asm); (case XT40 => k_asm); (case TT40 => k_asm); (case hkT40 => exact rfl); (case hdpT40 => ((try simp only [depth_under_make, depth_under_kw, depth_in1, depth_deeper, depth_caller]); (try dsimp only [ktrTop]); omega)); (case huT40 => ((try simp only [units_in1, units_deeper, Around.mark_units, units_caller]); (try dsimp only [ktrTop]); omega)); (case hnT40 => (refine' name_K ?F2T40 ?X2T40 ?T2T40 ?e2T40 ?h2T40 ?c1T40 ?c2T40 ?c3T40; (case F2T40 => k_asm); (case X2T40 => k_asm); (case T2T40 => k_asm); (case e2T40 => k_is); (case h2T40 => exact ⟨rfl, rfl⟩); (case c1T40 => exact rfl); (case c2T40 => exact rfl); (case c3T40 => decide))); (case heT40 => exact rfl); (case hplT40 => exact rfl); k_whole))))) | ((with_reducible show wpAny _ _ (call (Value.builtin _) _) _ _ _); (with_reducible ((k_here; (with_reducible show wpAny _ _ (call (Value.builtin "len") [Value.bytes (zeros _) _]) _ _ _); k_dflt (refine' len_big ?aT39 ?_; (case aT39 => decide); k_whole); (try dsimp only))))) | ((with_reducible show wpAny _ _ (call (Value.ref _) _) _ _ _); (with_reducible ((k_here; (with_reducible show wpAny _ _ (call (Value.ref 93) _) _ _ _); k_dflt ( refine' meet_use (has254 _ _ _) ?k1T38 ?k2T38 ?k3T38 ?k4T38 ?k5T38 ?kKT38 ?kdT38 ?kuT38 ?_; (case k1T38 => k_asm); (case k2T38 => k_asm); (case k3T38 => k_asm); (case k4T38 => k_asm); (case k5T38 => k_asm); (case kKT38 => first | exact rfl | assumption); (case kdT38 => ((try simp only [depth_under_make, depth_under_kw, depth_in1, depth_deeper, depth_caller]); (try dsimp only [ktrTop]); omega)); (case kuT38 => ((try simp only [units_in1, units_deeper, Around.mark_units, units_caller]); (try dsimp only [ktrTop]); omega))); intro v9zq n9zq h9zq tk9zq F9zq N9zq o9zq; (k_dflt (obtain ⟨e9zq, e8zq⟩ := o9zq; subst e9zq; subst e8zq)); (try dsimp only); (try k_sweep); (try k_fold))))) | walk1 | (dsimp only; (first | ((with_reducible show RaiseEnd ..); (with_reducible (((unfold RaiseEnd); k_dflt (refine' ⟨_, _, _, rfl, ?FT41, ?_⟩; (case FT41 => k_asm)); intro e9zq t9zq h9zq tk9zq d9zq k1zq k2zq k3zq; (try dsimp only); (try k_fold))))) | ((with_reducible show wpAny _ _ (exec (PySem.Stmt.Raise ..) _) _ _ _); (with_reducible ((k_here; k_dflt (refine' Raise_seg ?BT40 ?FT40 ?XT40 ?TT40 ?hkT40 ?hdpT40 ?huT40 ?hnT40 ?_ ?heT40 ?hplT40; (case BT40 => k_asm); (case FT40 => k_asm); (case XT40 => k_asm); (case TT40 => k_asm); (case hkT40 => exact rfl); (case hdpT40 => ((try simp only [depth_under_make, depth_under_kw, depth_in1, depth_deeper, depth_caller]); (try dsimp only [ktrTop]); omega)); (case huT40 => ((try simp only [units_in1, units_deeper, Around.mark_units, units_caller]); (try dsimp only [ktrTop]); omega)); (case hnT40 => (refine' name_K ?F2T40 ?X2T40 ?T2T40 ?e2T40 ?h2T40 ?c1T40 ?c2T40 ?c3T40; (case F2T40 => k_asm); (case X2T40 => k_asm); (case T2T40 => k_asm); (case e2T40 => k_is); (case h2T40 => exact ⟨rfl, rfl⟩); (case c1T40 => exact rfl); (case c2T40 => exact rfl); (case c3T40 => decide))); (case heT40 => exact rfl); (case hplT40 => exact rfl); k_whole))))) | ((with_reducible show wpAny _ _ (call (Value.builtin _) _) _ _ _); (with_reducible ((k_here; (with_reducible show wpAny _ _ (call (Value.builtin "len") [Value.bytes (zeros _) _]) _ _ _); k_dflt (refine' len_big ?aT39 ?_; (case aT39 => decide); k_whole); (try dsimp only))))) | ((with_reducible show wpAny _ _ (call (Value.ref _) _) _ _ _); (with_reducible ((k_here; (with_reducible show wpAny _ _ (call (Value.ref 93) _) _ _ _); k_dflt ( refine' meet_use (has254 _ _ _) ?k1T38 ?k2T38 ?k3T38 ?k4T38 ?k5T38 ?kKT38 ?kdT38 ?kuT38 ?_; (case k1T38 => k_asm); (case k2T38 => k_asm); (case k3T38 => k_asm); (case k4T38 => k_asm); (case k5T38 => k_asm); (case kKT38 => first | exact rfl | assumption); (case kdT38 => ((try simp only [depth_under_make, depth_under_kw, depth_in1, depth_deeper, depth_caller]); (try dsimp only [ktrTop]); omega)); (case kuT38 => ((try simp only [units_in1, units_deeper, Around.mark_units, units_caller]); (try dsimp only [ktrTop]); omega))); intro v9zq n9zq h9zq tk9zq F9zq N9zq o9zq; (k_dflt (obtain ⟨e9zq, e8zq⟩ := o9zq; subst e9zq; subst e8zq)); (try dsimp only); (try k_sweep); (try k_fold))))) | walk1)) | (leave1; walk_say "STEP leave1"; try dsimp only) | fail "no step"))
  have k1 := k1zq
  have k2 := k2zq
  have k3 := k3zq
  with_reducible rename Fr g' L' _ _ => zF
  with_reducible rename News g' L' _ _ => zNw
  exact leave_seg (H := s.heap) B' zF (keeps_all hg zF zN zNw (by lcg_sub)) hL k1 k2 k3 (fun h9 th => hE _ _ _ th) rfl
end Mine
end
section
open PySem PySem.W PyProof.Rows PySem.Calls
set_option Elab.async false
set_option maxRecDepth 100000
set_option maxHeartbeats 0
namespace Mine
/-- the exception within a comprehension's variables, or behind them: its flight is whatever it is -/
def Aloft (H : Heap) (l : List Env) (e : Addr) (h' : Heap) : Prop :=
  H.UpToSlots h' ∧ ∃ a0 fl, (hideAll H (l.filterMap (·.frame))).StaysIn h' ∧ (hideAll H (l.filterMap (·.frame))).get? e = none ∧ h'.FunFrames (hideAll H (l.filterMap (·.frame))) l ∧ h'.TracedAtW (hideAll H (l.filterMap (·.frame))) e (.ref 44) a0 fl
theorem hide_less {H Hc : Heap} {fr : List Addr} (k : ∀ b o, H.get? b = some o → Hc.get? b = some o) : (hideAll H fr).StaysIn (hideAll Hc fr) := fun b o q => by
  refine hideAll_get _ (k _ _ (of_hideAll _ q)) fun hm => ?_
  rw [hideAll_none _ hm] at q
  cases q
theorem Thrown.less {H Hc h' : Heap} {l : List Env} {e : Addr} (k : ∀ b o, H.get? b = some o → Hc.get? b = some o) (x : Thrown Hc l e h') : Thrown H l e h' := by
  obtain ⟨u, a0, f⟩ := x
  exact ⟨(Heap.UpToSlots.of_keeps k).trans u, a0, flyingW_base (hide_less k) f⟩
theorem tracedAt_base {base B h : Heap} {e : Addr} {cls a0 fl : Value} (k : base.StaysIn B) (x : h.TracedAtW B e cls a0 fl) : h.TracedAtW base e cls a0 fl := by
  obtain ⟨oe, vs, T, oT, ts, a1, a2, a3, a4, a5, a6⟩ := x
  exact ⟨oe, vs, T, oT, ts, a1, a2, a3, a4, fresh_of_stays k a5, a6⟩
theorem Aloft.less {H Hc h' : Heap} {l : List Env} {e : Addr} (k : ∀ b o, H.get? b = some o → Hc.get? b = some o) (x : Aloft Hc l e h') : Aloft H l e h' := by
  obtain ⟨u, a0, fl, f1, f2, f3, f4⟩ := x
  exact ⟨(Heap.UpToSlots.of_keeps k).trans u, a0, fl, fun b o q => f1 b o (hide_less k b o q), fresh_of_stays (hide_less k) f2, funFrames_base (hide_less k) f3, tracedAt_base (hide_less k) f4⟩
section
variable {M : Model} {A : Around} {E : Value → Shared → Prop} {s : Shared}
theorem noteFrame_same {e : Value} {env env' : Env} (h : env'.frame = env.frame) : noteFrame e env' = noteFrame e env := by
  unfold noteFrame PySem.frameOf
  rw [h]
theorem setFlight_any {base : Heap} {l : List Env} {e : Addr} {cls a0 fl : Value} {fr : Option Addr} {Q : Unit → Shared → Prop}
    (hkb : base.StaysIn s.heap) (hl : s.heap.FunFrames base l) (ht : s.heap.TracedAtW base e cls a0 fl)
    (h : ∀ h', base.StaysIn h' → h'.FunFrames base l → h'.TracedAtW base e cls a0 (fr.elim Value.none fun f => rawInt f) → (∀ b o, s.heap.get? b = some o → (∀ vs, o.data ≠ .fields vs) → h'.get? b = some o) → Q () { s with heap := h' }) :
    wpAny M A (setFlight (.ref e) fr) Q E s := by
  obtain ⟨oe, vs, T, oT, ts, he, hcls, hd, h1, hnT, hTe, hT, hdT, h3⟩ := ht
  have hsz3 : 3 < ts.size := (Array.getElem?_eq_some_iff.mp h3).1
  have other : ∀ b, b ≠ T → (s.heap.update T (Obj.mapFields (·.setIfInBounds 3 (fr.elim Value.none fun f => rawInt f)))).get? b = s.heap.get? b :=
    fun b hb => Heap.get?_update_other _ _ (Ne.symm hb)
  have noRecord : ∀ b o, s.heap.get? b = some o → (∀ vs, o.data ≠ .fields vs) → b ≠ T := fun b o hb hnf q => by
    rw [q, hT] at hb; injection hb with hb; subst hb; exact hnf ts hdT
  unfold setFlight
  refine wpAny_bind (wpAny_field he hd h1 ?_)
  rw [if_pos (show (Value.ref T != Value.none) = true from by simp)]
  refine wpAny_setField hT hdT hsz3 (h _ (fun b o hbo => (other b fun q => by rw [q, hnT] at hbo; cases hbo).trans (hkb b o hbo))
    (hl.of_keeps fun b o hb hnf => ⟨o, (other b (noRecord b o hb hnf)).trans hb, rfl⟩) ?_ fun b o hb hnf => (other b (noRecord b o hb hnf)).trans hb)
  exact ⟨oe, vs, T, _, _, (other e (Ne.symm hTe)).trans he, hcls, hd, h1, hnT, hTe, Heap.get?_update_self _ hT (Obj.isFreed_of_fields (Obj.data_mapFields hdT _)), Obj.data_mapFields hdT _, by simp [hsz3]⟩
theorem passOn_any {α : Type} {what : String} {base : Heap} {l : List Env} {e : Addr} {cls a0 fl : Value} {env : Env} {Q : α → Shared → Prop}
    (hkb : base.StaysIn s.heap) (hl : s.heap.FunFrames base l) (ht : s.heap.TracedAtW base e cls a0 fl)
    (h : ∀ h' fl', base.StaysIn h' → h'.FunFrames base l → h'.TracedAtW base e cls a0 fl' → (∀ b o, s.heap.get? b = some o → (∀ vs, o.data ≠ .fields vs) → h'.get? b = some o) → E (.ref e) { s with heap := h' }) :
    wpAny M A (PySem.passOn what (.ref e) env : Sem α) Q E s := by
  have ht' := ht
  obtain ⟨oe, vs, T, oT, ts, he, hcls, hd, h1, hnT, hTe, hT, hdT, h3⟩ := ht'
  unfold PySem.passOn
  refine wpAny_bind (wpAny_field he hd h1 ?_)
  rw [if_neg (show ¬ ((Value.ref T == Value.none) = true) from by simp)]
  refine wpAny_bind (setFlight_any hkb hl ht fun h' k1 k2 k3 k4 => wpAny_throw (h h' _ k1 k2 k3 k4))
/-- what a comprehension's end does with an exception -/
def CompFall (M : Model) (A : Around) (E : Value → Shared → Prop) (C : Addr) (e : Value) (s' : Shared) : Prop :=
  (∃ m, s'.heap.Ns C m) ∧ ∀ h', Heap.SameBut C s'.heap h' → ∀ cenv' : Env, wpAny M A (PySem.passOn "comprehension.variables-let-go" e cenv' : Sem Value) (fun _ _ => False) E { s' with heap := h' }
theorem comp_fall {H Hc : Heap} {env cenv : Env} {outer : List Env} {L C e : Addr} {m₂ : Str → Option Value} (hfr : A.frames = some (env :: outer)) (hf : env.frame = some L) (hcf : cenv.frame = env.frame)
    (hin : ∀ x ∈ (env :: outer), ∀ a, x.frame = some a → ∃ o, H.get? a = some o)
    (kH : ∀ b o, H.get? b = some o → Hc.get? b = some o) (hC : H.get? C = none) (hCn : Hc.Ns C m₂) (th : Thrown Hc (env :: outer) e s.heap)
    (hE : ∀ h', Aloft H (env :: outer) e h' → E (.ref e) { s with heap := h' }) :
    notedBy M A cenv (CompFall M A E C) (.ref e) s := by
  obtain ⟨u, a0, f1, f2, f3, f4⟩ := th
  show wpAny M A (noteFrame (.ref e) cenv) _ _ s
  rw [noteFrame_same hcf]
  refine wpAny_noteFrame_onW hfr f3 hf f4 f1 f2 fun h₁ hN => ?_
  obtain ⟨k1, k2, k3, k4⟩ := hN
  have u₁ : Hc.UpToSlots h₁ := u.trans k4
  have hCn₁ := u₁.ns hCn
  refine ⟨⟨_, hCn₁⟩, fun h₂ hs cenv' => ?_⟩
  have k := hide_less (fr := (env :: outer).filterMap (·.frame)) kH
  have f1' : (hideAll H ((env :: outer).filterMap (·.frame))).StaysIn h₂ := fun b o q => hs.extBut b o (fun z => by have := of_hideAll _ q; rw [z, hC] at this; cases this) (k1 _ _ (k b o q))
  have noC : ∀ b o, h₁.get? b = some o → (∃ vs, o.data = .fields vs) → b ≠ C := fun b o q ⟨vs, z⟩ y => by
    obtain ⟨oC, es, ep, hC', hd, _⟩ := hCn₁
    rw [y, hC'] at q
    cases q
    rw [hd] at z
    cases z
  have fr₂ : h₂.FunFrames (hideAll H ((env :: outer).filterMap (·.frame))) (env :: outer) := by
    have aux : ∀ l : List Env, (∀ x ∈ l, ∀ a, x.frame = some a → ∃ o, H.get? a = some o) → h₁.FunFrames (hideAll H ((env :: outer).filterMap (·.frame))) l → h₂.FunFrames (hideAll H ((env :: outer).filterMap (·.frame))) l := by
      intro l
      induction l with
      | nil => intro _ _; trivial
      | cons x r ih =>
        rintro hi ⟨hk, ⟨L', o, hf', hn, ho, hd⟩, hr⟩
        obtain ⟨o', ho'⟩ := hi x (.head _) L' hf'
        exact ⟨hk, ⟨L', o, hf', hn, hs.extBut _ _ (fun z => by rw [z, hC] at ho'; cases ho') ho, hd⟩, ih (fun y hy => hi y (.tail _ hy)) hr⟩
    exact aux _ hin (funFrames_base k k2)
  have tr₂ : h₂.TracedAtW (hideAll H ((env :: outer).filterMap (·.frame))) e (.ref 44) a0 (rawInt L) := by
    obtain ⟨oe, vs, T, oT, ts, he, hcls, hd, h1, hnT, hTe, hT, hdT, h3⟩ := k3
    exact ⟨oe, vs, T, oT, ts, hs.extBut _ _ (noC _ _ he ⟨_, hd⟩) he, hcls, hd, h1, fresh_of_stays k hnT, hTe, hs.extBut _ _ (noC _ _ hT ⟨_, hdT⟩) hT, hdT, h3⟩
  have u₂ : H.UpToSlots h₂ := fun b o q nf => by
    obtain ⟨sl, z⟩ := u₁ b o (kH _ _ q) nf
    exact ⟨sl, hs.extBut _ _ (fun y => by rw [y, hC] at q; cases q) z⟩
  refine passOn_any f1' fr₂ tr₂ fun h₃ fl' g1 g2 g3 g4 => hE h₃ ⟨?_, a0, fl', g1, fresh_of_stays k f2, g2, g3⟩
  exact u₂.trans fun b o q nf => ⟨o.slots, g4 b o q nf⟩
/-- leaving a frame with an exception whose flight is whatever it is -/
theorem leave_aloft {H : Heap} {outer : List Env} {L a e : Addr} {name : Str} {scope : Scope} {cd : Value} {Q : Unit → Shared → Prop} (hfr : A.frames = some (envOf name scope L a cd :: outer)) (hL : H.get? L = none)
    (x : Aloft H (envOf name scope L a cd :: outer) e s.heap) (hQ : ∀ h', Thrown H outer e h' → Q () { s with heap := h' }) :
    wpAny M A (leaving (envOf name scope L a cd) (.ref e)) Q E s := by
  obtain ⟨u, a0, fl, f1, f2, f3, f4⟩ := x
  have st : (hideAll H (outer.filterMap (·.frame))).StaysIn (hideAll H ((envOf name scope L a cd :: outer).filterMap (·.frame))) := fun b o q => by
    refine hideAll_get _ (of_hideAll _ q) fun hm => ?_
    obtain ⟨env, he, hf⟩ := List.mem_filterMap.mp hm
    rcases List.mem_cons.mp he with rfl | he
    · obtain rfl : L = b := Option.some.inj hf
      have := of_hideAll _ q
      rw [hL] at this
      cases this
    · rw [hideAll_none _ (List.mem_filterMap.mpr ⟨env, he, hf⟩)] at q
      cases q
  obtain ⟨oe, vs, T, oT, ts, he, ⟨hcls, h0⟩, hd, h1, hnT, hTe, hT, hdT, h3⟩ := f4
  unfold leaving
  by_cases hfl : (fl == rawInt L) = true
  · refine wpAny_bind ?_
    unfold noteFrame
    show wpAny _ _ (field (.ref e) 1 >>= _) _ _ _
    refine wpAny_bind (wpAny_field he hd h1 ?_)
    rw [if_pos (show (Value.ref T != Value.none) = true from by simp)]
    refine wpAny_bind (wpAny_field hT hdT h3 ?_)
    rw [if_pos hfl]
    refine wpAny_pure ?_
    refine wpAny_setFlight_noneW f1 f3 ⟨oe, vs, T, oT, ts, he, ⟨hcls, h0⟩, hd, h1, hnT, hTe, hT, hdT, h3⟩ fun h' k1 k2 k3 k4 => hQ h' ?_
    obtain ⟨_, _, k2⟩ := k2
    exact ⟨u.trans fun b o q nf => ⟨o.slots, k4 b o q nf⟩, a0, flyingW_base st ⟨k1, f2, k2, k3⟩⟩
  · unfold noteFrame
    show wpAny _ _ ((field (.ref e) 1 >>= _) >>= _) _ _ _
    refine wpAny_bind (wpAny_bind (wpAny_field he hd h1 ?_))
    rw [if_pos (show (Value.ref T != Value.none) = true from by simp)]
    refine wpAny_bind (wpAny_field hT hdT h3 ?_)
    rw [if_neg hfl]
    refine wpAny_bind (wpAny_setField hT hdT (Array.getElem?_eq_some_iff.mp h3).1 ?_)
    have other : ∀ b, b ≠ T → (s.heap.update T (Obj.mapFields (·.setIfInBounds 3 Value.none))).get? b = s.heap.get? b := fun b hb => Heap.get?_update_other _ _ (Ne.symm hb)
    have noRecord : ∀ b o, s.heap.get? b = some o → (∀ vs, o.data ≠ .fields vs) → b ≠ T := fun b o hb hnf q => by
      rw [q, hT] at hb; injection hb with hb; subst hb; exact hnf ts hdT
    refine wpAny_newEntryW hfr (f3.of_keeps fun b o hb hnf => ⟨o, (other b (noRecord b o hb hnf)).trans hb, rfl⟩) rfl ((other e (Ne.symm hTe)).trans he)
      (fun b o hbo => (other b fun q => by rw [q, hnT] at hbo; cases hbo).trans (f1 b o hbo)) f2 hd (Array.getElem?_eq_some_iff.mp h1).1 h0
      fun h' ⟨x1, ⟨_, _, x2⟩, x3, x4⟩ => hQ h' ⟨u.trans fun b o hb hnf => x4 b o ((other b (noRecord b o hb hnf)).trans hb) hnf, a0, flyingW_base st ⟨x1, f2, x2, by rw [hcls] at x3; exact x3⟩⟩
end
end Mine
end
section
open PySem PySem.Spec PySem.Calls PyProof.Rows
set_option Elab.async false
set_option maxRecDepth 100000
set_option maxHeartbeats 0
namespace Mine
open PyProof.Rows.LCg
section
variable {prog : Program} {w : World} {A : Around} {E : Value → Shared → Prop} {s : Shared} {h₀ : Heap} {L : Addr} {m : Str → Option Value} {env : Env}
/-- the element of a comprehension that raises at its first turn -/
def CompThrow (prog : Program) (w : World) (A : Around) (E : Value → Shared → Prop) (h₀ : Heap) (L : Addr) (m : Str → Option Value) (env : Env) (elt : PySem.Expr) (x : Str) (scope : Scope) (cl : List (Str × Addr)) (s : Shared) (v : Value) (news : Led) : Prop :=
  ∀ I oI C oC D m₂ h tk, NsObj oC m₂ → m₂ x = some v → Fr h₀ L h m → News h₀ L h ((I, oI) :: (C, oC) :: (D, lst []) :: news) → (∀ b o, s.heap.get? b = some o → h.get? b = some o) → s.heap.get? C = none →
    wpAny (model prog w) A (eval elt (compEnvC scope cl C env)) (fun _ _ => False) (notedBy (model prog w) A (compEnvC scope cl C env) (CompFall (model prog w) A E C)) { s with heap := h, toks := tk }
theorem comp_throw {elt iter : PySem.Expr} {x : Str} {px : Pos} {scope : Scope} {cl : List (Str × Addr)} {pos : Pos} {Q : Value → Shared → Prop} {ax : Addr} {v : Value} {k : Nat} {news : Led} (F : Fr h₀ L s.heap m) (N : News h₀ L s.heap news) (hm : (ax, ({ cls := .type "list", data := .seq #[v] k } : Obj)) ∈ news)
    (hh : A.handled = none) (hclos : closureFor scope env = pure cl) (hcell : ∀ y ∈ scope.names, y.2 ≠ .cell) (hkind : scope.kind = .function)
    (hnames : ∀ y ∈ scope.names, y.2 = .local → scope.names.lookup y.1 = some .local) (hx : scope.names.lookup x = some .local)
    (hi : wpAny (model prog w) A (eval iter env) (fun xv s₁ => xv = .ref ax ∧ s₁ = s) E s)
    (h : CompThrow prog w A E h₀ L m env elt x scope cl s v news)
    (hs : ∀ x, foldedSetIterable iter env x = pure x := by intro _; rfl) :
    wpAny (model prog w) A (eval (.ListComp elt [⟨.Name x px, iter, [], 0⟩] scope pos) env) Q E s := by
  rw [eval_ListComp]
  refine wpAny_comprehension_free (use := none) rfl hs hclos hkind hnames (wpAny_mono hi (fun xv s₁ h₁ => ?_) fun _ _ e => e)
  obtain ⟨rfl, rfl⟩ := h₁
  have hl : s₁.heap.IsList ax #[v] := ⟨_, (N _ hm).1, rfl, _, rfl⟩
  have hlt : ax < s₁.heap.objs.size := by obtain ⟨_, e, _⟩ := hl; exact Heap.lt_size e
  refine wpAny_pyIter_list hl ?_
  have up : ∀ b o, s₁.heap.get? b = some o → (s₁.heap.push { cls := .type "list_iterator", data := .fields #[.ref ax, .int 0 0] }).get? b = some o := fun b o e => Heap.get?_push_of_some _ e
  have hsz₁ : (s₁.heap.push { cls := .type "list_iterator", data := .fields #[.ref ax, .int 0 0] }).objs.size = s₁.heap.objs.size + 1 := Heap.size_push _ _
  have hitI : (s₁.heap.push { cls := .type "list_iterator", data := .fields #[.ref ax, .int 0 0] }).IsListIter s₁.heap.objs.size ax 0 := ⟨_, Heap.get?_push_size _ rfl, rfl, rfl⟩
  have hlI := hl.push { cls := .type "list_iterator", data := .fields #[.ref ax, .int 0 0] }
  have W := Walks.list (prog := prog) (w := w) hh s₁.heap.objs.size ax (Nat.ne_of_lt hlt) #[v]
  generalize hH1 : s₁.heap.push { cls := .type "list_iterator", data := .fields #[.ref ax, .int 0 0] } = H1 at up hsz₁ hitI hlI ⊢
  refine wpAny_newObj_type (wpAny_newFunctionEnv hcell (by intro y hy; simp at hy) (fun h₁ hns₁ hsb₁ => ?_) hkind)
  dsimp only at hns₁ hsb₁ ⊢
  generalize hH2 : H1.push { cls := .type "list", dict := none, data := .seq ([] : List Value).toArray } = H2 at hns₁ hsb₁ ⊢
  have hC : H2.objs.size = H1.objs.size + 1 := by rw [← hH2, Heap.size_push]
  have hDC : H1.objs.size ≠ H2.objs.size := by rw [hC]; exact Nat.ne_of_lt (Nat.lt_succ_self _)
  have hIC : s₁.heap.objs.size ≠ H2.objs.size := by rw [hC, hsz₁]; omega
  have hID : s₁.heap.objs.size ≠ H1.objs.size := by rw [hsz₁]; omega
  have old1 : ∀ b o, H1.get? b = some o → h₁.get? b = some o := fun b o e => hsb₁.extBut b o (by have hb : @LT.lt Nat _ b H1.objs.size := Heap.lt_size e; exact Nat.ne_of_lt (by omega)) (Heap.get?_push_of_some _ (hH2 ▸ Heap.get?_push_of_some _ e))
  have hacc : h₁.get? H1.objs.size = some (lst []) := hsb₁.extBut _ _ hDC (Heap.get?_push_of_some _ (hH2 ▸ Heap.get?_push_size _ rfl))
  have fresh : ∀ a, s₁.heap.objs.size ≤ a → s₁.heap.get? a = none := fun a ha => Heap.get?_none_of_le ha
  have fresh₀ : ∀ a, s₁.heap.objs.size ≤ a → h₀.get? a = none := fun a ha => by
    cases e : h₀.get? a with
    | none => rfl
    | some o' => have := F.keep a o' e; rw [fresh a ha] at this; cases this
  have hLlt : @LT.lt Nat _ L s₁.heap.objs.size := F.ns.lt
  have st₁ : h₁.IsListIter s₁.heap.objs.size ax 0 ∧ h₁.IsList ax #[v] := W.frame 0 _ _ ⟨hitI, hlI⟩ fun b _ o e => old1 b o e
  have loop : ∀ s₃ : Shared, s₃ = { s₁ with heap := h₁, toks := s₁.toks + ([] : List (Str × Value)).length } →
      codeAny (model prog w) A (.compLoop (.ListComp elt [⟨.Name x px, iter, [], 0⟩] scope pos) 0 (.ref s₁.heap.objs.size) (.ref H1.objs.size) (compEnvC scope cl H2.objs.size env))
        (compPost (model prog w) A E none Q (.ref H1.objs.size) H2.objs.size) s₃ := by
    rintro s₃ rfl
    refine codeAny_compLoop_tests (fun _ s' => s' = { s₁ with heap := h₁, toks := s₁.toks + ([] : List (Str × Value)).length }) ?_ 1 rfl
    rintro _ s' rfl
    refine W.item 0 _ _ _ (Nat.zero_lt_one) st₁ fun v' h₂ tk₂ hPv hst₂ hk₂ => ?_
    obtain rfl : v = v' := Option.some.inj hPv
    refine wpAny_assign_Name (wpAny_storeName_local (lookup_relabel_local hx) (hns₁.at' fun o e => hk₂ _ o (by simpa using Ne.symm hIC) e) (fun h₃ hn₃ hs₃ => ?_) (by simp [compEnvC, relabel, hkind]))
    refine wpAny_tests_nil ?_
    simp only [if_true]
    have keep : ∀ b o, s₁.heap.get? b = some o → h₃.get? b = some o := fun b o e => by
      have hb : @LT.lt Nat _ b s₁.heap.objs.size := Heap.lt_size e
      have hb1 : b ≠ s₁.heap.objs.size := Nat.ne_of_lt hb
      refine hs₃.extBut b o (Nat.ne_of_lt (show @LT.lt Nat _ b H2.objs.size by omega)) (hk₂ b o (by simpa using hb1) (old1 b o (up b o e)))
    obtain ⟨oI, heI⟩ : ∃ oI, h₃.get? s₁.heap.objs.size = some oI := by
      obtain ⟨o, e, _⟩ := hst₂.1
      exact ⟨o, hs₃.extBut _ _ hIC e⟩
    obtain ⟨oC, heC, hoC⟩ := ns_obj hn₃
    have heD : h₃.get? H1.objs.size = some (lst []) := hs₃.extBut _ _ hDC (hk₂ _ _ (by simpa using hID.symm) hacc)
    refine wpAny_mono (h s₁.heap.objs.size oI H2.objs.size oC H1.objs.size _ h₃ _ hoC (by simp) (F.keeps keep) (fun p hp => ?_) keep (fresh _ (by omega))) (fun _ _ f => f.elim) fun e s' z => ?_
    · rcases List.mem_cons.mp hp with rfl | hp
      · exact ⟨heI, Nat.ne_of_gt (show @LT.lt Nat _ L s₁.heap.objs.size by omega), fresh₀ _ (Nat.le_refl _)⟩
      · rcases List.mem_cons.mp hp with rfl | hp
        · exact ⟨heC, Nat.ne_of_gt (show @LT.lt Nat _ L H2.objs.size by omega), fresh₀ _ (by show _ ≤ H2.objs.size; omega)⟩
        · rcases List.mem_cons.mp hp with rfl | hp
          · exact ⟨heD, Nat.ne_of_gt (show @LT.lt Nat _ L H1.objs.size by omega), fresh₀ _ (by show _ ≤ H1.objs.size; omega)⟩
          · exact ⟨keep _ _ (N p hp).1, (N p hp).2⟩
    · exact wpAny_mono z (fun _ s'' y => ⟨y.1.choose, y.1.choose_spec, fun h' hs' cenv _ => y.2 h' hs' cenv⟩) fun _ s'' y => ⟨y.1.choose, y.1.choose_spec, fun h' hs' cenv _ => y.2 h' hs' cenv⟩
  exact codeAny_compStart_list (loop _ rfl) (W.self 0 _ _ _ st₁ (loop _ rfl))
end
end Mine
end
section
open PySem PySem.W PyProof.Rows PySem.Calls PySem.Spec PyProof.V
set_option Elab.async false
set_option maxRecDepth 100000
set_option maxHeartbeats 0
namespace Mine




theorem wpieces_throws {w : World} {dp un : Nat} {gd : Option (List Code)} {cn : Str} {cs : Scope} {aa : Addr} {ccd : Value} {cl : List (Str × Addr)} {outer : List Env} {A₀ : Around} {base h₀ hb0 : Heap} {mg mb : Str → Option Value} {L : Addr} {m : Str → Option Value} {s : Shared} {Q E : Value → Shared → Prop}
    {q x d : Addr} {nq : Nat} {t1 t2 t3 tc tp td : Tok} (N : News h₀ L s.heap [(q, listOf #[.ref x] nq), (x, instObj 111 d), (d, pieceDict w 254 (zeros (Int.toNat 65534)) #[] t1 t2 t3 tc tp td)])
    (B : Below A₀ base outer h₀) (F : Fr h₀ L s.heap m) (X : (hd.heap_39 w.params).In h₀) (T : Top hd.view_39 (looseW hd.view_39 [Str.ofString "Piece"]) (ExcName.means hb0) mg mb h₀) (hk : cs.kind = .function)
    (hdp : dp + 8 < 900) (hu : un + 80 < 900)
    (hE : ∀ e h' tk', Thrown s.heap (envX cn cs L aa ccd cl :: outer) e h' → E (.ref e) { s with heap := h', toks := tk' }) :
    wpAny (model PySem.Challenge.rw_pf0228_01.row.prog w) (ktrTop dp un gd cn cs L aa ccd cl outer) (call (.ref 127) [.ref q]) Q E s := by
  revert X
  k_fill
  w_top off
  intro X
  refine wpAny_call ?_
  k_dflt (refine' code_raw (own := [(q, listOf #[.ref x] nq), (x, instObj 111 d), (d, pieceDict w 254 (zeros (Int.toNat 65534)) #[] t1 t2 t3 tc tp td)]) ?k1 ?k2 ?k3 ?k4 ?k5 ?kA ?kF ?kK ?k6 ?k7 ?k8 ?k9 ?kB ?_ ?c2 ?c3 ?c4 ?c5; (case kA => exact rfl); (case kF => exact rfl); (case kK => assumption); (case k1 => k_asm); (case k2 => k_asm); (case k3 => k_asm); (case k4 => exact N); (case k5 => k_asm); (case k6 => k_is); (case k7 => k_is); (case k8 => ktr_room); (case k9 => exact BindsTo.of_eq rfl); (case c5 => decide); (case kB => exact locs rfl); (case c2 => exact rfl); (case c3 => exact rfl); (case c4 => exact rfl); k_whole)
  intro g' L' h' FG' F' N' B' X' T' l1 hg hL
  k_lt l1
  have zN := N
  have zF := F'
  have zN' := N'
  clear N
  (try dsimp only)
  (try k_fold)
  (repeat' (first | (k_unfold; (try dsimp only)) | (k_end; wrow_close) | ((with_reducible show wpAny _ _ (call (Value.ref _) _) _ _ _); (with_reducible ((k_here; (with_reducible show wpAny _ _ (call (Value.ref 122) _) _ _ _); k_dflt (refine' wpiece_throws ?NT45 ?BT45 ?FT45 ?XT45 ?TT45 ?hkT45 ?kdT45 ?kuT45 ?_; (case BT45 => k_asm); (case FT45 => k_asm); (case XT45 => k_asm); (case TT45 => k_asm); (case hkT45 => exact rfl); (case NT45 => exact fun p hp => (by assumption : News _ _ _ (_ :: _ :: _ :: _)) p (List.mem_cons_of_mem _ (List.mem_cons_of_mem _ (List.mem_cons_of_mem _ (List.mem_cons_of_mem _ hp))))); (case kdT45 => ((try simp only [depth_under_make, depth_under_kw, depth_in1, depth_deeper, depth_caller]); (try dsimp only [ktrTop]); omega)); (case kuT45 => ((try simp only [units_in1, units_deeper, Around.mark_units, units_caller]); (try dsimp only [ktrTop]); omega))); intro epzq h9pzq tk9pzq thpzq; (try dsimp only); (try k_fold))))) | ((with_reducible show CompThrow ..); (with_reducible (((unfold CompThrow); intro Ipzq oIpzq Cpzq oCpzq Dpzq mpzq hpzq tkpzq hCpzq hxpzq Fpzq Npzq kpzq npzq; (try dsimp only); (try k_fold))))) | ((with_reducible show wpAny _ _ (eval (PySem.Expr.ListComp ..) _) _ _ _); (with_reducible ((k_here; k_dflt (refine' comp_throw ?FT43 ?NT43 ?hmT43 ?hhT43 ?c1T43 ?c2T43 ?c3T43 ?c4T43 ?c5T43 ?hiT43 ?_ ?hsT43; (case FT43 => k_asm); (case NT43 => k_asm); (case hmT43 => exact List.Mem.head _); (case hhT43 => exact rfl); (case c1T43 => with_unfolding_all rfl); (case c2T43 => decide); (case c3T43 => exact rfl); (case c4T43 => decide); (case c5T43 => exact rfl); (case hiT43 => (refine' ld ?F2T43 ?hvT43 ⟨rfl, rfl⟩ ?d1T43 ?d2T43 ?d3T43; (case F2T43 => k_asm); (case hvT43 => exact rfl); (case d1T43 => exact rfl); (case d2T43 => exact rfl); (case d3T43 => decide))); (case hsT43 => (intro _; exact rfl)); k_whole))))) | ((with_reducible show wpAny _ _ (getMethod (Value.bytes ..) _ _) _ _ _); (with_reducible ((k_here; (with_reducible refine join_method ?_))))) | walk1 | (dsimp only; (first | ((with_reducible show wpAny _ _ (call (Value.ref _) _) _ _ _); (with_reducible ((k_here; (with_reducible show wpAny _ _ (call (Value.ref 122) _) _ _ _); k_dflt (refine' wpiece_throws ?NT45 ?BT45 ?FT45 ?XT45 ?TT45 ?hkT45 ?kdT45 ?kuT45 ?_; (case BT45 => k_asm); (case FT45 => k_asm); (case XT45 => k_asm); (case TT45 => k_asm); (case hkT45 => exact rfl); (case NT45 => exact fun p hp => (by assumption : News _ _ _ (_ :: _ :: _ :: _)) p (List.mem_cons_of_mem _ (List.mem_cons_of_mem _ (List.mem_cons_of_mem _ (List.mem_cons_of_mem _ hp))))); (case kdT45 => ((try simp only [depth_under_make, depth_under_kw, depth_in1, depth_deeper, depth_caller]); (try dsimp only [ktrTop]); omega)); (case kuT45 => ((try simp only [units_in1, units_deeper, Around.mark_units, units_caller]); (try dsimp only [ktrTop]); omega))); intro epzq h9pzq tk9pzq thpzq; (try dsimp only); (try k_fold))))) | ((with_reducible show CompThrow ..); (with_reducible (((unfold CompThrow); intro Ipzq oIpzq Cpzq oCpzq Dpzq mpzq hpzq tkpzq hCpzq hxpzq Fpzq Npzq kpzq npzq; (try dsimp only); (try k_fold))))) | ((with_reducible show wpAny _ _ (eval (PySem.Expr.ListComp ..) _) _ _ _); (with_reducible ((k_here; k_dflt (refine' comp_throw ?FT43 ?NT43 ?hmT43 ?hhT43 ?c1T43 ?c2T43 ?c3T43 ?c4T43 ?c5T43 ?hiT43 ?_ ?hsT43; (case FT43 => k_asm); (case NT43 => k_asm); (case hmT43 => exact List.Mem.head _); (case hhT43 => exact rfl); (case c1T43 => with_unfolding_all rfl); (case c2T43 => decide); (case c3T43 => exact rfl); (case c4T43 => decide); (case c5T43 => exact rfl); (case hiT43 => (refine' ld ?F2T43 ?hvT43 ⟨rfl, rfl⟩ ?d1T43 ?d2T43 ?d3T43; (case F2T43 => k_asm); (case hvT43 => exact rfl); (case d1T43 => exact rfl); (case d2T43 => exact rfl); (case d3T43 => decide))); (case hsT43 => (intro _; exact rfl)); k_whole))))) | ((with_reducible show wpAny _ _ (getMethod (Value.bytes ..) _ _) _ _ _); (with_reducible ((k_here; (with_reducible refine join_method ?_))))) | walk1)) | (leave1; walk_say "STEP leave1"; try dsimp only) | fail "no step"))
  have zC := hCpzq
  have zN2 := Npzq
  have zk := kpzq
  have zn := npzq
  have th := thpzq
  refine comp_fall (H := h') (L := L') rfl rfl rfl (fun y hy b hb => ?_) zk zn (PyProof.Rows.LCg.NsObj.ns zC (zN2 _ (.tail _ (.head _))).1) th fun h10 al => ?_
  · obtain ⟨_, o, ho, _⟩ := Heap.FunFrames.mem (B'.push zF rfl).frames (List.mem_filterMap.mpr ⟨y, hy, hb⟩)
    exact ⟨o, ho⟩
  · exact leave_aloft (H := s.heap) rfl hL (al.less (keeps_all hg zF zN zN' (fun _ hh => hh))) fun h11 th2 => hE _ _ _ th2
end Mine
end
section
open PySem PySem.W PyProof.Rows PySem.Calls PySem.Spec PyProof.V
set_option Elab.async false
set_option maxRecDepth 100000
set_option maxHeartbeats 0
namespace Mine
theorem wpieces_throws_use {w : World} {dp un : Nat} {gd : Option (List Code)} {cn : Str} {cs : Scope} {aa : Addr} {ccd : Value} {cl : List (Str × Addr)} {outer : List Env} {A₀ : Around} {base h₀ hb0 : Heap} {mg mb : Str → Option Value} {L : Addr} {m : Str → Option Value} {s : Shared} {Q E : Value → Shared → Prop}
    {q x d : Addr} {nq : Nat} {t1 t2 t3 tc tp td : Tok} {news : Led} (N : News h₀ L s.heap news) (hs : ∀ p ∈ ([(q, listOf #[.ref x] nq), (x, instObj 111 d), (d, pieceDict w 254 (zeros (Int.toNat 65534)) #[] t1 t2 t3 tc tp td)] : Led), p ∈ news)
    (B : Below A₀ base outer h₀) (F : Fr h₀ L s.heap m) (X : (hd.heap_39 w.params).In h₀) (T : Top hd.view_39 (looseW hd.view_39 [Str.ofString "Piece"]) (ExcName.means hb0) mg mb h₀) (hk : cs.kind = .function)
    (hdp : dp + 8 < 900) (hu : un + 80 < 900)
    (hE : ∀ e h' tk', Thrown s.heap (envX cn cs L aa ccd cl :: outer) e h' → E (.ref e) { s with heap := h', toks := tk' }) :
    wpAny (model PySem.Challenge.rw_pf0228_01.row.prog w) (ktrTop dp un gd cn cs L aa ccd cl outer) (call (.ref 127) [.ref q]) Q E s := wpieces_throws (fun p hp => N p (hs p hp)) B F X T hk hdp hu hE
/-- an own exception caught by its own class, in a frame over the law's -/
theorem caught_seg {prog : Program} {w : World} {A : Around} {E : Value → Shared → Prop} {s' : Shared} {h₀ H : Heap} {outer : List Env} {L a e : Addr} {m : Str → Option Value} {name : Str} {scope : Scope} {cd : Value}
    {b₀ : Stmt} {suite : List Stmt} {pos np : Pos} {rest : List ExceptHandler} {Q : Flow → Shared → Prop} {p : Program} {loose : List Str} {mg mb : Str → Option Value} {x : Str}
    (hfr : A.frames = some (envOf name scope L a cd :: outer)) (F : Fr h₀ L H m) (hno : ∀ env ∈ outer, ∀ b, env.frame = some b → h₀.get? b = none) (th : Thrown H (envOf name scope L a cd :: outer) e s'.heap)
    (X : (hd.heap_39 w.params).In h₀) (T : TopRead p loose mg mb h₀) (ex : nsIn (hd.heap_39 w.params) mainGlobals x = some (some (.ref 44)))
    (k : ∀ h', (hideAll H ((envOf name scope L a cd :: outer).filterMap (·.frame))).StaysIn h' → H.UpToSlots h' →
      wpAny (model prog w) (A.mark (some (.ref e))) (execs (b₀ :: suite) (envOf name scope L a cd)) Q E { s' with heap := h' })
    (hk : scope.kind = .function) (hx : (envOf name scope L a cd).kindOf x = some .globalImplicit) (hdb : (x == ("__debug__" : Str)) = false)
    (hE : PassesOwnAt (model prog w) (A.mark (some (.ref e))) A (envOf name scope L a cd) E) :
    wpAny (model prog w) A (noteFrame (.ref e) (envOf name scope L a cd))
      (fun _ s₂ => wpAny (model prog w) A (setFlight (.ref e) none) (fun _ s₃ =>
        wpAny (model prog w) A (handleBy (.ref e) (envOf name scope L a cd) (.ExceptHandler (some (.Name x np)) none (b₀ :: suite) pos :: rest)) Q E s₃) E s₂) E s' := by
  obtain ⟨u, a0, hfl⟩ := th
  have st : h₀.StaysIn (hideAll H ((envOf name scope L a cd :: outer).filterMap (·.frame))) := fun b o q => by
    refine hideAll_get _ (F.keep b o q) fun hm => ?_
    obtain ⟨env, he, hf⟩ := List.mem_filterMap.mp hm
    rcases List.mem_cons.mp he with rfl | he
    · obtain rfl : L = b := Option.some.inj hf
      exact Nat.lt_irrefl _ (Nat.lt_of_lt_of_le (Heap.lt_size q) F.above)
    · rw [hno env he b hf] at q
      cases q
  refine wpAny_looks_onW hfr rfl hfl fun h₄ hheld₄ hsm₄ => ?_
  refine wpAny_landsW hheld₄ fun h₅ hheld hsm₅' => ?_
  have hsm₅ := (u.trans hsm₄).trans hsm₅'
  have F₅ : Fr h₀ L h₅ m := ⟨hsm₅.ns F.ns, fun b o q => hheld.1 _ _ (st b o q), F.above⟩
  obtain ⟨ob, hob, hobc⟩ := hheld.there
  refine wpAny_handleBy_cons (codeAny_handlers_test (name_K F₅ X T ex ?_ hk hx hdb)) (by intro q; cases q)
  obtain ⟨nm, q, bs, sn, sub, ab, col, dd, k0, k1, k2, k3, k5, hC⟩ := (seg_keep (segIs X) F₅).cls
  refine wpAny_excMatches_sub_self hC hob hobc (by rfl) (codeAny_handlers_suite ?_)
  refine lands_againW hheld fun h₆ hfl₆ hsm₆ => ?_
  exact wpAny_passesOwnAt hE (k h₆ hfl₆.1 (hsm₅.trans hsm₆))
def Halt (P : Prop) : Prop := P
theorem halt_in {P : Prop} (h : Halt P) : P := h



theorem refused_yes {w : World} {dp un : Nat} {gd : Option (List Code)} {cn : Str} {cs : Scope} {aa : Addr} {ccd : Value} {cl : List (Str × Addr)} {A₀ : Around} {h₀ hb0 : Heap} {mg mb : Str → Option Value} {L : Addr} {m : Str → Option Value} {s : Shared} {Q E : Value → Shared → Prop}
    {t1 t2 : Tok} {news : Led} (B : Below A₀ h₀ [] h₀) (F : Fr h₀ L s.heap m) (X : (hd.heap_39 w.params).In h₀) (N : News h₀ L s.heap news) (T : Top hd.view_39 (looseW hd.view_39 [Str.ofString "Piece"]) (ExcName.means hb0) mg mb h₀) (hk : cs.kind = .function)
    (hdp : dp + 12 < 900) (hu : un + 120 < 900)
    (hret : ∀ h' tk', Fr h₀ L h' m → News h₀ L h' news → Q (.bool true) { s with heap := h', toks := tk' }) :
    wpAny (model PySem.Challenge.rw_pf0228_01.row.prog w) (ktrTop dp un gd cn cs L aa ccd cl []) (call (.ref 174) [.int 254 t1, .int 65534 t2]) Q E s := by
  revert X
  k_fill
  w_top off
  intro X
  refine wpAny_call ?_
  k_dflt (refine' code_raw (own := []) ?k1 ?k2 ?k3 ?k4 ?k5 ?kA ?kF ?kK ?k6 ?k7 ?k8 ?k9 ?kB ?_ ?c2 ?c3 ?c4 ?c5; (case kA => exact rfl); (case kF => exact rfl); (case kK => assumption); (case k1 => k_asm); (case k2 => k_asm); (case k3 => k_asm); (case k4 => exact News.nil); (case k5 => k_asm); (case k6 => k_is); (case k7 => k_is); (case k8 => ktr_room); (case k9 => exact BindsTo.of_eq rfl); (case c5 => decide); (case kB => exact locs rfl); (case c2 => exact rfl); (case c3 => exact rfl); (case c4 => exact rfl); k_whole)
  intro g' L' h' FG' F' N' B' X' T' l1 hg hL
  clear l1
  have zN := N
  have zF := F
  clear N F
  (try dsimp only)
  (try k_fold)
  (repeat' (first | (k_unfold; (try dsimp only)) | (k_end; wrow_close) | ((with_reducible show wpAny _ _ (noteFrame ..) _ _ _); (with_reducible ((k_here; refine halt_in ?_)))) | ((with_reducible show wpAny _ _ (call (Value.type _) _) _ _ _); (with_reducible ((k_here; (with_reducible show wpAny _ _ (call (Value.type "bytes") [Value.int _ _]) _ _ _); k_dflt (refine' call_bytes_count ?aT47 ?bT47 ?_; (case aT47 => decide); (case bT47 => decide); k_whole); intro t9zq k9zq)))) | ((with_reducible show wpAny _ _ (call (Value.ref _) _) _ _ _); (with_reducible ((k_here; (with_reducible show wpAny _ _ (call (Value.ref 127) _) _ _ _); k_dflt (refine' wpieces_throws_use ?NT46 ?hsT46 ?BT46 ?FT46 ?XT46 ?TT46 ?hkT46 ?kdT46 ?kuT46 ?_; (case NT46 => k_asm); (case BT46 => k_asm); (case FT46 => k_asm); (case XT46 => k_asm); (case TT46 => k_asm); (case hkT46 => exact rfl); (case hsT46 => lcg_sub); (case kdT46 => ((try simp only [depth_under_make, depth_under_kw, depth_in1, depth_deeper, depth_caller]); (try dsimp only [ktrTop]); omega)); (case kuT46 => ((try simp only [units_in1, units_deeper, Around.mark_units, units_caller]); (try dsimp only [ktrTop]); omega))); intro epzq h9pzq tk9pzq thpzq; (try dsimp only); (try k_fold))))) | walk1 | (dsimp only; (first | ((with_reducible show wpAny _ _ (noteFrame ..) _ _ _); (with_reducible ((k_here; refine halt_in ?_)))) | ((with_reducible show wpAny _ _ (call (Value.type _) _) _ _ _); (with_reducible ((k_here; (with_reducible show wpAny _ _ (call (Value.type "bytes") [Value.int _ _]) _ _ _); k_dflt (refine' call_bytes_count ?aT47 ?bT47 ?_; (case aT47 => decide); (case bT47 => decide); k_whole); intro t9zq k9zq)))) | ((with_reducible show wpAny _ _ (call (Value.ref _) _) _ _ _); (with_reducible ((k_here; (with_reducible show wpAny _ _ (call (Value.ref 127) _) _ _ _); k_dflt (refine' wpieces_throws_use ?NT46 ?hsT46 ?BT46 ?FT46 ?XT46 ?TT46 ?hkT46 ?kdT46 ?kuT46 ?_; (case NT46 => k_asm); (case BT46 => k_asm); (case FT46 => k_asm); (case XT46 => k_asm); (case TT46 => k_asm); (case hkT46 => exact rfl); (case hsT46 => lcg_sub); (case kdT46 => ((try simp only [depth_under_make, depth_under_kw, depth_in1, depth_deeper, depth_caller]); (try dsimp only [ktrTop]); omega)); (case kuT46 => ((try simp only [units_in1, units_deeper, Around.mark_units, units_caller]); (try dsimp only [ktrTop]); omega))); intro epzq h9pzq tk9pzq thpzq; (try dsimp only); (try k_fold))))) | walk1)) | (leave1; walk_say "STEP leave1"; try dsimp only) | fail "no step"))
  with_reducible rename Thrown _ _ _ _ => th
  unfold Halt
  with_reducible rename Fr g' L' _ _ => zG
  have keep : ∀ b o, s.heap.get? b = some o → _ := fun b o q => zG.keep b o (hg b o q (by simp))
  have hno : ∀ env ∈ [envX cn cs L aa ccd cl], ∀ b, env.frame = some b → h₀.get? b = none := fun env henv b hb => by
    obtain rfl := List.mem_singleton.mp henv
    exact (Heap.FunFrames.mem B'.frames (List.mem_filterMap.mpr ⟨_, henv, hb⟩)).1
  have zG0 : Fr h₀ L' _ _ := ⟨zG.ns, fun b o q => zG.keep b o (FG'.keep b o q), Nat.le_of_lt (Nat.lt_of_lt_of_le (Heap.lt_size (by exact FG'.ns.choose_spec.choose_spec.choose_spec.1) : L < g'.objs.size) zG.above |> fun z => Nat.lt_of_le_of_lt FG'.above z)⟩
  refine caught_seg (h₀ := h₀) rfl zG0 hno th X (by k_asm) (by k_is) (fun h10 k1 k2 => ?_) rfl rfl (by decide) (by passes_own)
  (repeat' (first | (k_unfold; (try dsimp only)) | (k_end; wrow_close) | ((with_reducible show wpAny _ _ (noteFrame ..) _ _ _); (with_reducible ((k_here; refine halt_in ?_)))) | ((with_reducible show wpAny _ _ (call (Value.type _) _) _ _ _); (with_reducible ((k_here; (with_reducible show wpAny _ _ (call (Value.type "bytes") [Value.int _ _]) _ _ _); k_dflt (refine' call_bytes_count ?aT47 ?bT47 ?_; (case aT47 => decide); (case bT47 => decide); k_whole); intro t9zq k9zq)))) | ((with_reducible show wpAny _ _ (call (Value.ref _) _) _ _ _); (with_reducible ((k_here; (with_reducible show wpAny _ _ (call (Value.ref 127) _) _ _ _); k_dflt (refine' wpieces_throws_use ?NT46 ?hsT46 ?BT46 ?FT46 ?XT46 ?TT46 ?hkT46 ?kdT46 ?kuT46 ?_; (case NT46 => k_asm); (case BT46 => k_asm); (case FT46 => k_asm); (case XT46 => k_asm); (case TT46 => k_asm); (case hkT46 => exact rfl); (case hsT46 => lcg_sub); (case kdT46 => ((try simp only [depth_under_make, depth_under_kw, depth_in1, depth_deeper, depth_caller]); (try dsimp only [ktrTop]); omega)); (case kuT46 => ((try simp only [units_in1, units_deeper, Around.mark_units, units_caller]); (try dsimp only [ktrTop]); omega))); intro epzq h9pzq tk9pzq thpzq; (try dsimp only); (try k_fold))))) | walk1 | (dsimp only; (first | ((with_reducible show wpAny _ _ (noteFrame ..) _ _ _); (with_reducible ((k_here; refine halt_in ?_)))) | ((with_reducible show wpAny _ _ (call (Value.type _) _) _ _ _); (with_reducible ((k_here; (with_reducible show wpAny _ _ (call (Value.type "bytes") [Value.int _ _]) _ _ _); k_dflt (refine' call_bytes_count ?aT47 ?bT47 ?_; (case aT47 => decide); (case bT47 => decide); k_whole); intro t9zq k9zq)))) | ((with_reducible show wpAny _ _ (call (Value.ref _) _) _ _ _); (with_reducible ((k_here; (with_reducible show wpAny _ _ (call (Value.ref 127) _) _ _ _); k_dflt (refine' wpieces_throws_use ?NT46 ?hsT46 ?BT46 ?FT46 ?XT46 ?TT46 ?hkT46 ?kdT46 ?kuT46 ?_; (case NT46 => k_asm); (case BT46 => k_asm); (case FT46 => k_asm); (case XT46 => k_asm); (case TT46 => k_asm); (case hkT46 => exact rfl); (case hsT46 => lcg_sub); (case kdT46 => ((try simp only [depth_under_make, depth_under_kw, depth_in1, depth_deeper, depth_caller]); (try dsimp only [ktrTop]); omega)); (case kuT46 => ((try simp only [units_in1, units_deeper, Around.mark_units, units_caller]); (try dsimp only [ktrTop]); omega))); intro epzq h9pzq tk9pzq thpzq; (try dsimp only); (try k_fold))))) | walk1)) | (leave1; walk_say "STEP leave1"; try dsimp only) | fail "no step"))
  have inB : ∀ b o, s.heap.get? b = some o → b ≠ L → h10.get? b = some o := fun b o q hb => by
    refine k1 _ _ (hideAll_get _ (keep b o q) fun hm => ?_)
    obtain ⟨env, henv, hf⟩ := List.mem_filterMap.mp hm
    rcases List.mem_cons.mp henv with rfl | henv
    · obtain rfl : L' = b := Option.some.inj hf
      rw [hL] at q
      cases q
    · obtain rfl := List.mem_singleton.mp henv
      exact hb (Option.some.inj hf).symm
  show Q (Value.bool true) _
  refine hret _ _ ⟨k2.ns (zF.ns.keeps keep), fun b o q => inB b o (zF.keep b o q) fun z => ?_, zF.above⟩ fun p hp => ⟨inB _ _ (zN p hp).1 (zN p hp).2.1, (zN p hp).2⟩
  rw [z] at q
  exact Nat.lt_irrefl _ (Nat.lt_of_lt_of_le (Heap.lt_size q) zF.above)
end Mine
end
section
open PySem PySem.W PyProof.Rows PySem.Calls PySem.Spec PyProof.V
set_option Elab.async false
set_option maxRecDepth 100000
set_option maxHeartbeats 0
namespace Mine
/-- the law's end: True is what the claim asks -/
theorem law_good {cl : Str → Option Addr} {mean : ExcName → Option Value} {s₁ s' : Shared} {L : Addr} {m : Str → Option Value} {xs : List Int} (F : Fr s₁.heap L s'.heap m) (hg : s'.gens = #[]) (hos : s'.os = s₁.os) :
    GoodW PySem.Challenge.rw_pf0228_01.row.claim cl mean [ofPy (PyData.list (List.map PyData.int xs))] s₁ (.ok (.ret (.bool true))) s' := by
  refine goodW_bool F hg (raisesW_false ?_) ?_ hos
  · wrow_none_raised
  · wrow_post
end Mine
end
section
open PySem PySem.W PyProof.Rows PySem.Calls PySem.Spec PyProof.V
set_option Elab.async false
set_option maxRecDepth 100000
set_option maxHeartbeats 0
namespace Mine

























theorem law_t : PySem.Challenge.rw_pf0228_01.Holds := hd (by
  w_strict (k_go0; (all_goals try k_fold); (iterate 63 (first | (first | ((with_reducible show wpAny _ _ (call (Value.builtin _) _) _ _ _); (with_reducible ((k_here; k_dflt (refine' join3_enc ?NT73 ?mT73 ?a1T73 ?a2T73 ?a3T73 ?a4T73 ?a5T73 ?a6T73 ?_; (case NT73 => k_asm); (case mT73 => k_mem); (case a1T73 => assumption); (case a2T73 => assumption); (case a3T73 => assumption); (case a4T73 => assumption); (case a5T73 => assumption); (case a6T73 => assumption); k_whole); intro t9zq k9zq)))) | ((with_reducible show wpAny _ _ (getMethod (Value.bytes ..) _ _) _ _ _); (with_reducible ((k_here; (with_reducible refine join_method ?_))))) | ((with_reducible show wpAny _ _ (compareOp CmpOp.NotEq (Value.bytes ..) (Value.bytes ..)) _ _ _); (with_reducible ((k_here; (with_reducible refine ne_same ?_))))) | (with_reducible ((k_here; (with_reducible show wpAny _ _ (binaryOp Operator.Add (Value.bytes _ _) (Value.bytes _ _)) _ _ _); k_dflt (refine' KBy.add_bytes ?zT70 ?_; (case zT70 => (rw [zeros_size]; decide)); k_whole); intro _ _))) | ((with_reducible show wpAny _ _ (call (Value.type _) _) _ _ _); (with_reducible ((k_here; (with_reducible show wpAny _ _ (call (Value.type "bytes") [Value.int _ _]) _ _ _); k_dflt (refine' call_bytes_count ?aT69 ?bT69 ?_; (case aT69 => decide); (case bT69 => decide); k_whole); intro t9zq k9zq)))) | ((with_reducible show wpAny _ _ (eval (PySem.Expr.ListComp ..) _) _ _ _); (with_reducible ((k_here; k_dflt (refine LCg.ListComp_U (F₀ := by k_asm) (by with_unfolding_all rfl) (by decide) (by rfl) (by decide) (by rfl) ?_))))) | ((with_reducible show LCg.FinE ..); (with_reducible (((unfold LCg.FinE); intro Dpzq hpzq tkpzq Fpzq Npzq o1pzq; clear o1pzq; (try simp only [List.nil_append, List.cons_append] at Npzq); (try dsimp only))))) | ((with_reducible show LCg.FinA ..); (with_reducible (((unfold LCg.FinA); intro Dpzq hpzq tkpzq Fpzq Npzq o1pzq; clear o1pzq; (try simp only [List.nil_append, List.cons_append] at Npzq); (try dsimp only))))) | ((with_reducible show LCg.CompRest ..); (with_reducible ((with_unfolding_all first | (refine LCg.CompRest.succ ?_; intro vpzq Ipzq oIpzq Cpzq oCpzq Dpzq mpzq hpzq tkpzq Epzq hvpzq hCpzq hxpzq Fpzq Npzq offpzq nepzq; clear nepzq; lcg_open hvpzq) | refine LCg.CompRest.zero ?_)))) | ((with_reducible show LCg.CompSrc ..); (with_reducible ((k_here; k_dflt (first | (refine' rows_src ?hdT64 ?hhT64 ?FT64 ?NT64 ?h1T64 ?h2T64 ?hrT64 ?_; (case hhT64 => rfl); (case FT64 => k_asm); (case NT64 => k_asm); (case hrT64 => assumption); (case hdT64 => assumption); (case h1T64 => k_mem); (case h2T64 => k_mem); intro g9pzq; refine' rows_rest ?kaT64 ?kbT64 ?kcT64 ?klT64 ?_ ?_; (case kaT64 => assumption); (case kbT64 => assumption); (case kcT64 => assumption); (case klT64 => omega); all_goals (first | (intro u1zq x1zq d1zq u2zq x2zq d2zq u3zq x3zq d3zq c1zq c2zq c3zq P1zq D1zq P2zq D2zq P3zq D3zq t11zq t21zq t31zq tc1zq tp1zq td1zq te1zq t12zq t22zq t32zq tc2zq tp2zq td2zq te2zq t13zq t23zq t33zq tc3zq tp3zq td3zq te3zq azq bzq tazq tbzq nzq h01zq h11zq hP1zq hD1zq h02zq h12zq hP2zq hD2zq h03zq h13zq hP3zq hD3zq; (try dsimp only)) | (intro ys9zq more9zq a9zq b9zq ta9zq tb9zq n9zq I9zq oI9zq C9zq oC9zq D9zq m9zq h9zq tk9zq E9zq ha9zq hb9zq hc9zq hC9zq F9zq N9zq off9zq))) | (refine LCg.CompSrc.ledger (by rfl) (by k_asm) (by k_asm) (by k_mem) (by exact Nat.le_of_ble_eq_true rfl) ?_; intro g9pzq; lcg_lit)))))) | ((with_reducible show wpAny _ _ (exec (PySem.Stmt.Assign ..) _) _ _ _); (with_reducible ((k_here; k_dflt (refine LCg.Assign_ListComp_U (F₀ := by k_asm) (by rfl) (by with_unfolding_all rfl) (by with_unfolding_all rfl) (by decide) (by rfl) (by decide) (by rfl) (by rfl) (by rfl) ?_))))) | ((with_reducible show wpAny _ _ (call (Value.ref _) _) _ _ _); (first | (with_reducible ((k_here; (with_reducible show wpAny _ _ (call (Value.ref 127) _) _ _ _); k_dflt (first | (refine' bytes_use (wpieces3_small _ _ _ ?a1T62 ?a2T62 ?a3T62 ?a4T62 ?b1T62 ?b2T62 ?b3T62 ?b4T62 ?c1T62 ?c2T62 ?c3T62 ?c4T62) ?ksT62 ?k1T62 ?k2T62 ?k3T62 ?k4T62 ?k5T62 ?kKT62 ?kdT62 ?kuT62 ?_; (case k1T62 => k_asm); (case k2T62 => k_asm); (case k3T62 => k_asm); (case k4T62 => k_asm); (case k5T62 => k_asm); (case kKT62 => first | exact rfl | assumption); (case ksT62 => lcg_sub); (case a1T62 => assumption); (case a2T62 => assumption); (case a3T62 => assumption); (case a4T62 => assumption); (case b1T62 => assumption); (case b2T62 => assumption); (case b3T62 => assumption); (case b4T62 => assumption); (case c1T62 => assumption); (case c2T62 => assumption); (case c3T62 => assumption); (case c4T62 => assumption); (case kdT62 => ((try simp only [depth_under_make, depth_under_kw, depth_in1, depth_deeper, depth_caller]); (try dsimp only [ktrTop]); omega)); (case kuT62 => ((try simp only [units_in1, units_deeper, Around.mark_units, units_caller]); (try dsimp only [ktrTop]); omega))) | (refine' bytes_use (wpieces1_big _ _ _) ?ksT62 ?k1T62 ?k2T62 ?k3T62 ?k4T62 ?k5T62 ?kKT62 ?kdT62 ?kuT62 ?_; (case k1T62 => k_asm); (case k2T62 => k_asm); (case k3T62 => k_asm); (case k4T62 => k_asm); (case k5T62 => k_asm); (case kKT62 => first | exact rfl | assumption); (case ksT62 => lcg_sub); (case kdT62 => ((try simp only [depth_under_make, depth_under_kw, depth_in1, depth_deeper, depth_caller]); (try dsimp only [ktrTop]); omega)); (case kuT62 => ((try simp only [units_in1, units_deeper, Around.mark_units, units_caller]); (try dsimp only [ktrTop]); omega)))); intro t9zq h9zq tk9zq F9zq N9zq; (try dsimp only); (try k_sweep); (try k_fold)))) | (with_reducible ((k_here; (with_reducible show wpAny _ _ (call (Value.ref 167) _) _ _ _); k_dflt ( refine' meet_use (piece_meets _ _ _ _ _ _ _ _ ?krT60 ?kaT60 ?kbT60 ?kcT60) ?k1T60 ?k2T60 ?k3T60 ?k4T60 ?k5T60 ?kKT60 ?kdT60 ?kuT60 ?_; (case k1T60 => k_asm); (case k2T60 => k_asm); (case k3T60 => k_asm); (case k4T60 => k_asm); (case k5T60 => k_asm); (case kKT60 => first | exact rfl | assumption); (case krT60 => assumption); (case kaT60 => assumption); (case kbT60 => assumption); (case kcT60 => assumption); (case kdT60 => ((try simp only [depth_under_make, depth_under_kw, depth_in1, depth_deeper, depth_caller]); (try dsimp only [ktrTop]); omega)); (case kuT60 => ((try simp only [units_in1, units_deeper, Around.mark_units, units_caller]); (try dsimp only [ktrTop]); omega))); intro v9zq n9zq h9zq tk9zq F9zq N9zq o9zq; (try dsimp only); (try k_fold)))) | (with_reducible ((k_here; (with_reducible show wpAny _ _ (call (Value.ref 162) _) _ _ _); k_dflt ( refine' meet_use (told_meets _ _ _ _ ?kaT57 ?kbT57) ?k1T57 ?k2T57 ?k3T57 ?k4T57 ?k5T57 ?kKT57 ?kdT57 ?kuT57 ?_; (case kaT57 => first | assumption | exact Int.fmod_nonneg_of_pos _ (by decide)); (case kbT57 => first | assumption | exact Int.fmod_lt_of_pos _ (by decide)); (case k1T57 => k_asm); (case k2T57 => k_asm); (case k3T57 => k_asm); (case k4T57 => k_asm); (case k5T57 => k_asm); (case kKT57 => first | exact rfl | assumption); (case kdT57 => ((try simp only [depth_under_make, depth_under_kw, depth_in1, depth_deeper, depth_caller]); (try dsimp only [ktrTop]); omega)); (case kuT57 => ((try simp only [units_in1, units_deeper, Around.mark_units, units_caller]); (try dsimp only [ktrTop]); omega))); intro v9zq n9zq h9zq tk9zq F9zq N9zq o9zq; (k_dflt (obtain ⟨r9zq, t9zq, m9zq, e9zq, e8zq⟩ := o9zq; subst e9zq; subst e8zq)); (try dsimp only); (try k_sweep); (try k_fold)))) | (with_reducible ((k_here; (with_reducible show wpAny _ _ (call (Value.ref 93) _) _ _ _); k_dflt ( refine' meet_use (has_meets _ _ _ _) ?k1T56 ?k2T56 ?k3T56 ?k4T56 ?k5T56 ?kKT56 ?kdT56 ?kuT56 ?_; (case k1T56 => k_asm); (case k2T56 => k_asm); (case k3T56 => k_asm); (case k4T56 => k_asm); (case k5T56 => k_asm); (case kKT56 => first | exact rfl | assumption); (case kdT56 => ((try simp only [depth_under_make, depth_under_kw, depth_in1, depth_deeper, depth_caller]); (try dsimp only [ktrTop]); omega)); (case kuT56 => ((try simp only [units_in1, units_deeper, Around.mark_units, units_caller]); (try dsimp only [ktrTop]); omega))); intro v9zq n9zq h9zq tk9zq F9zq N9zq o9zq; (k_dflt (obtain ⟨e9zq, e8zq⟩ := o9zq; subst e9zq; subst e8zq)); (try dsimp only); (try k_sweep); (try k_fold)))) | (with_reducible ((k_here; (with_reducible show wpAny _ _ (call (Value.ref 86) _) _ _ _); k_dflt ( refine' meet_use (restart_meets _ _ _ _) ?k1T55 ?k2T55 ?k3T55 ?k4T55 ?k5T55 ?kKT55 ?kdT55 ?kuT55 ?_; (case k1T55 => k_asm); (case k2T55 => k_asm); (case k3T55 => k_asm); (case k4T55 => k_asm); (case k5T55 => k_asm); (case kKT55 => first | exact rfl | assumption); (case kdT55 => ((try simp only [depth_under_make, depth_under_kw, depth_in1, depth_deeper, depth_caller]); (try dsimp only [ktrTop]); omega)); (case kuT55 => ((try simp only [units_in1, units_deeper, Around.mark_units, units_caller]); (try dsimp only [ktrTop]); omega))); intro v9zq n9zq h9zq tk9zq F9zq N9zq o9zq; (k_dflt (obtain ⟨e9zq, e8zq⟩ := o9zq; subst e9zq; subst e8zq)); (try dsimp only); (try k_sweep); (try k_fold)))) | (with_reducible ((k_here; (with_reducible show wpAny _ _ (call (Value.ref 79) _) _ _ _); k_dflt ( refine' meet_use (frame_meets _ _ _ _) ?k1T54 ?k2T54 ?k3T54 ?k4T54 ?k5T54 ?kKT54 ?kdT54 ?kuT54 ?_; (case k1T54 => k_asm); (case k2T54 => k_asm); (case k3T54 => k_asm); (case k4T54 => k_asm); (case k5T54 => k_asm); (case kKT54 => first | exact rfl | assumption); (case kdT54 => ((try simp only [depth_under_make, depth_under_kw, depth_in1, depth_deeper, depth_caller]); (try dsimp only [ktrTop]); omega)); (case kuT54 => ((try simp only [units_in1, units_deeper, Around.mark_units, units_caller]); (try dsimp only [ktrTop]); omega))); intro v9zq n9zq h9zq tk9zq F9zq N9zq o9zq; (k_dflt (obtain ⟨e9zq, e8zq⟩ := o9zq; subst e9zq; subst e8zq)); (try dsimp only); (try k_sweep); (try k_fold)))) | (with_reducible ((k_here; (with_reducible show wpAny _ _ (call (Value.ref 72) _) _ _ _); k_dflt ( refine' meet_use (name_meets _ _ _ _ ?kaT53 ?kbT53) ?k1T53 ?k2T53 ?k3T53 ?k4T53 ?k5T53 ?kKT53 ?kdT53 ?kuT53 ?_; (case kaT53 => first | assumption | exact Int.fmod_nonneg_of_pos _ (by decide)); (case kbT53 => first | assumption | exact Int.fmod_lt_of_pos _ (by decide)); (case k1T53 => k_asm); (case k2T53 => k_asm); (case k3T53 => k_asm); (case k4T53 => k_asm); (case k5T53 => k_asm); (case kKT53 => first | exact rfl | assumption); (case kdT53 => ((try simp only [depth_under_make, depth_under_kw, depth_in1, depth_deeper, depth_caller]); (try dsimp only [ktrTop]); omega)); (case kuT53 => ((try simp only [units_in1, units_deeper, Around.mark_units, units_caller]); (try dsimp only [ktrTop]); omega))); intro v9zq n9zq h9zq tk9zq F9zq N9zq o9zq; (k_dflt (obtain ⟨⟨t9zq, e9zq⟩, e8zq⟩ := o9zq; subst e9zq; subst e8zq)); (try dsimp only); (try k_sweep); (try k_fold)))) | (with_reducible ((k_here; (with_reducible show wpAny _ _ (call (Value.ref 134) _) _ _ _); k_dflt ( refine' seed_use ?klT52 ?kiT52 ?ktT52 ?k1T52 ?k2T52 ?k3T52 ?k4T52 ?k5T52 ?kKT52 ?kdT52 ?kuT52 ?_; (case klT52 => k_asm); (case kiT52 => l_ints); (case ktT52 => l_fit); (case k1T52 => k_asm); (case k2T52 => k_asm); (case k3T52 => k_asm); (case k4T52 => k_asm); (case k5T52 => k_asm); (case kKT52 => first | exact rfl | assumption); (case kdT52 => ((try simp only [depth_under_make, depth_under_kw, depth_in1, depth_deeper, depth_caller]); (try dsimp only [ktrTop]); omega)); (case kuT52 => ((try simp only [units_in1, units_deeper, Around.mark_units, units_caller]); (try dsimp only [ktrTop]); omega))); intro r9zq ta9zq tb9zq n9zq a9zq b9zq h9zq tk9zq F9zq N9zq l9zq ha9zq hb9zq hc9zq; (try k_lt l9zq); (try dsimp only); (try k_sweep); (try k_fold)))) | (with_reducible ((k_here; (with_reducible show wpAny _ _ (call (Value.ref 141) _) _ _ _); k_dflt ( refine' digit_use ?kUT51 ?kaT51 ?kbT51 ?kcT51 ?kmT51 ?knT51 ?k1T51 ?k2T51 ?k3T51 ?k4T51 ?k5T51 ?kKT51 ?kdT51 ?kuT51 ?_; (case k1T51 => k_asm); (case k2T51 => k_asm); (case k3T51 => k_asm); (case k4T51 => k_asm); (case kUT51 => k_updF); (case kaT51 => assumption); (case kbT51 => assumption); (case kcT51 => assumption); (case kmT51 => decide); (case knT51 => decide); (case k5T51 => k_asm); (case kKT51 => first | exact rfl | assumption); (case kdT51 => ((try simp only [depth_under_make, depth_under_kw, depth_in1, depth_deeper, depth_caller]); (try dsimp only [ktrTop]); omega)); (case kuT51 => ((try simp only [units_in1, units_deeper, Around.mark_units, units_caller]); (try dsimp only [ktrTop]); omega))); intro r9zq t9zq a9zq b9zq ta9zq tb9zq n9zq h9zq tk9zq lo9zq hi9zq ha9zq hb9zq hc9zq F9zq N9zq; (try dsimp only at N9zq); (try dsimp only); (try k_sweep); (try k_fold)))) | (with_reducible ((k_here; (with_reducible show wpAny _ _ (call (Value.ref 174) _) _ _ _); k_dflt ( refine' meet_use (refused_no _ _ _ _) ?k1T50 ?k2T50 ?k3T50 ?k4T50 ?k5T50 ?kKT50 ?kdT50 ?kuT50 ?_; (case k1T50 => k_asm); (case k2T50 => k_asm); (case k3T50 => k_asm); (case k4T50 => k_asm); (case k5T50 => k_asm); (case kKT50 => first | exact rfl | assumption); (case kdT50 => ((try simp only [depth_under_make, depth_under_kw, depth_in1, depth_deeper, depth_caller]); (try dsimp only [ktrTop]); omega)); (case kuT50 => ((try simp only [units_in1, units_deeper, Around.mark_units, units_caller]); (try dsimp only [ktrTop]); omega))); intro v9zq n9zq h9zq tk9zq F9zq N9zq o9zq; (k_dflt (obtain ⟨e9zq, e8zq⟩ := o9zq; subst e9zq; subst e8zq)); (try dsimp only); (try k_sweep); (try k_fold)))) | (with_reducible ((k_here; (with_reducible show wpAny _ _ (call (Value.ref 174) _) _ _ _); k_dflt (refine' refused_yes ?BT49 ?FT49 ?XT49 ?NT49 ?TT49 ?hkT49 ?kdT49 ?kuT49 ?_; (case BT49 => k_asm); (case FT49 => k_asm); (case XT49 => k_asm); (case NT49 => k_asm); (case TT49 => k_asm); (case hkT49 => exact rfl); (case kdT49 => ((try simp only [depth_under_make, depth_under_kw, depth_in1, depth_deeper, depth_caller]); (try dsimp only [ktrTop]); omega)); (case kuT49 => ((try simp only [units_in1, units_deeper, Around.mark_units, units_caller]); (try dsimp only [ktrTop]); omega))); intro h9pzq tk9pzq F9pzq N9pzq; (try dsimp only); (try k_sweep); (try k_fold)))))) | ((with_reducible show PieceEl ..); ((exact pieceEl_of (by assumption) (by assumption) (by assumption)))) | (with_reducible (((with_reducible show wpAny _ _ (pyIter (Value.ref _)) (fun it s₂ => LoopAtV _ _ _ _ _ _ _ _ _ it s₂) _ _); k_here; (rename Fr _ _ _ _ => lFpzq); (rename News _ _ _ _ => lNpzq); (rename IsRange _ _ _ _ _ _ _ _ => rgXzq); (with_unfolding_all refine' loop_still (n := 64) [Str.ofString "code"] (by rfl) rgXzq (by decide) (by rfl) lFpzq lNpzq ?_ ?_); (all_goals (try clear lFpzq lNpzq)); (all_goals (first | (intro k9zq t9zq u9zq h9zq tk9zq own9zq lo9zq hi9zq off9zq F9zq N9zq; (try dsimp only at N9zq)) | (intro u9zq h9zq tk9zq F9zq N9zq))); (all_goals (try dsimp only)); (all_goals (try k_fold))))) | ((with_reducible show wpAny _ _ (compareOp CmpOp.NotEq (Value.ref ..) (Value.ref ..)) _ _ _); (with_reducible ((k_here; (with_reducible show wpAny _ _ (compareOp CmpOp.NotEq (Value.ref _) (Value.ref _)) _ _ _); k_dflt (refine' ne_told ?kaT58 ?kbT58 ?NT58 ?aT58 ?bT58 ?uT58 ?_; (case NT58 => k_asm); (case aT58 => k_mem); (case bT58 => k_mem); (case kaT58 => first | assumption | exact Int.fmod_nonneg_of_pos _ (by decide)); (case kbT58 => first | assumption | exact Int.fmod_lt_of_pos _ (by decide)); (case uT58 => ke_room)))))) | walk1) | (k_unfold; (try dsimp only)) | (dsimp only; (first | ((with_reducible show wpAny _ _ (call (Value.builtin _) _) _ _ _); (with_reducible ((k_here; k_dflt (refine' join3_enc ?NT73 ?mT73 ?a1T73 ?a2T73 ?a3T73 ?a4T73 ?a5T73 ?a6T73 ?_; (case NT73 => k_asm); (case mT73 => k_mem); (case a1T73 => assumption); (case a2T73 => assumption); (case a3T73 => assumption); (case a4T73 => assumption); (case a5T73 => assumption); (case a6T73 => assumption); k_whole); intro t9zq k9zq)))) | ((with_reducible show wpAny _ _ (getMethod (Value.bytes ..) _ _) _ _ _); (with_reducible ((k_here; (with_reducible refine join_method ?_))))) | ((with_reducible show wpAny _ _ (compareOp CmpOp.NotEq (Value.bytes ..) (Value.bytes ..)) _ _ _); (with_reducible ((k_here; (with_reducible refine ne_same ?_))))) | (with_reducible ((k_here; (with_reducible show wpAny _ _ (binaryOp Operator.Add (Value.bytes _ _) (Value.bytes _ _)) _ _ _); k_dflt (refine' KBy.add_bytes ?zT70 ?_; (case zT70 => (rw [zeros_size]; decide)); k_whole); intro _ _))) | ((with_reducible show wpAny _ _ (call (Value.type _) _) _ _ _); (with_reducible ((k_here; (with_reducible show wpAny _ _ (call (Value.type "bytes") [Value.int _ _]) _ _ _); k_dflt (refine' call_bytes_count ?aT69 ?bT69 ?_; (case aT69 => decide); (case bT69 => decide); k_whole); intro t9zq k9zq)))) | ((with_reducible show wpAny _ _ (eval (PySem.Expr.ListComp ..) _) _ _ _); (with_reducible ((k_here; k_dflt (refine LCg.ListComp_U (F₀ := by k_asm) (by with_unfolding_all rfl) (by decide) (by rfl) (by decide) (by rfl) ?_))))) | ((with_reducible show LCg.FinE ..); (with_reducible (((unfold LCg.FinE); intro Dpzq hpzq tkpzq Fpzq Npzq o1pzq; clear o1pzq; (try simp only [List.nil_append, List.cons_append] at Npzq); (try dsimp only))))) | ((with_reducible show LCg.FinA ..); (with_reducible (((unfold LCg.FinA); intro Dpzq hpzq tkpzq Fpzq Npzq o1pzq; clear o1pzq; (try simp only [List.nil_append, List.cons_append] at Npzq); (try dsimp only))))) | ((with_reducible show LCg.CompRest ..); (with_reducible ((with_unfolding_all first | (refine LCg.CompRest.succ ?_; intro vpzq Ipzq oIpzq Cpzq oCpzq Dpzq mpzq hpzq tkpzq Epzq hvpzq hCpzq hxpzq Fpzq Npzq offpzq nepzq; clear nepzq; lcg_open hvpzq) | refine LCg.CompRest.zero ?_)))) | ((with_reducible show LCg.CompSrc ..); (with_reducible ((k_here; k_dflt (first | (refine' rows_src ?hdT64 ?hhT64 ?FT64 ?NT64 ?h1T64 ?h2T64 ?hrT64 ?_; (case hhT64 => rfl); (case FT64 => k_asm); (case NT64 => k_asm); (case hrT64 => assumption); (case hdT64 => assumption); (case h1T64 => k_mem); (case h2T64 => k_mem); intro g9pzq; refine' rows_rest ?kaT64 ?kbT64 ?kcT64 ?klT64 ?_ ?_; (case kaT64 => assumption); (case kbT64 => assumption); (case kcT64 => assumption); (case klT64 => omega); all_goals (first | (intro u1zq x1zq d1zq u2zq x2zq d2zq u3zq x3zq d3zq c1zq c2zq c3zq P1zq D1zq P2zq D2zq P3zq D3zq t11zq t21zq t31zq tc1zq tp1zq td1zq te1zq t12zq t22zq t32zq tc2zq tp2zq td2zq te2zq t13zq t23zq t33zq tc3zq tp3zq td3zq te3zq azq bzq tazq tbzq nzq h01zq h11zq hP1zq hD1zq h02zq h12zq hP2zq hD2zq h03zq h13zq hP3zq hD3zq; (try dsimp only)) | (intro ys9zq more9zq a9zq b9zq ta9zq tb9zq n9zq I9zq oI9zq C9zq oC9zq D9zq m9zq h9zq tk9zq E9zq ha9zq hb9zq hc9zq hC9zq F9zq N9zq off9zq))) | (refine LCg.CompSrc.ledger (by rfl) (by k_asm) (by k_asm) (by k_mem) (by exact Nat.le_of_ble_eq_true rfl) ?_; intro g9pzq; lcg_lit)))))) | ((with_reducible show wpAny _ _ (exec (PySem.Stmt.Assign ..) _) _ _ _); (with_reducible ((k_here; k_dflt (refine LCg.Assign_ListComp_U (F₀ := by k_asm) (by rfl) (by with_unfolding_all rfl) (by with_unfolding_all rfl) (by decide) (by rfl) (by decide) (by rfl) (by rfl) (by rfl) ?_))))) | ((with_reducible show wpAny _ _ (call (Value.ref _) _) _ _ _); (first | (with_reducible ((k_here; (with_reducible show wpAny _ _ (call (Value.ref 127) _) _ _ _); k_dflt (first | (refine' bytes_use (wpieces3_small _ _ _ ?a1T62 ?a2T62 ?a3T62 ?a4T62 ?b1T62 ?b2T62 ?b3T62 ?b4T62 ?c1T62 ?c2T62 ?c3T62 ?c4T62) ?ksT62 ?k1T62 ?k2T62 ?k3T62 ?k4T62 ?k5T62 ?kKT62 ?kdT62 ?kuT62 ?_; (case k1T62 => k_asm); (case k2T62 => k_asm); (case k3T62 => k_asm); (case k4T62 => k_asm); (case k5T62 => k_asm); (case kKT62 => first | exact rfl | assumption); (case ksT62 => lcg_sub); (case a1T62 => assumption); (case a2T62 => assumption); (case a3T62 => assumption); (case a4T62 => assumption); (case b1T62 => assumption); (case b2T62 => assumption); (case b3T62 => assumption); (case b4T62 => assumption); (case c1T62 => assumption); (case c2T62 => assumption); (case c3T62 => assumption); (case c4T62 => assumption); (case kdT62 => ((try simp only [depth_under_make, depth_under_kw, depth_in1, depth_deeper, depth_caller]); (try dsimp only [ktrTop]); omega)); (case kuT62 => ((try simp only [units_in1, units_deeper, Around.mark_units, units_caller]); (try dsimp only [ktrTop]); omega))) | (refine' bytes_use (wpieces1_big _ _ _) ?ksT62 ?k1T62 ?k2T62 ?k3T62 ?k4T62 ?k5T62 ?kKT62 ?kdT62 ?kuT62 ?_; (case k1T62 => k_asm); (case k2T62 => k_asm); (case k3T62 => k_asm); (case k4T62 => k_asm); (case k5T62 => k_asm); (case kKT62 => first | exact rfl | assumption); (case ksT62 => lcg_sub); (case kdT62 => ((try simp only [depth_under_make, depth_under_kw, depth_in1, depth_deeper, depth_caller]); (try dsimp only [ktrTop]); omega)); (case kuT62 => ((try simp only [units_in1, units_deeper, Around.mark_units, units_caller]); (try dsimp only [ktrTop]); omega)))); intro t9zq h9zq tk9zq F9zq N9zq; (try dsimp only); (try k_sweep); (try k_fold)))) | (with_reducible ((k_here; (with_reducible show wpAny _ _ (call (Value.ref 167) _) _ _ _); k_dflt ( refine' meet_use (piece_meets _ _ _ _ _ _ _ _ ?krT60 ?kaT60 ?kbT60 ?kcT60) ?k1T60 ?k2T60 ?k3T60 ?k4T60 ?k5T60 ?kKT60 ?kdT60 ?kuT60 ?_; (case k1T60 => k_asm); (case k2T60 => k_asm); (case k3T60 => k_asm); (case k4T60 => k_asm); (case k5T60 => k_asm); (case kKT60 => first | exact rfl | assumption); (case krT60 => assumption); (case kaT60 => assumption); (case kbT60 => assumption); (case kcT60 => assumption); (case kdT60 => ((try simp only [depth_under_make, depth_under_kw, depth_in1, depth_deeper, depth_caller]); (try dsimp only [ktrTop]); omega)); (case kuT60 => ((try simp only [units_in1, units_deeper, Around.mark_units, units_caller]); (try dsimp only [ktrTop]); omega))); intro v9zq n9zq h9zq tk9zq F9zq N9zq o9zq; (try dsimp only); (try k_fold)))) | (with_reducible ((k_here; (with_reducible show wpAny _ _ (call (Value.ref 162) _) _ _ _); k_dflt ( refine' meet_use (told_meets _ _ _ _ ?kaT57 ?kbT57) ?k1T57 ?k2T57 ?k3T57 ?k4T57 ?k5T57 ?kKT57 ?kdT57 ?kuT57 ?_; (case kaT57 => first | assumption | exact Int.fmod_nonneg_of_pos _ (by decide)); (case kbT57 => first | assumption | exact Int.fmod_lt_of_pos _ (by decide)); (case k1T57 => k_asm); (case k2T57 => k_asm); (case k3T57 => k_asm); (case k4T57 => k_asm); (case k5T57 => k_asm); (case kKT57 => first | exact rfl | assumption); (case kdT57 => ((try simp only [depth_under_make, depth_under_kw, depth_in1, depth_deeper, depth_caller]); (try dsimp only [ktrTop]); omega)); (case kuT57 => ((try simp only [units_in1, units_deeper, Around.mark_units, units_caller]); (try dsimp only [ktrTop]); omega))); intro v9zq n9zq h9zq tk9zq F9zq N9zq o9zq; (k_dflt (obtain ⟨r9zq, t9zq, m9zq, e9zq, e8zq⟩ := o9zq; subst e9zq; subst e8zq)); (try dsimp only); (try k_sweep); (try k_fold)))) | (with_reducible ((k_here; (with_reducible show wpAny _ _ (call (Value.ref 93) _) _ _ _); k_dflt ( refine' meet_use (has_meets _ _ _ _) ?k1T56 ?k2T56 ?k3T56 ?k4T56 ?k5T56 ?kKT56 ?kdT56 ?kuT56 ?_; (case k1T56 => k_asm); (case k2T56 => k_asm); (case k3T56 => k_asm); (case k4T56 => k_asm); (case k5T56 => k_asm); (case kKT56 => first | exact rfl | assumption); (case kdT56 => ((try simp only [depth_under_make, depth_under_kw, depth_in1, depth_deeper, depth_caller]); (try dsimp only [ktrTop]); omega)); (case kuT56 => ((try simp only [units_in1, units_deeper, Around.mark_units, units_caller]); (try dsimp only [ktrTop]); omega))); intro v9zq n9zq h9zq tk9zq F9zq N9zq o9zq; (k_dflt (obtain ⟨e9zq, e8zq⟩ := o9zq; subst e9zq; subst e8zq)); (try dsimp only); (try k_sweep); (try k_fold)))) | (with_reducible ((k_here; (with_reducible show wpAny _ _ (call (Value.ref 86) _) _ _ _); k_dflt ( refine' meet_use (restart_meets _ _ _ _) ?k1T55 ?k2T55 ?k3T55 ?k4T55 ?k5T55 ?kKT55 ?kdT55 ?kuT55 ?_; (case k1T55 => k_asm); (case k2T55 => k_asm); (case k3T55 => k_asm); (case k4T55 => k_asm); (case k5T55 => k_asm); (case kKT55 => first | exact rfl | assumption); (case kdT55 => ((try simp only [depth_under_make, depth_under_kw, depth_in1, depth_deeper, depth_caller]); (try dsimp only [ktrTop]); omega)); (case kuT55 => ((try simp only [units_in1, units_deeper, Around.mark_units, units_caller]); (try dsimp only [ktrTop]); omega))); intro v9zq n9zq h9zq tk9zq F9zq N9zq o9zq; (k_dflt (obtain ⟨e9zq, e8zq⟩ := o9zq; subst e9zq; subst e8zq)); (try dsimp only); (try k_sweep); (try k_fold)))) | (with_reducible ((k_here; (with_reducible show wpAny _ _ (call (Value.ref 79) _) _ _ _); k_dflt ( refine' meet_use (frame_meets _ _ _ _) ?k1T54 ?k2T54 ?k3T54 ?k4T54 ?k5T54 ?kKT54 ?kdT54 ?kuT54 ?_; (case k1T54 => k_asm); (case k2T54 => k_asm); (case k3T54 => k_asm); (case k4T54 => k_asm); (case k5T54 => k_asm); (case kKT54 => first | exact rfl | assumption); (case kdT54 => ((try simp only [depth_under_make, depth_under_kw, depth_in1, depth_deeper, depth_caller]); (try dsimp only [ktrTop]); omega)); (case kuT54 => ((try simp only [units_in1, units_deeper, Around.mark_units, units_caller]); (try dsimp only [ktrTop]); omega))); intro v9zq n9zq h9zq tk9zq F9zq N9zq o9zq; (k_dflt (obtain ⟨e9zq, e8zq⟩ := o9zq; subst e9zq; subst e8zq)); (try dsimp only); (try k_sweep); (try k_fold)))) | (with_reducible ((k_here; (with_reducible show wpAny _ _ (call (Value.ref 72) _) _ _ _); k_dflt ( refine' meet_use (name_meets _ _ _ _ ?kaT53 ?kbT53) ?k1T53 ?k2T53 ?k3T53 ?k4T53 ?k5T53 ?kKT53 ?kdT53 ?kuT53 ?_; (case kaT53 => first | assumption | exact Int.fmod_nonneg_of_pos _ (by decide)); (case kbT53 => first | assumption | exact Int.fmod_lt_of_pos _ (by decide)); (case k1T53 => k_asm); (case k2T53 => k_asm); (case k3T53 => k_asm); (case k4T53 => k_asm); (case k5T53 => k_asm); (case kKT53 => first | exact rfl | assumption); (case kdT53 => ((try simp only [depth_under_make, depth_under_kw, depth_in1, depth_deeper, depth_caller]); (try dsimp only [ktrTop]); omega)); (case kuT53 => ((try simp only [units_in1, units_deeper, Around.mark_units, units_caller]); (try dsimp only [ktrTop]); omega))); intro v9zq n9zq h9zq tk9zq F9zq N9zq o9zq; (k_dflt (obtain ⟨⟨t9zq, e9zq⟩, e8zq⟩ := o9zq; subst e9zq; subst e8zq)); (try dsimp only); (try k_sweep); (try k_fold)))) | (with_reducible ((k_here; (with_reducible show wpAny _ _ (call (Value.ref 134) _) _ _ _); k_dflt ( refine' seed_use ?klT52 ?kiT52 ?ktT52 ?k1T52 ?k2T52 ?k3T52 ?k4T52 ?k5T52 ?kKT52 ?kdT52 ?kuT52 ?_; (case klT52 => k_asm); (case kiT52 => l_ints); (case ktT52 => l_fit); (case k1T52 => k_asm); (case k2T52 => k_asm); (case k3T52 => k_asm); (case k4T52 => k_asm); (case k5T52 => k_asm); (case kKT52 => first | exact rfl | assumption); (case kdT52 => ((try simp only [depth_under_make, depth_under_kw, depth_in1, depth_deeper, depth_caller]); (try dsimp only [ktrTop]); omega)); (case kuT52 => ((try simp only [units_in1, units_deeper, Around.mark_units, units_caller]); (try dsimp only [ktrTop]); omega))); intro r9zq ta9zq tb9zq n9zq a9zq b9zq h9zq tk9zq F9zq N9zq l9zq ha9zq hb9zq hc9zq; (try k_lt l9zq); (try dsimp only); (try k_sweep); (try k_fold)))) | (with_reducible ((k_here; (with_reducible show wpAny _ _ (call (Value.ref 141) _) _ _ _); k_dflt ( refine' digit_use ?kUT51 ?kaT51 ?kbT51 ?kcT51 ?kmT51 ?knT51 ?k1T51 ?k2T51 ?k3T51 ?k4T51 ?k5T51 ?kKT51 ?kdT51 ?kuT51 ?_; (case k1T51 => k_asm); (case k2T51 => k_asm); (case k3T51 => k_asm); (case k4T51 => k_asm); (case kUT51 => k_updF); (case kaT51 => assumption); (case kbT51 => assumption); (case kcT51 => assumption); (case kmT51 => decide); (case knT51 => decide); (case k5T51 => k_asm); (case kKT51 => first | exact rfl | assumption); (case kdT51 => ((try simp only [depth_under_make, depth_under_kw, depth_in1, depth_deeper, depth_caller]); (try dsimp only [ktrTop]); omega)); (case kuT51 => ((try simp only [units_in1, units_deeper, Around.mark_units, units_caller]); (try dsimp only [ktrTop]); omega))); intro r9zq t9zq a9zq b9zq ta9zq tb9zq n9zq h9zq tk9zq lo9zq hi9zq ha9zq hb9zq hc9zq F9zq N9zq; (try dsimp only at N9zq); (try dsimp only); (try k_sweep); (try k_fold)))) | (with_reducible ((k_here; (with_reducible show wpAny _ _ (call (Value.ref 174) _) _ _ _); k_dflt ( refine' meet_use (refused_no _ _ _ _) ?k1T50 ?k2T50 ?k3T50 ?k4T50 ?k5T50 ?kKT50 ?kdT50 ?kuT50 ?_; (case k1T50 => k_asm); (case k2T50 => k_asm); (case k3T50 => k_asm); (case k4T50 => k_asm); (case k5T50 => k_asm); (case kKT50 => first | exact rfl | assumption); (case kdT50 => ((try simp only [depth_under_make, depth_under_kw, depth_in1, depth_deeper, depth_caller]); (try dsimp only [ktrTop]); omega)); (case kuT50 => ((try simp only [units_in1, units_deeper, Around.mark_units, units_caller]); (try dsimp only [ktrTop]); omega))); intro v9zq n9zq h9zq tk9zq F9zq N9zq o9zq; (k_dflt (obtain ⟨e9zq, e8zq⟩ := o9zq; subst e9zq; subst e8zq)); (try dsimp only); (try k_sweep); (try k_fold)))) | (with_reducible ((k_here; (with_reducible show wpAny _ _ (call (Value.ref 174) _) _ _ _); k_dflt (refine' refused_yes ?BT49 ?FT49 ?XT49 ?NT49 ?TT49 ?hkT49 ?kdT49 ?kuT49 ?_; (case BT49 => k_asm); (case FT49 => k_asm); (case XT49 => k_asm); (case NT49 => k_asm); (case TT49 => k_asm); (case hkT49 => exact rfl); (case kdT49 => ((try simp only [depth_under_make, depth_under_kw, depth_in1, depth_deeper, depth_caller]); (try dsimp only [ktrTop]); omega)); (case kuT49 => ((try simp only [units_in1, units_deeper, Around.mark_units, units_caller]); (try dsimp only [ktrTop]); omega))); intro h9pzq tk9pzq F9pzq N9pzq; (try dsimp only); (try k_sweep); (try k_fold)))))) | ((with_reducible show PieceEl ..); ((exact pieceEl_of (by assumption) (by assumption) (by assumption)))) | (with_reducible (((with_reducible show wpAny _ _ (pyIter (Value.ref _)) (fun it s₂ => LoopAtV _ _ _ _ _ _ _ _ _ it s₂) _ _); k_here; (rename Fr _ _ _ _ => lFpzq); (rename News _ _ _ _ => lNpzq); (rename IsRange _ _ _ _ _ _ _ _ => rgXzq); (with_unfolding_all refine' loop_still (n := 64) [Str.ofString "code"] (by rfl) rgXzq (by decide) (by rfl) lFpzq lNpzq ?_ ?_); (all_goals (try clear lFpzq lNpzq)); (all_goals (first | (intro k9zq t9zq u9zq h9zq tk9zq own9zq lo9zq hi9zq off9zq F9zq N9zq; (try dsimp only at N9zq)) | (intro u9zq h9zq tk9zq F9zq N9zq))); (all_goals (try dsimp only)); (all_goals (try k_fold))))) | ((with_reducible show wpAny _ _ (compareOp CmpOp.NotEq (Value.ref ..) (Value.ref ..)) _ _ _); (with_reducible ((k_here; (with_reducible show wpAny _ _ (compareOp CmpOp.NotEq (Value.ref _) (Value.ref _)) _ _ _); k_dflt (refine' ne_told ?kaT58 ?kbT58 ?NT58 ?aT58 ?bT58 ?uT58 ?_; (case NT58 => k_asm); (case aT58 => k_mem); (case bT58 => k_mem); (case kaT58 => first | assumption | exact Int.fmod_nonneg_of_pos _ (by decide)); (case kbT58 => first | assumption | exact Int.fmod_lt_of_pos _ (by decide)); (case uT58 => ke_room)))))) | walk1)))))
  (first | ((with_reducible show wpAny _ _ (call (Value.builtin _) _) _ _ _); (with_reducible ((k_here; k_dflt (refine' join3_enc ?NT73 ?mT73 ?a1T73 ?a2T73 ?a3T73 ?a4T73 ?a5T73 ?a6T73 ?_; (case NT73 => k_asm); (case mT73 => k_mem); (case a1T73 => assumption); (case a2T73 => assumption); (case a3T73 => assumption); (case a4T73 => assumption); (case a5T73 => assumption); (case a6T73 => assumption); k_whole); intro t9zq k9zq)))) | ((with_reducible show wpAny _ _ (getMethod (Value.bytes ..) _ _) _ _ _); (with_reducible ((k_here; (with_reducible refine join_method ?_))))) | ((with_reducible show wpAny _ _ (compareOp CmpOp.NotEq (Value.bytes ..) (Value.bytes ..)) _ _ _); (with_reducible ((k_here; (with_reducible refine ne_same ?_))))) | (with_reducible ((k_here; (with_reducible show wpAny _ _ (binaryOp Operator.Add (Value.bytes _ _) (Value.bytes _ _)) _ _ _); k_dflt (refine' KBy.add_bytes ?zT70 ?_; (case zT70 => (rw [zeros_size]; decide)); k_whole); intro _ _))) | ((with_reducible show wpAny _ _ (call (Value.type _) _) _ _ _); (with_reducible ((k_here; (with_reducible show wpAny _ _ (call (Value.type "bytes") [Value.int _ _]) _ _ _); k_dflt (refine' call_bytes_count ?aT69 ?bT69 ?_; (case aT69 => decide); (case bT69 => decide); k_whole); intro t9zq k9zq)))) | ((with_reducible show wpAny _ _ (eval (PySem.Expr.ListComp ..) _) _ _ _); (with_reducible ((k_here; k_dflt (refine LCg.ListComp_U (F₀ := by k_asm) (by with_unfolding_all rfl) (by decide) (by rfl) (by decide) (by rfl) ?_))))) | ((with_reducible show LCg.FinE ..); (with_reducible (((unfold LCg.FinE); intro Dpzq hpzq tkpzq Fpzq Npzq o1pzq; clear o1pzq; (try simp only [List.nil_append, List.cons_append] at Npzq); (try dsimp only))))) | ((with_reducible show LCg.FinA ..); (with_reducible (((unfold LCg.FinA); intro Dpzq hpzq tkpzq Fpzq Npzq o1pzq; clear o1pzq; (try simp only [List.nil_append, List.cons_append] at Npzq); (try dsimp only))))) | ((with_reducible show LCg.CompRest ..); (with_reducible ((with_unfolding_all first | (refine LCg.CompRest.succ ?_; intro vpzq Ipzq oIpzq Cpzq oCpzq Dpzq mpzq hpzq tkpzq Epzq hvpzq hCpzq hxpzq Fpzq Npzq offpzq nepzq; clear nepzq; lcg_open hvpzq) | refine LCg.CompRest.zero ?_)))) | ((with_reducible show LCg.CompSrc ..); (with_reducible ((k_here; k_dflt (first | (refine' rows_src ?hdT64 ?hhT64 ?FT64 ?NT64 ?h1T64 ?h2T64 ?hrT64 ?_; (case hhT64 => rfl); (case FT64 => k_asm); (case NT64 => k_asm); (case hrT64 => assumption); (case hdT64 => assumption); (case h1T64 => k_mem); (case h2T64 => k_mem); intro g9pzq; refine' rows_rest ?kaT64 ?kbT64 ?kcT64 ?klT64 ?_ ?_; (case kaT64 => assumption); (case kbT64 => assumption); (case kcT64 => assumption); (case klT64 => omega); all_goals (first | (intro u1zq x1zq d1zq u2zq x2zq d2zq u3zq x3zq d3zq c1zq c2zq c3zq P1zq D1zq P2zq D2zq P3zq D3zq t11zq t21zq t31zq tc1zq tp1zq td1zq te1zq t12zq t22zq t32zq tc2zq tp2zq td2zq te2zq t13zq t23zq t33zq tc3zq tp3zq td3zq te3zq azq bzq tazq tbzq nzq h01zq h11zq hP1zq hD1zq h02zq h12zq hP2zq hD2zq h03zq h13zq hP3zq hD3zq; (try dsimp only)) | (intro ys9zq more9zq a9zq b9zq ta9zq tb9zq n9zq I9zq oI9zq C9zq oC9zq D9zq m9zq h9zq tk9zq E9zq ha9zq hb9zq hc9zq hC9zq F9zq N9zq off9zq))) | (refine LCg.CompSrc.ledger (by rfl) (by k_asm) (by k_asm) (by k_mem) (by exact Nat.le_of_ble_eq_true rfl) ?_; intro g9pzq; lcg_lit)))))) | ((with_reducible show wpAny _ _ (exec (PySem.Stmt.Assign ..) _) _ _ _); (with_reducible ((k_here; k_dflt (refine LCg.Assign_ListComp_U (F₀ := by k_asm) (by rfl) (by with_unfolding_all rfl) (by with_unfolding_all rfl) (by decide) (by rfl) (by decide) (by rfl) (by rfl) (by rfl) ?_))))) | ((with_reducible show wpAny _ _ (call (Value.ref _) _) _ _ _); (first | (with_reducible ((k_here; (with_reducible show wpAny _ _ (call (Value.ref 127) _) _ _ _); k_dflt (first | (refine' bytes_use (wpieces3_small _ _ _ ?a1T62 ?a2T62 ?a3T62 ?a4T62 ?b1T62 ?b2T62 ?b3T62 ?b4T62 ?c1T62 ?c2T62 ?c3T62 ?c4T62) ?ksT62 ?k1T62 ?k2T62 ?k3T62 ?k4T62 ?k5T62 ?kKT62 ?kdT62 ?kuT62 ?_; (case k1T62 => k_asm); (case k2T62 => k_asm); (case k3T62 => k_asm); (case k4T62 => k_asm); (case k5T62 => k_asm); (case kKT62 => first | exact rfl | assumption); (case ksT62 => lcg_sub); (case a1T62 => assumption); (case a2T62 => assumption); (case a3T62 => assumption); (case a4T62 => assumption); (case b1T62 => assumption); (case b2T62 => assumption); (case b3T62 => assumption); (case b4T62 => assumption); (case c1T62 => assumption); (case c2T62 => assumption); (case c3T62 => assumption); (case c4T62 => assumption); (case kdT62 => ((try simp only [depth_under_make, depth_under_kw, depth_in1, depth_deeper, depth_caller]); (try dsimp only [ktrTop]); omega)); (case kuT62 => ((try simp only [units_in1, units_deeper, Around.mark_units, units_caller]); (try dsimp only [ktrTop]); omega))) | (refine' bytes_use (wpieces1_big _ _ _) ?ksT62 ?k1T62 ?k2T62 ?k3T62 ?k4T62 ?k5T62 ?kKT62 ?kdT62 ?kuT62 ?_; (case k1T62 => k_asm); (case k2T62 => k_asm); (case k3T62 => k_asm); (case k4T62 => k_asm); (case k5T62 => k_asm); (case kKT62 => first | exact rfl | assumption); (case ksT62 => lcg_sub); (case kdT62 => ((try simp only [depth_under_make, depth_under_kw, depth_in1, depth_deeper, depth_caller]); (try dsimp only [ktrTop]); omega)); (case kuT62 => ((try simp only [units_in1, units_deeper, Around.mark_units, units_caller]); (try dsimp only [ktrTop]); omega)))); intro t9zq h9zq tk9zq F9zq N9zq; (try dsimp only); (try k_sweep); (try k_fold)))) | (with_reducible ((k_here; (with_reducible show wpAny _ _ (call (Value.ref 167) _) _ _ _); k_dflt ( refine' meet_use (piece_meets _ _ _ _ _ _ _ _ ?krT60 ?kaT60 ?kbT60 ?kcT60) ?k1T60 ?k2T60 ?k3T60 ?k4T60 ?k5T60 ?kKT60 ?kdT60 ?kuT60 ?_; (case k1T60 => k_asm); (case k2T60 => k_asm); (case k3T60 => k_asm); (case k4T60 => k_asm); (case k5T60 => k_asm); (case kKT60 => first | exact rfl | assumption); (case krT60 => assumption); (case kaT60 => assumption); (case kbT60 => assumption); (case kcT60 => assumption); (case kdT60 => ((try simp only [depth_under_make, depth_under_kw, depth_in1, depth_deeper, depth_caller]); (try dsimp only [ktrTop]); omega)); (case kuT60 => ((try simp only [units_in1, units_deeper, Around.mark_units, units_caller]); (try dsimp only [ktrTop]); omega))); intro v9zq n9zq h9zq tk9zq F9zq N9zq o9zq; (try dsimp only); (try k_fold)))) | (with_reducible ((k_here; (with_reducible show wpAny _ _ (call (Value.ref 162) _) _ _ _); k_dflt ( refine' meet_use (told_meets _ _ _ _ ?kaT57 ?kbT57) ?k1T57 ?k2T57 ?k3T57 ?k4T57 ?k5T57 ?kKT57 ?kdT57 ?kuT57 ?_; (case kaT57 => first | assumption | exact Int.fmod_nonneg_of_pos _ (by decide)); (case kbT57 => first | assumption | exact Int.fmod_lt_of_pos _ (by decide)); (case k1T57 => k_asm); (case k2T57 => k_asm); (case k3T57 => k_asm); (case k4T57 => k_asm); (case k5T57 => k_asm); (case kKT57 => first | exact rfl | assumption); (case kdT57 => ((try simp only [depth_under_make, depth_under_kw, depth_in1, depth_deeper, depth_caller]); (try dsimp only [ktrTop]); omega)); (case kuT57 => ((try simp only [units_in1, units_deeper, Around.mark_units, units_caller]); (try dsimp only [ktrTop]); omega))); intro v9zq n9zq h9zq tk9zq F9zq N9zq o9zq; (k_dflt (obtain ⟨r9zq, t9zq, m9zq, e9zq, e8zq⟩ := o9zq; subst e9zq; subst e8zq)); (try dsimp only); (try k_sweep); (try k_fold)))) | (with_reducible ((k_here; (with_reducible show wpAny _ _ (call (Value.ref 93) _) _ _ _); k_dflt ( refine' meet_use (has_meets _ _ _ _) ?k1T56 ?k2T56 ?k3T56 ?k4T56 ?k5T56 ?kKT56 ?kdT56 ?kuT56 ?_; (case k1T56 => k_asm); (case k2T56 => k_asm); (case k3T56 => k_asm); (case k4T56 => k_asm); (case k5T56 => k_asm); (case kKT56 => first | exact rfl | assumption); (case kdT56 => ((try simp only [depth_under_make, depth_under_kw, depth_in1, depth_deeper, depth_caller]); (try dsimp only [ktrTop]); omega)); (case kuT56 => ((try simp only [units_in1, units_deeper, Around.mark_units, units_caller]); (try dsimp only [ktrTop]); omega))); intro v9zq n9zq h9zq tk9zq F9zq N9zq o9zq; (k_dflt (obtain ⟨e9zq, e8zq⟩ := o9zq; subst e9zq; subst e8zq)); (try dsimp only); (try k_sweep); (try k_fold)))) | (with_reducible ((k_here; (with_reducible show wpAny _ _ (call (Value.ref 86) _) _ _ _); k_dflt ( refine' meet_use (restart_meets _ _ _ _) ?k1T55 ?k2T55 ?k3T55 ?k4T55 ?k5T55 ?kKT55 ?kdT55 ?kuT55 ?_; (case k1T55 => k_asm); (case k2T55 => k_asm); (case k3T55 => k_asm); (case k4T55 => k_asm); (case k5T55 => k_asm); (case kKT55 => first | exact rfl | assumption); (case kdT55 => ((try simp only [depth_under_make, depth_under_kw, depth_in1, depth_deeper, depth_caller]); (try dsimp only [ktrTop]); omega)); (case kuT55 => ((try simp only [units_in1, units_deeper, Around.mark_units, units_caller]); (try dsimp only [ktrTop]); omega))); intro v9zq n9zq h9zq tk9zq F9zq N9zq o9zq; (k_dflt (obtain ⟨e9zq, e8zq⟩ := o9zq; subst e9zq; subst e8zq)); (try dsimp only); (try k_sweep); (try k_fold)))) | (with_reducible ((k_here; (with_reducible show wpAny _ _ (call (Value.ref 79) _) _ _ _); k_dflt ( refine' meet_use (frame_meets _ _ _ _) ?k1T54 ?k2T54 ?k3T54 ?k4T54 ?k5T54 ?kKT54 ?kdT54 ?kuT54 ?_; (case k1T54 => k_asm); (case k2T54 => k_asm); (case k3T54 => k_asm); (case k4T54 => k_asm); (case k5T54 => k_asm); (case kKT54 => first | exact rfl | assumption); (case kdT54 => ((try simp only [depth_under_make, depth_under_kw, depth_in1, depth_deeper, depth_caller]); (try dsimp only [ktrTop]); omega)); (case kuT54 => ((try simp only [units_in1, units_deeper, Around.mark_units, units_caller]); (try dsimp only [ktrTop]); omega))); intro v9zq n9zq h9zq tk9zq F9zq N9zq o9zq; (k_dflt (obtain ⟨e9zq, e8zq⟩ := o9zq; subst e9zq; subst e8zq)); (try dsimp only); (try k_sweep); (try k_fold)))) | (with_reducible ((k_here; (with_reducible show wpAny _ _ (call (Value.ref 72) _) _ _ _); k_dflt ( refine' meet_use (name_meets _ _ _ _ ?kaT53 ?kbT53) ?k1T53 ?k2T53 ?k3T53 ?k4T53 ?k5T53 ?kKT53 ?kdT53 ?kuT53 ?_; (case kaT53 => first | assumption | exact Int.fmod_nonneg_of_pos _ (by decide)); (case kbT53 => first | assumption | exact Int.fmod_lt_of_pos _ (by decide)); (case k1T53 => k_asm); (case k2T53 => k_asm); (case k3T53 => k_asm); (case k4T53 => k_asm); (case k5T53 => k_asm); (case kKT53 => first | exact rfl | assumption); (case kdT53 => ((try simp only [depth_under_make, depth_under_kw, depth_in1, depth_deeper, depth_caller]); (try dsimp only [ktrTop]); omega)); (case kuT53 => ((try simp only [units_in1, units_deeper, Around.mark_units, units_caller]); (try dsimp only [ktrTop]); omega))); intro v9zq n9zq h9zq tk9zq F9zq N9zq o9zq; (k_dflt (obtain ⟨⟨t9zq, e9zq⟩, e8zq⟩ := o9zq; subst e9zq; subst e8zq)); (try dsimp only); (try k_sweep); (try k_fold)))) | (with_reducible ((k_here; (with_reducible show wpAny _ _ (call (Value.ref 134) _) _ _ _); k_dflt ( refine' seed_use ?klT52 ?kiT52 ?ktT52 ?k1T52 ?k2T52 ?k3T52 ?k4T52 ?k5T52 ?kKT52 ?kdT52 ?kuT52 ?_; (case klT52 => k_asm); (case kiT52 => l_ints); (case ktT52 => l_fit); (case k1T52 => k_asm); (case k2T52 => k_asm); (case k3T52 => k_asm); (case k4T52 => k_asm); (case k5T52 => k_asm); (case kKT52 => first | exact rfl | assumption); (case kdT52 => ((try simp only [depth_under_make, depth_under_kw, depth_in1, depth_deeper, depth_caller]); (try dsimp only [ktrTop]); omega)); (case kuT52 => ((try simp only [units_in1, units_deeper, Around.mark_units, units_caller]); (try dsimp only [ktrTop]); omega))); intro r9zq ta9zq tb9zq n9zq a9zq b9zq h9zq tk9zq F9zq N9zq l9zq ha9zq hb9zq hc9zq; (try k_lt l9zq); (try dsimp only); (try k_sweep); (try k_fold)))) | (with_reducible ((k_here; (with_reducible show wpAny _ _ (call (Value.ref 141) _) _ _ _); k_dflt ( refine' digit_use ?kUT51 ?kaT51 ?kbT51 ?kcT51 ?kmT51 ?knT51 ?k1T51 ?k2T51 ?k3T51 ?k4T51 ?k5T51 ?kKT51 ?kdT51 ?kuT51 ?_; (case k1T51 => k_asm); (case k2T51 => k_asm); (case k3T51 => k_asm); (case k4T51 => k_asm); (case kUT51 => k_updF); (case kaT51 => assumption); (case kbT51 => assumption); (case kcT51 => assumption); (case kmT51 => decide); (case knT51 => decide); (case k5T51 => k_asm); (case kKT51 => first | exact rfl | assumption); (case kdT51 => ((try simp only [depth_under_make, depth_under_kw, depth_in1, depth_deeper, depth_caller]); (try dsimp only [ktrTop]); omega)); (case kuT51 => ((try simp only [units_in1, units_deeper, Around.mark_units, units_caller]); (try dsimp only [ktrTop]); omega))); intro r9zq t9zq a9zq b9zq ta9zq tb9zq n9zq h9zq tk9zq lo9zq hi9zq ha9zq hb9zq hc9zq F9zq N9zq; (try dsimp only at N9zq); (try dsimp only); (try k_sweep); (try k_fold)))) | (with_reducible ((k_here; (with_reducible show wpAny _ _ (call (Value.ref 174) _) _ _ _); k_dflt ( refine' meet_use (refused_no _ _ _ _) ?k1T50 ?k2T50 ?k3T50 ?k4T50 ?k5T50 ?kKT50 ?kdT50 ?kuT50 ?_; (case k1T50 => k_asm); (case k2T50 => k_asm); (case k3T50 => k_asm); (case k4T50 => k_asm); (case k5T50 => k_asm); (case kKT50 => first | exact rfl | assumption); (case kdT50 => ((try simp only [depth_under_make, depth_under_kw, depth_in1, depth_deeper, depth_caller]); (try dsimp only [ktrTop]); omega)); (case kuT50 => ((try simp only [units_in1, units_deeper, Around.mark_units, units_caller]); (try dsimp only [ktrTop]); omega))); intro v9zq n9zq h9zq tk9zq F9zq N9zq o9zq; (k_dflt (obtain ⟨e9zq, e8zq⟩ := o9zq; subst e9zq; subst e8zq)); (try dsimp only); (try k_sweep); (try k_fold)))) | (with_reducible ((k_here; (with_reducible show wpAny _ _ (call (Value.ref 174) _) _ _ _); k_dflt (refine' refused_yes ?BT49 ?FT49 ?XT49 ?NT49 ?TT49 ?hkT49 ?kdT49 ?kuT49 ?_; (case BT49 => k_asm); (case FT49 => k_asm); (case XT49 => k_asm); (case NT49 => k_asm); (case TT49 => k_asm); (case hkT49 => exact rfl); (case kdT49 => ((try simp only [depth_under_make, depth_under_kw, depth_in1, depth_deeper, depth_caller]); (try dsimp only [ktrTop]); omega)); (case kuT49 => ((try simp only [units_in1, units_deeper, Around.mark_units, units_caller]); (try dsimp only [ktrTop]); omega))); intro h9pzq tk9pzq F9pzq N9pzq; (try dsimp only); (try k_sweep); (try k_fold)))))) | ((with_reducible show PieceEl ..); ((exact pieceEl_of (by assumption) (by assumption) (by assumption)))) | (with_reducible (((with_reducible show wpAny _ _ (pyIter (Value.ref _)) (fun it s₂ => LoopAtV _ _ _ _ _ _ _ _ _ it s₂) _ _); k_here; (rename Fr _ _ _ _ => lFpzq); (rename News _ _ _ _ => lNpzq); (rename IsRange _ _ _ _ _ _ _ _ => rgXzq); (with_unfolding_all refine' loop_still (n := 64) [Str.ofString "code"] (by rfl) rgXzq (by decide) (by rfl) lFpzq lNpzq ?_ ?_); (all_goals (try clear lFpzq lNpzq)); (all_goals (first | (intro k9zq t9zq u9zq h9zq tk9zq own9zq lo9zq hi9zq off9zq F9zq N9zq; (try dsimp only at N9zq)) | (intro u9zq h9zq tk9zq F9zq N9zq))); (all_goals (try dsimp only)); (all_goals (try k_fold))))) | ((with_reducible show wpAny _ _ (compareOp CmpOp.NotEq (Value.ref ..) (Value.ref ..)) _ _ _); (with_reducible ((k_here; (with_reducible show wpAny _ _ (compareOp CmpOp.NotEq (Value.ref _) (Value.ref _)) _ _ _); k_dflt (refine' ne_told ?kaT58 ?kbT58 ?NT58 ?aT58 ?bT58 ?uT58 ?_; (case NT58 => k_asm); (case aT58 => k_mem); (case bT58 => k_mem); (case kaT58 => first | assumption | exact Int.fmod_nonneg_of_pos _ (by decide)); (case kbT58 => first | assumption | exact Int.fmod_lt_of_pos _ (by decide)); (case uT58 => ke_room)))))) | walk1)
  · (repeat' (first | ((with_reducible show GoodW _ _ _ _ _ (Except.ok (Flow.ret (Value.bool !false))) _); (exact law_good (by with_reducible assumption) (by first | with_reducible assumption | assumption) rfl)) | (k_unfold; (try dsimp only)) | (k_end; wrow_close) | ((with_reducible show wpAny _ _ (call (Value.builtin _) _) _ _ _); (with_reducible ((k_here; k_dflt (refine' join3_enc ?NT73 ?mT73 ?a1T73 ?a2T73 ?a3T73 ?a4T73 ?a5T73 ?a6T73 ?_; (case NT73 => k_asm); (case mT73 => k_mem); (case a1T73 => assumption); (case a2T73 => assumption); (case a3T73 => assumption); (case a4T73 => assumption); (case a5T73 => assumption); (case a6T73 => assumption); k_whole); intro t9zq k9zq)))) | ((with_reducible show wpAny _ _ (getMethod (Value.bytes ..) _ _) _ _ _); (with_reducible ((k_here; (with_reducible refine join_method ?_))))) | ((with_reducible show wpAny _ _ (compareOp CmpOp.NotEq (Value.bytes ..) (Value.bytes ..)) _ _ _); (with_reducible ((k_here; (with_reducible refine ne_same ?_))))) | (with_reducible ((k_here; (with_reducible show wpAny _ _ (binaryOp Operator.Add (Value.bytes _ _) (Value.bytes _ _)) _ _ _); k_dflt (refine' KBy.add_bytes ?zT70 ?_; (case zT70 => (rw [zeros_size]; decide)); k_whole); intro _ _))) | ((with_reducible show wpAny _ _ (call (Value.type _) _) _ _ _); (with_reducible ((k_here; (with_reducible show wpAny _ _ (call (Value.type "bytes") [Value.int _ _]) _ _ _); k_dflt (refine' call_bytes_count ?aT69 ?bT69 ?_; (case aT69 => decide); (case bT69 => decide); k_whole); intro t9zq k9zq)))) | ((with_reducible show wpAny _ _ (eval (PySem.Expr.ListComp ..) _) _ _ _); (with_reducible ((k_here; k_dflt (refine LCg.ListComp_U (F₀ := by k_asm) (by with_unfolding_all rfl) (by decide) (by rfl) (by decide) (by rfl) ?_))))) | ((with_reducible show LCg.FinE ..); (with_reducible (((unfold LCg.FinE); intro Dpzq hpzq tkpzq Fpzq Npzq o1pzq; clear o1pzq; (try simp only [List.nil_append, List.cons_append] at Npzq); (try dsimp only))))) | ((with_reducible show LCg.FinA ..); (with_reducible (((unfold LCg.FinA); intro Dpzq hpzq tkpzq Fpzq Npzq o1pzq; clear o1pzq; (try simp only [List.nil_append, List.cons_append] at Npzq); (try dsimp only))))) | ((with_reducible show LCg.CompRest ..); (with_reducible ((with_unfolding_all first | (refine LCg.CompRest.succ ?_; intro vpzq Ipzq oIpzq Cpzq oCpzq Dpzq mpzq hpzq tkpzq Epzq hvpzq hCpzq hxpzq Fpzq Npzq offpzq nepzq; clear nepzq; lcg_open hvpzq) | refine LCg.CompRest.zero ?_)))) | ((with_reducible show LCg.CompSrc ..); (with_reducible ((k_here; k_dflt (first | (refine' rows_src ?hdT64 ?hhT64 ?FT64 ?NT64 ?h1T64 ?h2T64 ?hrT64 ?_; (case hhT64 => rfl); (case FT64 => k_asm); (case NT64 => k_asm); (case hrT64 => assumption); (case hdT64 => assumption); (case h1T64 => k_mem); (case h2T64 => k_mem); intro g9pzq; refine' rows_rest ?kaT64 ?kbT64 ?kcT64 ?klT64 ?_ ?_; (case kaT64 => assumption); (case kbT64 => assumption); (case kcT64 => assumption); (case klT64 => omega); all_goals (first | (intro u1zq x1zq d1zq u2zq x2zq d2zq u3zq x3zq d3zq c1zq c2zq c3zq P1zq D1zq P2zq D2zq P3zq D3zq t11zq t21zq t31zq tc1zq tp1zq td1zq te1zq t12zq t22zq t32zq tc2zq tp2zq td2zq te2zq t13zq t23zq t33zq tc3zq tp3zq td3zq te3zq azq bzq tazq tbzq nzq h01zq h11zq hP1zq hD1zq h02zq h12zq hP2zq hD2zq h03zq h13zq hP3zq hD3zq; (try dsimp only)) | (intro ys9zq more9zq a9zq b9zq ta9zq tb9zq n9zq I9zq oI9zq C9zq oC9zq D9zq m9zq h9zq tk9zq E9zq ha9zq hb9zq hc9zq hC9zq F9zq N9zq off9zq))) | (refine LCg.CompSrc.ledger (by rfl) (by k_asm) (by k_asm) (by k_mem) (by exact Nat.le_of_ble_eq_true rfl) ?_; intro g9pzq; lcg_lit)))))) | ((with_reducible show wpAny _ _ (exec (PySem.Stmt.Assign ..) _) _ _ _); (with_reducible ((k_here; k_dflt (refine LCg.Assign_ListComp_U (F₀ := by k_asm) (by rfl) (by with_unfolding_all rfl) (by with_unfolding_all rfl) (by decide) (by rfl) (by decide) (by rfl) (by rfl) (by rfl) ?_))))) | ((with_reducible show wpAny _ _ (call (Value.ref _) _) _ _ _); (first | (with_reducible ((k_here; (with_reducible show wpAny _ _ (call (Value.ref 127) _) _ _ _); k_dflt (first | (refine' bytes_use (wpieces3_small _ _ _ ?a1T62 ?a2T62 ?a3T62 ?a4T62 ?b1T62 ?b2T62 ?b3T62 ?b4T62 ?c1T62 ?c2T62 ?c3T62 ?c4T62) ?ksT62 ?k1T62 ?k2T62 ?k3T62 ?k4T62 ?k5T62 ?kKT62 ?kdT62 ?kuT62 ?_; (case k1T62 => k_asm); (case k2T62 => k_asm); (case k3T62 => k_asm); (case k4T62 => k_asm); (case k5T62 => k_asm); (case kKT62 => first | exact rfl | assumption); (case ksT62 => lcg_sub); (case a1T62 => assumption); (case a2T62 => assumption); (case a3T62 => assumption); (case a4T62 => assumption); (case b1T62 => assumption); (case b2T62 => assumption); (case b3T62 => assumption); (case b4T62 => assumption); (case c1T62 => assumption); (case c2T62 => assumption); (case c3T62 => assumption); (case c4T62 => assumption); (case kdT62 => ((try simp only [depth_under_make, depth_under_kw, depth_in1, depth_deeper, depth_caller]); (try dsimp only [ktrTop]); omega)); (case kuT62 => ((try simp only [units_in1, units_deeper, Around.mark_units, units_caller]); (try dsimp only [ktrTop]); omega))) | (refine' bytes_use (wpieces1_big _ _ _) ?ksT62 ?k1T62 ?k2T62 ?k3T62 ?k4T62 ?k5T62 ?kKT62 ?kdT62 ?kuT62 ?_; (case k1T62 => k_asm); (case k2T62 => k_asm); (case k3T62 => k_asm); (case k4T62 => k_asm); (case k5T62 => k_asm); (case kKT62 => first | exact rfl | assumption); (case ksT62 => lcg_sub); (case kdT62 => ((try simp only [depth_under_make, depth_under_kw, depth_in1, depth_deeper, depth_caller]); (try dsimp only [ktrTop]); omega)); (case kuT62 => ((try simp only [units_in1, units_deeper, Around.mark_units, units_caller]); (try dsimp only [ktrTop]); omega)))); intro t9zq h9zq tk9zq F9zq N9zq; (try dsimp only); (try k_sweep); (try k_fold)))) | (with_reducible ((k_here; (with_reducible show wpAny _ _ (call (Value.ref 167) _) _ _ _); k_dflt ( refine' meet_use (piece_meets _ _ _ _ _ _ _ _ ?krT60 ?kaT60 ?kbT60 ?kcT60) ?k1T60 ?k2T60 ?k3T60 ?k4T60 ?k5T60 ?kKT60 ?kdT60 ?kuT60 ?_; (case k1T60 => k_asm); (case k2T60 => k_asm); (case k3T60 => k_asm); (case k4T60 => k_asm); (case k5T60 => k_asm); (case kKT60 => first | exact rfl | assumption); (case krT60 => assumption); (case kaT60 => assumption); (case kbT60 => assumption); (case kcT60 => assumption); (case kdT60 => ((try simp only [depth_under_make, depth_under_kw, depth_in1, depth_deeper, depth_caller]); (try dsimp only [ktrTop]); omega)); (case kuT60 => ((try simp only [units_in1, units_deeper, Around.mark_units, units_caller]); (try dsimp only [ktrTop]); omega))); intro v9zq n9zq h9zq tk9zq F9zq N9zq o9zq; (try dsimp only); (try k_fold)))) | (with_reducible ((k_here; (with_reducible show wpAny _ _ (call (Value.ref 162) _) _ _ _); k_dflt ( refine' meet_use (told_meets _ _ _ _ ?kaT57 ?kbT57) ?k1T57 ?k2T57 ?k3T57 ?k4T57 ?k5T57 ?kKT57 ?kdT57 ?kuT57 ?_; (case kaT57 => first | assumption | exact Int.fmod_nonneg_of_pos _ (by decide)); (case kbT57 => first | assumption | exact Int.fmod_lt_of_pos _ (by decide)); (case k1T57 => k_asm); (case k2T57 => k_asm); (case k3T57 => k_asm); (case k4T57 => k_asm); (case k5T57 => k_asm); (case kKT57 => first | exact rfl | assumption); (case kdT57 => ((try simp only [depth_under_make, depth_under_kw, depth_in1, depth_deeper, depth_caller]); (try dsimp only [ktrTop]); omega)); (case kuT57 => ((try simp only [units_in1, units_deeper, Around.mark_units, units_caller]); (try dsimp only [ktrTop]); omega))); intro v9zq n9zq h9zq tk9zq F9zq N9zq o9zq; (k_dflt (obtain ⟨r9zq, t9zq, m9zq, e9zq, e8zq⟩ := o9zq; subst e9zq; subst e8zq)); (try dsimp only); (try k_sweep); (try k_fold)))) | (with_reducible ((k_here; (with_reducible show wpAny _ _ (call (Value.ref 93) _) _ _ _); k_dflt ( refine' meet_use (has_meets _ _ _ _) ?k1T56 ?k2T56 ?k3T56 ?k4T56 ?k5T56 ?kKT56 ?kdT56 ?kuT56 ?_; (case k1T56 => k_asm); (case k2T56 => k_asm); (case k3T56 => k_asm); (case k4T56 => k_asm); (case k5T56 => k_asm); (case kKT56 => first | exact rfl | assumption); (case kdT56 => ((try simp only [depth_under_make, depth_under_kw, depth_in1, depth_deeper, depth_caller]); (try dsimp only [ktrTop]); omega)); (case kuT56 => ((try simp only [units_in1, units_deeper, Around.mark_units, units_caller]); (try dsimp only [ktrTop]); omega))); intro v9zq n9zq h9zq tk9zq F9zq N9zq o9zq; (k_dflt (obtain ⟨e9zq, e8zq⟩ := o9zq; subst e9zq; subst e8zq)); (try dsimp only); (try k_sweep); (try k_fold)))) | (with_reducible ((k_here; (with_reducible show wpAny _ _ (call (Value.ref 86) _) _ _ _); k_dflt ( refine' meet_use (restart_meets _ _ _ _) ?k1T55 ?k2T55 ?k3T55 ?k4T55 ?k5T55 ?kKT55 ?kdT55 ?kuT55 ?_; (case k1T55 => k_asm); (case k2T55 => k_asm); (case k3T55 => k_asm); (case k4T55 => k_asm); (case k5T55 => k_asm); (case kKT55 => first | exact rfl | assumption); (case kdT55 => ((try simp only [depth_under_make, depth_under_kw, depth_in1, depth_deeper, depth_caller]); (try dsimp only [ktrTop]); omega)); (case kuT55 => ((try simp only [units_in1, units_deeper, Around.mark_units, units_caller]); (try dsimp only [ktrTop]); omega))); intro v9zq n9zq h9zq tk9zq F9zq N9zq o9zq; (k_dflt (obtain ⟨e9zq, e8zq⟩ := o9zq; subst e9zq; subst e8zq)); (try dsimp only); (try k_sweep); (try k_fold)))) | (with_reducible ((k_here; (with_reducible show wpAny _ _ (call (Value.ref 79) _) _ _ _); k_dflt ( refine' meet_use (frame_meets _ _ _ _) ?k1T54 ?k2T54 ?k3T54 ?k4T54 ?k5T54 ?kKT54 ?kdT54 ?kuT54 ?_; (case k1T54 => k_asm); (case k2T54 => k_asm); (case k3T54 => k_asm); (case k4T54 => k_asm); (case k5T54 => k_asm); (case kKT54 => first | exact rfl | assumption); (case kdT54 => ((try simp only [depth_under_make, depth_under_kw, depth_in1, depth_deeper, depth_caller]); (try dsimp only [ktrTop]); omega)); (case kuT54 => ((try simp only [units_in1, units_deeper, Around.mark_units, units_caller]); (try dsimp only [ktrTop]); omega))); intro v9zq n9zq h9zq tk9zq F9zq N9zq o9zq; (k_dflt (obtain ⟨e9zq, e8zq⟩ := o9zq; subst e9zq; subst e8zq)); (try dsimp only); (try k_sweep); (try k_fold)))) | (with_reducible ((k_here; (with_reducible show wpAny _ _ (call (Value.ref 72) _) _ _ _); k_dflt ( refine' meet_use (name_meets _ _ _ _ ?kaT53 ?kbT53) ?k1T53 ?k2T53 ?k3T53 ?k4T53 ?k5T53 ?kKT53 ?kdT53 ?kuT53 ?_; (case kaT53 => first | assumption | exact Int.fmod_nonneg_of_pos _ (by decide)); (case kbT53 => first | assumption | exact Int.fmod_lt_of_pos _ (by decide)); (case k1T53 => k_asm); (case k2T53 => k_asm); (case k3T53 => k_asm); (case k4T53 => k_asm); (case k5T53 => k_asm); (case kKT53 => first | exact rfl | assumption); (case kdT53 => ((try simp only [depth_under_make, depth_under_kw, depth_in1, depth_deeper, depth_caller]); (try dsimp only [ktrTop]); omega)); (case kuT53 => ((try simp only [units_in1, units_deeper, Around.mark_units, units_caller]); (try dsimp only [ktrTop]); omega))); intro v9zq n9zq h9zq tk9zq F9zq N9zq o9zq; (k_dflt (obtain ⟨⟨t9zq, e9zq⟩, e8zq⟩ := o9zq; subst e9zq; subst e8zq)); (try dsimp only); (try k_sweep); (try k_fold)))) | (with_reducible ((k_here; (with_reducible show wpAny _ _ (call (Value.ref 134) _) _ _ _); k_dflt ( refine' seed_use ?klT52 ?kiT52 ?ktT52 ?k1T52 ?k2T52 ?k3T52 ?k4T52 ?k5T52 ?kKT52 ?kdT52 ?kuT52 ?_; (case klT52 => k_asm); (case kiT52 => l_ints); (case ktT52 => l_fit); (case k1T52 => k_asm); (case k2T52 => k_asm); (case k3T52 => k_asm); (case k4T52 => k_asm); (case k5T52 => k_asm); (case kKT52 => first | exact rfl | assumption); (case kdT52 => ((try simp only [depth_under_make, depth_under_kw, depth_in1, depth_deeper, depth_caller]); (try dsimp only [ktrTop]); omega)); (case kuT52 => ((try simp only [units_in1, units_deeper, Around.mark_units, units_caller]); (try dsimp only [ktrTop]); omega))); intro r9zq ta9zq tb9zq n9zq a9zq b9zq h9zq tk9zq F9zq N9zq l9zq ha9zq hb9zq hc9zq; (try k_lt l9zq); (try dsimp only); (try k_sweep); (try k_fold)))) | (with_reducible ((k_here; (with_reducible show wpAny _ _ (call (Value.ref 141) _) _ _ _); k_dflt ( refine' digit_use ?kUT51 ?kaT51 ?kbT51 ?kcT51 ?kmT51 ?knT51 ?k1T51 ?k2T51 ?k3T51 ?k4T51 ?k5T51 ?kKT51 ?kdT51 ?kuT51 ?_; (case k1T51 => k_asm); (case k2T51 => k_asm); (case k3T51 => k_asm); (case k4T51 => k_asm); (case kUT51 => k_updF); (case kaT51 => assumption); (case kbT51 => assumption); (case kcT51 => assumption); (case kmT51 => decide); (case knT51 => decide); (case k5T51 => k_asm); (case kKT51 => first | exact rfl | assumption); (case kdT51 => ((try simp only [depth_under_make, depth_under_kw, depth_in1, depth_deeper, depth_caller]); (try dsimp only [ktrTop]); omega)); (case kuT51 => ((try simp only [units_in1, units_deeper, Around.mark_units, units_caller]); (try dsimp only [ktrTop]); omega))); intro r9zq t9zq a9zq b9zq ta9zq tb9zq n9zq h9zq tk9zq lo9zq hi9zq ha9zq hb9zq hc9zq F9zq N9zq; (try dsimp only at N9zq); (try dsimp only); (try k_sweep); (try k_fold)))) | (with_reducible ((k_here; (with_reducible show wpAny _ _ (call (Value.ref 174) _) _ _ _); k_dflt ( refine' meet_use (refused_no _ _ _ _) ?k1T50 ?k2T50 ?k3T50 ?k4T50 ?k5T50 ?kKT50 ?kdT50 ?kuT50 ?_; (case k1T50 => k_asm); (case k2T50 => k_asm); (case k3T50 => k_asm); (case k4T50 => k_asm); (case k5T50 => k_asm); (case kKT50 => first | exact rfl | assumption); (case kdT50 => ((try simp only [depth_under_make, depth_under_kw, depth_in1, depth_deeper, depth_caller]); (try dsimp only [ktrTop]); omega)); (case kuT50 => ((try simp only [units_in1, units_deeper, Around.mark_units, units_caller]); (try dsimp only [ktrTop]); omega))); intro v9zq n9zq h9zq tk9zq F9zq N9zq o9zq; (k_dflt (obtain ⟨e9zq, e8zq⟩ := o9zq; subst e9zq; subst e8zq)); (try dsimp only); (try k_sweep); (try k_fold)))) | (with_reducible ((k_here; (with_reducible show wpAny _ _ (call (Value.ref 174) _) _ _ _); k_dflt (refine' refused_yes ?BT49 ?FT49 ?XT49 ?NT49 ?TT49 ?hkT49 ?kdT49 ?kuT49 ?_; (case BT49 => k_asm); (case FT49 => k_asm); (case XT49 => k_asm); (case NT49 => k_asm); (case TT49 => k_asm); (case hkT49 => exact rfl); (case kdT49 => ((try simp only [depth_under_make, depth_under_kw, depth_in1, depth_deeper, depth_caller]); (try dsimp only [ktrTop]); omega)); (case kuT49 => ((try simp only [units_in1, units_deeper, Around.mark_units, units_caller]); (try dsimp only [ktrTop]); omega))); intro h9pzq tk9pzq F9pzq N9pzq; (try dsimp only); (try k_sweep); (try k_fold)))))) | ((with_reducible show PieceEl ..); ((exact pieceEl_of (by assumption) (by assumption) (by assumption)))) | (with_reducible (((with_reducible show wpAny _ _ (pyIter (Value.ref _)) (fun it s₂ => LoopAtV _ _ _ _ _ _ _ _ _ it s₂) _ _); k_here; (rename Fr _ _ _ _ => lFpzq); (rename News _ _ _ _ => lNpzq); (rename IsRange _ _ _ _ _ _ _ _ => rgXzq); (with_unfolding_all refine' loop_still (n := 64) [Str.ofString "code"] (by rfl) rgXzq (by decide) (by rfl) lFpzq lNpzq ?_ ?_); (all_goals (try clear lFpzq lNpzq)); (all_goals (first | (intro k9zq t9zq u9zq h9zq tk9zq own9zq lo9zq hi9zq off9zq F9zq N9zq; (try dsimp only at N9zq)) | (intro u9zq h9zq tk9zq F9zq N9zq))); (all_goals (try dsimp only)); (all_goals (try k_fold))))) | ((with_reducible show wpAny _ _ (compareOp CmpOp.NotEq (Value.ref ..) (Value.ref ..)) _ _ _); (with_reducible ((k_here; (with_reducible show wpAny _ _ (compareOp CmpOp.NotEq (Value.ref _) (Value.ref _)) _ _ _); k_dflt (refine' ne_told ?kaT58 ?kbT58 ?NT58 ?aT58 ?bT58 ?uT58 ?_; (case NT58 => k_asm); (case aT58 => k_mem); (case bT58 => k_mem); (case kaT58 => first | assumption | exact Int.fmod_nonneg_of_pos _ (by decide)); (case kbT58 => first | assumption | exact Int.fmod_lt_of_pos _ (by decide)); (case uT58 => ke_room)))))) | walk1 | (dsimp only; (first | ((with_reducible show wpAny _ _ (call (Value.builtin _) _) _ _ _); (with_reducible ((k_here; k_dflt (refine' join3_enc ?NT73 ?mT73 ?a1T73 ?a2T73 ?a3T73 ?a4T73 ?a5T73 ?a6T73 ?_; (case NT73 => k_asm); (case mT73 => k_mem); (case a1T73 => assumption); (case a2T73 => assumption); (case a3T73 => assumption); (case a4T73 => assumption); (case a5T73 => assumption); (case a6T73 => assumption); k_whole); intro t9zq k9zq)))) | ((with_reducible show wpAny _ _ (getMethod (Value.bytes ..) _ _) _ _ _); (with_reducible ((k_here; (with_reducible refine join_method ?_))))) | ((with_reducible show wpAny _ _ (compareOp CmpOp.NotEq (Value.bytes ..) (Value.bytes ..)) _ _ _); (with_reducible ((k_here; (with_reducible refine ne_same ?_))))) | (with_reducible ((k_here; (with_reducible show wpAny _ _ (binaryOp Operator.Add (Value.bytes _ _) (Value.bytes _ _)) _ _ _); k_dflt (refine' KBy.add_bytes ?zT70 ?_; (case zT70 => (rw [zeros_size]; decide)); k_whole); intro _ _))) | ((with_reducible show wpAny _ _ (call (Value.type _) _) _ _ _); (with_reducible ((k_here; (with_reducible show wpAny _ _ (call (Value.type "bytes") [Value.int _ _]) _ _ _); k_dflt (refine' call_bytes_count ?aT69 ?bT69 ?_; (case aT69 => decide); (case bT69 => decide); k_whole); intro t9zq k9zq)))) | ((with_reducible show wpAny _ _ (eval (PySem.Expr.ListComp ..) _) _ _ _); (with_reducible ((k_here; k_dflt (refine LCg.ListComp_U (F₀ := by k_asm) (by with_unfolding_all rfl) (by decide) (by rfl) (by decide) (by rfl) ?_))))) | ((with_reducible show LCg.FinE ..); (with_reducible (((unfold LCg.FinE); intro Dpzq hpzq tkpzq Fpzq Npzq o1pzq; clear o1pzq; (try simp only [List.nil_append, List.cons_append] at Npzq); (try dsimp only))))) | ((with_reducible show LCg.FinA ..); (with_reducible (((unfold LCg.FinA); intro Dpzq hpzq tkpzq Fpzq Npzq o1pzq; clear o1pzq; (try simp only [List.nil_append, List.cons_append] at Npzq); (try dsimp only))))) | ((with_reducible show LCg.CompRest ..); (with_reducible ((with_unfolding_all first | (refine LCg.CompRest.succ ?_; intro vpzq Ipzq oIpzq Cpzq oCpzq Dpzq mpzq hpzq tkpzq Epzq hvpzq hCpzq hxpzq Fpzq Npzq offpzq nepzq; clear nepzq; lcg_open hvpzq) | refine LCg.CompRest.zero ?_)))) | ((with_reducible show LCg.CompSrc ..); (with_reducible ((k_here; k_dflt (first | (refine' rows_src ?hdT64 ?hhT64 ?FT64 ?NT64 ?h1T64 ?h2T64 ?hrT64 ?_; (case hhT64 => rfl); (case FT64 => k_asm); (case NT64 => k_asm); (case hrT64 => assumption); (case hdT64 => assumption); (case h1T64 => k_mem); (case h2T64 => k_mem); intro g9pzq; refine' rows_rest ?kaT64 ?kbT64 ?kcT64 ?klT64 ?_ ?_; (case kaT64 => assumption); (case kbT64 => assumption); (case kcT64 => assumption); (case klT64 => omega); all_goals (first | (intro u1zq x1zq d1zq u2zq x2zq d2zq u3zq x3zq d3zq c1zq c2zq c3zq P1zq D1zq P2zq D2zq P3zq D3zq t11zq t21zq t31zq tc1zq tp1zq td1zq te1zq t12zq t22zq t32zq tc2zq tp2zq td2zq te2zq t13zq t23zq t33zq tc3zq tp3zq td3zq te3zq azq bzq tazq tbzq nzq h01zq h11zq hP1zq hD1zq h02zq h12zq hP2zq hD2zq h03zq h13zq hP3zq hD3zq; (try dsimp only)) | (intro ys9zq more9zq a9zq b9zq ta9zq tb9zq n9zq I9zq oI9zq C9zq oC9zq D9zq m9zq h9zq tk9zq E9zq ha9zq hb9zq hc9zq hC9zq F9zq N9zq off9zq))) | (refine LCg.CompSrc.ledger (by rfl) (by k_asm) (by k_asm) (by k_mem) (by exact Nat.le_of_ble_eq_true rfl) ?_; intro g9pzq; lcg_lit)))))) | ((with_reducible show wpAny _ _ (exec (PySem.Stmt.Assign ..) _) _ _ _); (with_reducible ((k_here; k_dflt (refine LCg.Assign_ListComp_U (F₀ := by k_asm) (by rfl) (by with_unfolding_all rfl) (by with_unfolding_all rfl) (by decide) (by rfl) (by decide) (by rfl) (by rfl) (by rfl) ?_))))) | ((with_reducible show wpAny _ _ (call (Value.ref _) _) _ _ _); (first | (with_reducible ((k_here; (with_reducible show wpAny _ _ (call (Value.ref 127) _) _ _ _); k_dflt (first | (refine' bytes_use (wpieces3_small _ _ _ ?a1T62 ?a2T62 ?a3T62 ?a4T62 ?b1T62 ?b2T62 ?b3T62 ?b4T62 ?c1T62 ?c2T62 ?c3T62 ?c4T62) ?ksT62 ?k1T62 ?k2T62 ?k3T62 ?k4T62 ?k5T62 ?kKT62 ?kdT62 ?kuT62 ?_; (case k1T62 => k_asm); (case k2T62 => k_asm); (case k3T62 => k_asm); (case k4T62 => k_asm); (case k5T62 => k_asm); (case kKT62 => first | exact rfl | assumption); (case ksT62 => lcg_sub); (case a1T62 => assumption); (case a2T62 => assumption); (case a3T62 => assumption); (case a4T62 => assumption); (case b1T62 => assumption); (case b2T62 => assumption); (case b3T62 => assumption); (case b4T62 => assumption); (case c1T62 => assumption); (case c2T62 => assumption); (case c3T62 => assumption); (case c4T62 => assumption); (case kdT62 => ((try simp only [depth_under_make, depth_under_kw, depth_in1, depth_deeper, depth_caller]); (try dsimp only [ktrTop]); omega)); (case kuT62 => ((try simp only [units_in1, units_deeper, Around.mark_units, units_caller]); (try dsimp only [ktrTop]); omega))) | (refine' bytes_use (wpieces1_big _ _ _) ?ksT62 ?k1T62 ?k2T62 ?k3T62 ?k4T62 ?k5T62 ?kKT62 ?kdT62 ?kuT62 ?_; (case k1T62 => k_asm); (case k2T62 => k_asm); (case k3T62 => k_asm); (case k4T62 => k_asm); (case k5T62 => k_asm); (case kKT62 => first | exact rfl | assumption); (case ksT62 => lcg_sub); (case kdT62 => ((try simp only [depth_under_make, depth_under_kw, depth_in1, depth_deeper, depth_caller]); (try dsimp only [ktrTop]); omega)); (case kuT62 => ((try simp only [units_in1, units_deeper, Around.mark_units, units_caller]); (try dsimp only [ktrTop]); omega)))); intro t9zq h9zq tk9zq F9zq N9zq; (try dsimp only); (try k_sweep); (try k_fold)))) | (with_reducible ((k_here; (with_reducible show wpAny _ _ (call (Value.ref 167) _) _ _ _); k_dflt ( refine' meet_use (piece_meets _ _ _ _ _ _ _ _ ?krT60 ?kaT60 ?kbT60 ?kcT60) ?k1T60 ?k2T60 ?k3T60 ?k4T60 ?k5T60 ?kKT60 ?kdT60 ?kuT60 ?_; (case k1T60 => k_asm); (case k2T60 => k_asm); (case k3T60 => k_asm); (case k4T60 => k_asm); (case k5T60 => k_asm); (case kKT60 => first | exact rfl | assumption); (case krT60 => assumption); (case kaT60 => assumption); (case kbT60 => assumption); (case kcT60 => assumption); (case kdT60 => ((try simp only [depth_under_make, depth_under_kw, depth_in1, depth_deeper, depth_caller]); (try dsimp only [ktrTop]); omega)); (case kuT60 => ((try simp only [units_in1, units_deeper, Around.mark_units, units_caller]); (try dsimp only [ktrTop]); omega))); intro v9zq n9zq h9zq tk9zq F9zq N9zq o9zq; (try dsimp only); (try k_fold)))) | (with_reducible ((k_here; (with_reducible show wpAny _ _ (call (Value.ref 162) _) _ _ _); k_dflt ( refine' meet_use (told_meets _ _ _ _ ?kaT57 ?kbT57) ?k1T57 ?k2T57 ?k3T57 ?k4T57 ?k5T57 ?kKT57 ?kdT57 ?kuT57 ?_; (case kaT57 => first | assumption | exact Int.fmod_nonneg_of_pos _ (by decide)); (case kbT57 => first | assumption | exact Int.fmod_lt_of_pos _ (by decide)); (case k1T57 => k_asm); (case k2T57 => k_asm); (case k3T57 => k_asm); (case k4T57 => k_asm); (case k5T57 => k_asm); (case kKT57 => first | exact rfl | assumption); (case kdT57 => ((try simp only [depth_under_make, depth_under_kw, depth_in1, depth_deeper, depth_caller]); (try dsimp only [ktrTop]); omega)); (case kuT57 => ((try simp only [units_in1, units_deeper, Around.mark_units, units_caller]); (try dsimp only [ktrTop]); omega))); intro v9zq n9zq h9zq tk9zq F9zq N9zq o9zq; (k_dflt (obtain ⟨r9zq, t9zq, m9zq, e9zq, e8zq⟩ := o9zq; subst e9zq; subst e8zq)); (try dsimp only); (try k_sweep); (try k_fold)))) | (with_reducible ((k_here; (with_reducible show wpAny _ _ (call (Value.ref 93) _) _ _ _); k_dflt ( refine' meet_use (has_meets _ _ _ _) ?k1T56 ?k2T56 ?k3T56 ?k4T56 ?k5T56 ?kKT56 ?kdT56 ?kuT56 ?_; (case k1T56 => k_asm); (case k2T56 => k_asm); (case k3T56 => k_asm); (case k4T56 => k_asm); (case k5T56 => k_asm); (case kKT56 => first | exact rfl | assumption); (case kdT56 => ((try simp only [depth_under_make, depth_under_kw, depth_in1, depth_deeper, depth_caller]); (try dsimp only [ktrTop]); omega)); (case kuT56 => ((try simp only [units_in1, units_deeper, Around.mark_units, units_caller]); (try dsimp only [ktrTop]); omega))); intro v9zq n9zq h9zq tk9zq F9zq N9zq o9zq; (k_dflt (obtain ⟨e9zq, e8zq⟩ := o9zq; subst e9zq; subst e8zq)); (try dsimp only); (try k_sweep); (try k_fold)))) | (with_reducible ((k_here; (with_reducible show wpAny _ _ (call (Value.ref 86) _) _ _ _); k_dflt ( refine' meet_use (restart_meets _ _ _ _) ?k1T55 ?k2T55 ?k3T55 ?k4T55 ?k5T55 ?kKT55 ?kdT55 ?kuT55 ?_; (case k1T55 => k_asm); (case k2T55 => k_asm); (case k3T55 => k_asm); (case k4T55 => k_asm); (case k5T55 => k_asm); (case kKT55 => first | exact rfl | assumption); (case kdT55 => ((try simp only [depth_under_make, depth_under_kw, depth_in1, depth_deeper, depth_caller]); (try dsimp only [ktrTop]); omega)); (case kuT55 => ((try simp only [units_in1, units_deeper, Around.mark_units, units_caller]); (try dsimp only [ktrTop]); omega))); intro v9zq n9zq h9zq tk9zq F9zq N9zq o9zq; (k_dflt (obtain ⟨e9zq, e8zq⟩ := o9zq; subst e9zq; subst e8zq)); (try dsimp only); (try k_sweep); (try k_fold)))) | (with_reducible ((k_here; (with_reducible show wpAny _ _ (call (Value.ref 79) _) _ _ _); k_dflt ( refine' meet_use (frame_meets _ _ _ _) ?k1T54 ?k2T54 ?k3T54 ?k4T54 ?k5T54 ?kKT54 ?kdT54 ?kuT54 ?_; (case k1T54 => k_asm); (case k2T54 => k_asm); (case k3T54 => k_asm); (case k4T54 => k_asm); (case k5T54 => k_asm); (case kKT54 => first | exact rfl | assumption); (case kdT54 => ((try simp only [depth_under_make, depth_under_kw, depth_in1, depth_deeper, depth_caller]); (try dsimp only [ktrTop]); omega)); (case kuT54 => ((try simp only [units_in1, units_deeper, Around.mark_units, units_caller]); (try dsimp only [ktrTop]); omega))); intro v9zq n9zq h9zq tk9zq F9zq N9zq o9zq; (k_dflt (obtain ⟨e9zq, e8zq⟩ := o9zq; subst e9zq; subst e8zq)); (try dsimp only); (try k_sweep); (try k_fold)))) | (with_reducible ((k_here; (with_reducible show wpAny _ _ (call (Value.ref 72) _) _ _ _); k_dflt ( refine' meet_use (name_meets _ _ _ _ ?kaT53 ?kbT53) ?k1T53 ?k2T53 ?k3T53 ?k4T53 ?k5T53 ?kKT53 ?kdT53 ?kuT53 ?_; (case kaT53 => first | assumption | exact Int.fmod_nonneg_of_pos _ (by decide)); (case kbT53 => first | assumption | exact Int.fmod_lt_of_pos _ (by decide)); (case k1T53 => k_asm); (case k2T53 => k_asm); (case k3T53 => k_asm); (case k4T53 => k_asm); (case k5T53 => k_asm); (case kKT53 => first | exact rfl | assumption); (case kdT53 => ((try simp only [depth_under_make, depth_under_kw, depth_in1, depth_deeper, depth_caller]); (try dsimp only [ktrTop]); omega)); (case kuT53 => ((try simp only [units_in1, units_deeper, Around.mark_units, units_caller]); (try dsimp only [ktrTop]); omega))); intro v9zq n9zq h9zq tk9zq F9zq N9zq o9zq; (k_dflt (obtain ⟨⟨t9zq, e9zq⟩, e8zq⟩ := o9zq; subst e9zq; subst e8zq)); (try dsimp only); (try k_sweep); (try k_fold)))) | (with_reducible ((k_here; (with_reducible show wpAny _ _ (call (Value.ref 134) _) _ _ _); k_dflt ( refine' seed_use ?klT52 ?kiT52 ?ktT52 ?k1T52 ?k2T52 ?k3T52 ?k4T52 ?k5T52 ?kKT52 ?kdT52 ?kuT52 ?_; (case klT52 => k_asm); (case kiT52 => l_ints); (case ktT52 => l_fit); (case k1T52 => k_asm); (case k2T52 => k_asm); (case k3T52 => k_asm); (case k4T52 => k_asm); (case k5T52 => k_asm); (case kKT52 => first | exact rfl | assumption); (case kdT52 => ((try simp only [depth_under_make, depth_under_kw, depth_in1, depth_deeper, depth_caller]); (try dsimp only [ktrTop]); omega)); (case kuT52 => ((try simp only [units_in1, units_deeper, Around.mark_units, units_caller]); (try dsimp only [ktrTop]); omega))); intro r9zq ta9zq tb9zq n9zq a9zq b9zq h9zq tk9zq F9zq N9zq l9zq ha9zq hb9zq hc9zq; (try k_lt l9zq); (try dsimp only); (try k_sweep); (try k_fold)))) | (with_reducible ((k_here; (with_reducible show wpAny _ _ (call (Value.ref 141) _) _ _ _); k_dflt ( refine' digit_use ?kUT51 ?kaT51 ?kbT51 ?kcT51 ?kmT51 ?knT51 ?k1T51 ?k2T51 ?k3T51 ?k4T51 ?k5T51 ?kKT51 ?kdT51 ?kuT51 ?_; (case k1T51 => k_asm); (case k2T51 => k_asm); (case k3T51 => k_asm); (case k4T51 => k_asm); (case kUT51 => k_updF); (case kaT51 => assumption); (case kbT51 => assumption); (case kcT51 => assumption); (case kmT51 => decide); (case knT51 => decide); (case k5T51 => k_asm); (case kKT51 => first | exact rfl | assumption); (case kdT51 => ((try simp only [depth_under_make, depth_under_kw, depth_in1, depth_deeper, depth_caller]); (try dsimp only [ktrTop]); omega)); (case kuT51 => ((try simp only [units_in1, units_deeper, Around.mark_units, units_caller]); (try dsimp only [ktrTop]); omega))); intro r9zq t9zq a9zq b9zq ta9zq tb9zq n9zq h9zq tk9zq lo9zq hi9zq ha9zq hb9zq hc9zq F9zq N9zq; (try dsimp only at N9zq); (try dsimp only); (try k_sweep); (try k_fold)))) | (with_reducible ((k_here; (with_reducible show wpAny _ _ (call (Value.ref 174) _) _ _ _); k_dflt ( refine' meet_use (refused_no _ _ _ _) ?k1T50 ?k2T50 ?k3T50 ?k4T50 ?k5T50 ?kKT50 ?kdT50 ?kuT50 ?_; (case k1T50 => k_asm); (case k2T50 => k_asm); (case k3T50 => k_asm); (case k4T50 => k_asm); (case k5T50 => k_asm); (case kKT50 => first | exact rfl | assumption); (case kdT50 => ((try simp only [depth_under_make, depth_under_kw, depth_in1, depth_deeper, depth_caller]); (try dsimp only [ktrTop]); omega)); (case kuT50 => ((try simp only [units_in1, units_deeper, Around.mark_units, units_caller]); (try dsimp only [ktrTop]); omega))); intro v9zq n9zq h9zq tk9zq F9zq N9zq o9zq; (k_dflt (obtain ⟨e9zq, e8zq⟩ := o9zq; subst e9zq; subst e8zq)); (try dsimp only); (try k_sweep); (try k_fold)))) | (with_reducible ((k_here; (with_reducible show wpAny _ _ (call (Value.ref 174) _) _ _ _); k_dflt (refine' refused_yes ?BT49 ?FT49 ?XT49 ?NT49 ?TT49 ?hkT49 ?kdT49 ?kuT49 ?_; (case BT49 => k_asm); (case FT49 => k_asm); (case XT49 => k_asm); (case NT49 => k_asm); (case TT49 => k_asm); (case hkT49 => exact rfl); (case kdT49 => ((try simp only [depth_under_make, depth_under_kw, depth_in1, depth_deeper, depth_caller]); (try dsimp only [ktrTop]); omega)); (case kuT49 => ((try simp only [units_in1, units_deeper, Around.mark_units, units_caller]); (try dsimp only [ktrTop]); omega))); intro h9pzq tk9pzq F9pzq N9pzq; (try dsimp only); (try k_sweep); (try k_fold)))))) | ((with_reducible show PieceEl ..); ((exact pieceEl_of (by assumption) (by assumption) (by assumption)))) | (with_reducible (((with_reducible show wpAny _ _ (pyIter (Value.ref _)) (fun it s₂ => LoopAtV _ _ _ _ _ _ _ _ _ it s₂) _ _); k_here; (rename Fr _ _ _ _ => lFpzq); (rename News _ _ _ _ => lNpzq); (rename IsRange _ _ _ _ _ _ _ _ => rgXzq); (with_unfolding_all refine' loop_still (n := 64) [Str.ofString "code"] (by rfl) rgXzq (by decide) (by rfl) lFpzq lNpzq ?_ ?_); (all_goals (try clear lFpzq lNpzq)); (all_goals (first | (intro k9zq t9zq u9zq h9zq tk9zq own9zq lo9zq hi9zq off9zq F9zq N9zq; (try dsimp only at N9zq)) | (intro u9zq h9zq tk9zq F9zq N9zq))); (all_goals (try dsimp only)); (all_goals (try k_fold))))) | ((with_reducible show wpAny _ _ (compareOp CmpOp.NotEq (Value.ref ..) (Value.ref ..)) _ _ _); (with_reducible ((k_here; (with_reducible show wpAny _ _ (compareOp CmpOp.NotEq (Value.ref _) (Value.ref _)) _ _ _); k_dflt (refine' ne_told ?kaT58 ?kbT58 ?NT58 ?aT58 ?bT58 ?uT58 ?_; (case NT58 => k_asm); (case aT58 => k_mem); (case bT58 => k_mem); (case kaT58 => first | assumption | exact Int.fmod_nonneg_of_pos _ (by decide)); (case kbT58 => first | assumption | exact Int.fmod_lt_of_pos _ (by decide)); (case uT58 => ke_room)))))) | walk1)) | (leave1; walk_say "STEP leave1"; try dsimp only) | fail "no step"))
  (repeat' (first | ((with_reducible show GoodW _ _ _ _ _ (Except.ok (Flow.ret (Value.bool !false))) _); (exact law_good (by with_reducible assumption) (by first | with_reducible assumption | assumption) rfl)) | (k_unfold; (try dsimp only)) | (k_end; wrow_close) | ((with_reducible show wpAny _ _ (call (Value.builtin _) _) _ _ _); (with_reducible ((k_here; k_dflt (refine' join3_enc ?NT73 ?mT73 ?a1T73 ?a2T73 ?a3T73 ?a4T73 ?a5T73 ?a6T73 ?_; (case NT73 => k_asm); (case mT73 => k_mem); (case a1T73 => assumption); (case a2T73 => assumption); (case a3T73 => assumption); (case a4T73 => assumption); (case a5T73 => assumption); (case a6T73 => assumption); k_whole); intro t9zq k9zq)))) | ((with_reducible show wpAny _ _ (getMethod (Value.bytes ..) _ _) _ _ _); (with_reducible ((k_here; (with_reducible refine join_method ?_))))) | ((with_reducible show wpAny _ _ (compareOp CmpOp.NotEq (Value.bytes ..) (Value.bytes ..)) _ _ _); (with_reducible ((k_here; (with_reducible refine ne_same ?_))))) | (with_reducible ((k_here; (with_reducible show wpAny _ _ (binaryOp Operator.Add (Value.bytes _ _) (Value.bytes _ _)) _ _ _); k_dflt (refine' KBy.add_bytes ?zT70 ?_; (case zT70 => (rw [zeros_size]; decide)); k_whole); intro _ _))) | ((with_reducible show wpAny _ _ (call (Value.type _) _) _ _ _); (with_reducible ((k_here; (with_reducible show wpAny _ _ (call (Value.type "bytes") [Value.int _ _]) _ _ _); k_dflt (refine' call_bytes_count ?aT69 ?bT69 ?_; (case aT69 => decide); (case bT69 => decide); k_whole); intro t9zq k9zq)))) | ((with_reducible show wpAny _ _ (eval (PySem.Expr.ListComp ..) _) _ _ _); (with_reducible ((k_here; k_dflt (refine LCg.ListComp_U (F₀ := by k_asm) (by with_unfolding_all rfl) (by decide) (by rfl) (by decide) (by rfl) ?_))))) | ((with_reducible show LCg.FinE ..); (with_reducible (((unfold LCg.FinE); intro Dpzq hpzq tkpzq Fpzq Npzq o1pzq; clear o1pzq; (try simp only [List.nil_append, List.cons_append] at Npzq); (try dsimp only))))) | ((with_reducible show LCg.FinA ..); (with_reducible (((unfold LCg.FinA); intro Dpzq hpzq tkpzq Fpzq Npzq o1pzq; clear o1pzq; (try simp only [List.nil_append, List.cons_append] at Npzq); (try dsimp only))))) | ((with_reducible show LCg.CompRest ..); (with_reducible ((with_unfolding_all first | (refine LCg.CompRest.succ ?_; intro vpzq Ipzq oIpzq Cpzq oCpzq Dpzq mpzq hpzq tkpzq Epzq hvpzq hCpzq hxpzq Fpzq Npzq offpzq nepzq; clear nepzq; lcg_open hvpzq) | refine LCg.CompRest.zero ?_)))) | ((with_reducible show LCg.CompSrc ..); (with_reducible ((k_here; k_dflt (first | (refine' rows_src ?hdT64 ?hhT64 ?FT64 ?NT64 ?h1T64 ?h2T64 ?hrT64 ?_; (case hhT64 => rfl); (case FT64 => k_asm); (case NT64 => k_asm); (case hrT64 => assumption); (case hdT64 => assumption); (case h1T64 => k_mem); (case h2T64 => k_mem); intro g9pzq; refine' rows_rest ?kaT64 ?kbT64 ?kcT64 ?klT64 ?_ ?_; (case kaT64 => assumption); (case kbT64 => assumption); (case kcT64 => assumption); (case klT64 => omega); all_goals (first | (intro u1zq x1zq d1zq u2zq x2zq d2zq u3zq x3zq d3zq c1zq c2zq c3zq P1zq D1zq P2zq D2zq P3zq D3zq t11zq t21zq t31zq tc1zq tp1zq td1zq te1zq t12zq t22zq t32zq tc2zq tp2zq td2zq te2zq t13zq t23zq t33zq tc3zq tp3zq td3zq te3zq azq bzq tazq tbzq nzq h01zq h11zq hP1zq hD1zq h02zq h12zq hP2zq hD2zq h03zq h13zq hP3zq hD3zq; (try dsimp only)) | (intro ys9zq more9zq a9zq b9zq ta9zq tb9zq n9zq I9zq oI9zq C9zq oC9zq D9zq m9zq h9zq tk9zq E9zq ha9zq hb9zq hc9zq hC9zq F9zq N9zq off9zq))) | (refine LCg.CompSrc.ledger (by rfl) (by k_asm) (by k_asm) (by k_mem) (by exact Nat.le_of_ble_eq_true rfl) ?_; intro g9pzq; lcg_lit)))))) | ((with_reducible show wpAny _ _ (exec (PySem.Stmt.Assign ..) _) _ _ _); (with_reducible ((k_here; k_dflt (refine LCg.Assign_ListComp_U (F₀ := by k_asm) (by rfl) (by with_unfolding_all rfl) (by with_unfolding_all rfl) (by decide) (by rfl) (by decide) (by rfl) (by rfl) (by rfl) ?_))))) | ((with_reducible show wpAny _ _ (call (Value.ref _) _) _ _ _); (first | (with_reducible ((k_here; (with_reducible show wpAny _ _ (call (Value.ref 127) _) _ _ _); k_dflt (first | (refine' bytes_use (wpieces3_small _ _ _ ?a1T62 ?a2T62 ?a3T62 ?a4T62 ?b1T62 ?b2T62 ?b3T62 ?b4T62 ?c1T62 ?c2T62 ?c3T62 ?c4T62) ?ksT62 ?k1T62 ?k2T62 ?k3T62 ?k4T62 ?k5T62 ?kKT62 ?kdT62 ?kuT62 ?_; (case k1T62 => k_asm); (case k2T62 => k_asm); (case k3T62 => k_asm); (case k4T62 => k_asm); (case k5T62 => k_asm); (case kKT62 => first | exact rfl | assumption); (case ksT62 => lcg_sub); (case a1T62 => assumption); (case a2T62 => assumption); (case a3T62 => assumption); (case a4T62 => assumption); (case b1T62 => assumption); (case b2T62 => assumption); (case b3T62 => assumption); (case b4T62 => assumption); (case c1T62 => assumption); (case c2T62 => assumption); (case c3T62 => assumption); (case c4T62 => assumption); (case kdT62 => ((try simp only [depth_under_make, depth_under_kw, depth_in1, depth_deeper, depth_caller]); (try dsimp only [ktrTop]); omega)); (case kuT62 => ((try simp only [units_in1, units_deeper, Around.mark_units, units_caller]); (try dsimp only [ktrTop]); omega))) | (refine' bytes_use (wpieces1_big _ _ _) ?ksT62 ?k1T62 ?k2T62 ?k3T62 ?k4T62 ?k5T62 ?kKT62 ?kdT62 ?kuT62 ?_; (case k1T62 => k_asm); (case k2T62 => k_asm); (case k3T62 => k_asm); (case k4T62 => k_asm); (case k5T62 => k_asm); (case kKT62 => first | exact rfl | assumption); (case ksT62 => lcg_sub); (case kdT62 => ((try simp only [depth_under_make, depth_under_kw, depth_in1, depth_deeper, depth_caller]); (try dsimp only [ktrTop]); omega)); (case kuT62 => ((try simp only [units_in1, units_deeper, Around.mark_units, units_caller]); (try dsimp only [ktrTop]); omega)))); intro t9zq h9zq tk9zq F9zq N9zq; (try dsimp only); (try k_sweep); (try k_fold)))) | (with_reducible ((k_here; (with_reducible show wpAny _ _ (call (Value.ref 167) _) _ _ _); k_dflt ( refine' meet_use (piece_meets _ _ _ _ _ _ _ _ ?krT60 ?kaT60 ?kbT60 ?kcT60) ?k1T60 ?k2T60 ?k3T60 ?k4T60 ?k5T60 ?kKT60 ?kdT60 ?kuT60 ?_; (case k1T60 => k_asm); (case k2T60 => k_asm); (case k3T60 => k_asm); (case k4T60 => k_asm); (case k5T60 => k_asm); (case kKT60 => first | exact rfl | assumption); (case krT60 => assumption); (case kaT60 => assumption); (case kbT60 => assumption); (case kcT60 => assumption); (case kdT60 => ((try simp only [depth_under_make, depth_under_kw, depth_in1, depth_deeper, depth_caller]); (try dsimp only [ktrTop]); omega)); (case kuT60 => ((try simp only [units_in1, units_deeper, Around.mark_units, units_caller]); (try dsimp only [ktrTop]); omega))); intro v9zq n9zq h9zq tk9zq F9zq N9zq o9zq; (try dsimp only); (try k_fold)))) | (with_reducible ((k_here; (with_reducible show wpAny _ _ (call (Value.ref 162) _) _ _ _); k_dflt ( refine' meet_use (told_meets _ _ _ _ ?kaT57 ?kbT57) ?k1T57 ?k2T57 ?k3T57 ?k4T57 ?k5T57 ?kKT57 ?kdT57 ?kuT57 ?_; (case kaT57 => first | assumption | exact Int.fmod_nonneg_of_pos _ (by decide)); (case kbT57 => first | assumption | exact Int.fmod_lt_of_pos _ (by decide)); (case k1T57 => k_asm); (case k2T57 => k_asm); (case k3T57 => k_asm); (case k4T57 => k_asm); (case k5T57 => k_asm); (case kKT57 => first | exact rfl | assumption); (case kdT57 => ((try simp only [depth_under_make, depth_under_kw, depth_in1, depth_deeper, depth_caller]); (try dsimp only [ktrTop]); omega)); (case kuT57 => ((try simp only [units_in1, units_deeper, Around.mark_units, units_caller]); (try dsimp only [ktrTop]); omega))); intro v9zq n9zq h9zq tk9zq F9zq N9zq o9zq; (k_dflt (obtain ⟨r9zq, t9zq, m9zq, e9zq, e8zq⟩ := o9zq; subst e9zq; subst e8zq)); (try dsimp only); (try k_sweep); (try k_fold)))) | (with_reducible ((k_here; (with_reducible show wpAny _ _ (call (Value.ref 93) _) _ _ _); k_dflt ( refine' meet_use (has_meets _ _ _ _) ?k1T56 ?k2T56 ?k3T56 ?k4T56 ?k5T56 ?kKT56 ?kdT56 ?kuT56 ?_; (case k1T56 => k_asm); (case k2T56 => k_asm); (case k3T56 => k_asm); (case k4T56 => k_asm); (case k5T56 => k_asm); (case kKT56 => first | exact rfl | assumption); (case kdT56 => ((try simp only [depth_under_make, depth_under_kw, depth_in1, depth_deeper, depth_caller]); (try dsimp only [ktrTop]); omega)); (case kuT56 => ((try simp only [units_in1, units_deeper, Around.mark_units, units_caller]); (try dsimp only [ktrTop]); omega))); intro v9zq n9zq h9zq tk9zq F9zq N9zq o9zq; (k_dflt (obtain ⟨e9zq, e8zq⟩ := o9zq; subst e9zq; subst e8zq)); (try dsimp only); (try k_sweep); (try k_fold)))) | (with_reducible ((k_here; (with_reducible show wpAny _ _ (call (Value.ref 86) _) _ _ _); k_dflt ( refine' meet_use (restart_meets _ _ _ _) ?k1T55 ?k2T55 ?k3T55 ?k4T55 ?k5T55 ?kKT55 ?kdT55 ?kuT55 ?_; (case k1T55 => k_asm); (case k2T55 => k_asm); (case k3T55 => k_asm); (case k4T55 => k_asm); (case k5T55 => k_asm); (case kKT55 => first | exact rfl | assumption); (case kdT55 => ((try simp only [depth_under_make, depth_under_kw, depth_in1, depth_deeper, depth_caller]); (try dsimp only [ktrTop]); omega)); (case kuT55 => ((try simp only [units_in1, units_deeper, Around.mark_units, units_caller]); (try dsimp only [ktrTop]); omega))); intro v9zq n9zq h9zq tk9zq F9zq N9zq o9zq; (k_dflt (obtain ⟨e9zq, e8zq⟩ := o9zq; subst e9zq; subst e8zq)); (try dsimp only); (try k_sweep); (try k_fold)))) | (with_reducible ((k_here; (with_reducible show wpAny _ _ (call (Value.ref 79) _) _ _ _); k_dflt ( refine' meet_use (frame_meets _ _ _ _) ?k1T54 ?k2T54 ?k3T54 ?k4T54 ?k5T54 ?kKT54 ?kdT54 ?kuT54 ?_; (case k1T54 => k_asm); (case k2T54 => k_asm); (case k3T54 => k_asm); (case k4T54 => k_asm); (case k5T54 => k_asm); (case kKT54 => first | exact rfl | assumption); (case kdT54 => ((try simp only [depth_under_make, depth_under_kw, depth_in1, depth_deeper, depth_caller]); (try dsimp only [ktrTop]); omega)); (case kuT54 => ((try simp only [units_in1, units_deeper, Around.mark_units, units_caller]); (try dsimp only [ktrTop]); omega))); intro v9zq n9zq h9zq tk9zq F9zq N9zq o9zq; (k_dflt (obtain ⟨e9zq, e8zq⟩ := o9zq; subst e9zq; subst e8zq)); (try dsimp only); (try k_sweep); (try k_fold)))) | (with_reducible ((k_here; (with_reducible show wpAny _ _ (call (Value.ref 72) _) _ _ _); k_dflt ( refine' meet_use (name_meets _ _ _ _ ?kaT53 ?kbT53) ?k1T53 ?k2T53 ?k3T53 ?k4T53 ?k5T53 ?kKT53 ?kdT53 ?kuT53 ?_; (case kaT53 => first | assumption | exact Int.fmod_nonneg_of_pos _ (by decide)); (case kbT53 => first | assumption | exact Int.fmod_lt_of_pos _ (by decide)); (case k1T53 => k_asm); (case k2T53 => k_asm); (case k3T53 => k_asm); (case k4T53 => k_asm); (case k5T53 => k_asm); (case kKT53 => first | exact rfl | assumption); (case kdT53 => ((try simp only [depth_under_make, depth_under_kw, depth_in1, depth_deeper, depth_caller]); (try dsimp only [ktrTop]); omega)); (case kuT53 => ((try simp only [units_in1, units_deeper, Around.mark_units, units_caller]); (try dsimp only [ktrTop]); omega))); intro v9zq n9zq h9zq tk9zq F9zq N9zq o9zq; (k_dflt (obtain ⟨⟨t9zq, e9zq⟩, e8zq⟩ := o9zq; subst e9zq; subst e8zq)); (try dsimp only); (try k_sweep); (try k_fold)))) | (with_reducible ((k_here; (with_reducible show wpAny _ _ (call (Value.ref 134) _) _ _ _); k_dflt ( refine' seed_use ?klT52 ?kiT52 ?ktT52 ?k1T52 ?k2T52 ?k3T52 ?k4T52 ?k5T52 ?kKT52 ?kdT52 ?kuT52 ?_; (case klT52 => k_asm); (case kiT52 => l_ints); (case ktT52 => l_fit); (case k1T52 => k_asm); (case k2T52 => k_asm); (case k3T52 => k_asm); (case k4T52 => k_asm); (case k5T52 => k_asm); (case kKT52 => first | exact rfl | assumption); (case kdT52 => ((try simp only [depth_under_make, depth_under_kw, depth_in1, depth_deeper, depth_caller]); (try dsimp only [ktrTop]); omega)); (case kuT52 => ((try simp only [units_in1, units_deeper, Around.mark_units, units_caller]); (try dsimp only [ktrTop]); omega))); intro r9zq ta9zq tb9zq n9zq a9zq b9zq h9zq tk9zq F9zq N9zq l9zq ha9zq hb9zq hc9zq; (try k_lt l9zq); (try dsimp only); (try k_sweep); (try k_fold)))) | (with_reducible ((k_here; (with_reducible show wpAny _ _ (call (Value.ref 141) _) _ _ _); k_dflt ( refine' digit_use ?kUT51 ?kaT51 ?kbT51 ?kcT51 ?kmT51 ?knT51 ?k1T51 ?k2T51 ?k3T51 ?k4T51 ?k5T51 ?kKT51 ?kdT51 ?kuT51 ?_; (case k1T51 => k_asm); (case k2T51 => k_asm); (case k3T51 => k_asm); (case k4T51 => k_asm); (case kUT51 => k_updF); (case kaT51 => assumption); (case kbT51 => assumption); (case kcT51 => assumption); (case kmT51 => decide); (case knT51 => decide); (case k5T51 => k_asm); (case kKT51 => first | exact rfl | assumption); (case kdT51 => ((try simp only [depth_under_make, depth_under_kw, depth_in1, depth_deeper, depth_caller]); (try dsimp only [ktrTop]); omega)); (case kuT51 => ((try simp only [units_in1, units_deeper, Around.mark_units, units_caller]); (try dsimp only [ktrTop]); omega))); intro r9zq t9zq a9zq b9zq ta9zq tb9zq n9zq h9zq tk9zq lo9zq hi9zq ha9zq hb9zq hc9zq F9zq N9zq; (try dsimp only at N9zq); (try dsimp only); (try k_sweep); (try k_fold)))) | (with_reducible ((k_here; (with_reducible show wpAny _ _ (call (Value.ref 174) _) _ _ _); k_dflt ( refine' meet_use (refused_no _ _ _ _) ?k1T50 ?k2T50 ?k3T50 ?k4T50 ?k5T50 ?kKT50 ?kdT50 ?kuT50 ?_; (case k1T50 => k_asm); (case k2T50 => k_asm); (case k3T50 => k_asm); (case k4T50 => k_asm); (case k5T50 => k_asm); (case kKT50 => first | exact rfl | assumption); (case kdT50 => ((try simp only [depth_under_make, depth_under_kw, depth_in1, depth_deeper, depth_caller]); (try dsimp only [ktrTop]); omega)); (case kuT50 => ((try simp only [units_in1, units_deeper, Around.mark_units, units_caller]); (try dsimp only [ktrTop]); omega))); intro v9zq n9zq h9zq tk9zq F9zq N9zq o9zq; (k_dflt (obtain ⟨e9zq, e8zq⟩ := o9zq; subst e9zq; subst e8zq)); (try dsimp only); (try k_sweep); (try k_fold)))) | (with_reducible ((k_here; (with_reducible show wpAny _ _ (call (Value.ref 174) _) _ _ _); k_dflt (refine' refused_yes ?BT49 ?FT49 ?XT49 ?NT49 ?TT49 ?hkT49 ?kdT49 ?kuT49 ?_; (case BT49 => k_asm); (case FT49 => k_asm); (case XT49 => k_asm); (case NT49 => k_asm); (case TT49 => k_asm); (case hkT49 => exact rfl); (case kdT49 => ((try simp only [depth_under_make, depth_under_kw, depth_in1, depth_deeper, depth_caller]); (try dsimp only [ktrTop]); omega)); (case kuT49 => ((try simp only [units_in1, units_deeper, Around.mark_units, units_caller]); (try dsimp only [ktrTop]); omega))); intro h9pzq tk9pzq F9pzq N9pzq; (try dsimp only); (try k_sweep); (try k_fold)))))) | ((with_reducible show PieceEl ..); ((exact pieceEl_of (by assumption) (by assumption) (by assumption)))) | (with_reducible (((with_reducible show wpAny _ _ (pyIter (Value.ref _)) (fun it s₂ => LoopAtV _ _ _ _ _ _ _ _ _ it s₂) _ _); k_here; (rename Fr _ _ _ _ => lFpzq); (rename News _ _ _ _ => lNpzq); (rename IsRange _ _ _ _ _ _ _ _ => rgXzq); (with_unfolding_all refine' loop_still (n := 64) [Str.ofString "code"] (by rfl) rgXzq (by decide) (by rfl) lFpzq lNpzq ?_ ?_); (all_goals (try clear lFpzq lNpzq)); (all_goals (first | (intro k9zq t9zq u9zq h9zq tk9zq own9zq lo9zq hi9zq off9zq F9zq N9zq; (try dsimp only at N9zq)) | (intro u9zq h9zq tk9zq F9zq N9zq))); (all_goals (try dsimp only)); (all_goals (try k_fold))))) | ((with_reducible show wpAny _ _ (compareOp CmpOp.NotEq (Value.ref ..) (Value.ref ..)) _ _ _); (with_reducible ((k_here; (with_reducible show wpAny _ _ (compareOp CmpOp.NotEq (Value.ref _) (Value.ref _)) _ _ _); k_dflt (refine' ne_told ?kaT58 ?kbT58 ?NT58 ?aT58 ?bT58 ?uT58 ?_; (case NT58 => k_asm); (case aT58 => k_mem); (case bT58 => k_mem); (case kaT58 => first | assumption | exact Int.fmod_nonneg_of_pos _ (by decide)); (case kbT58 => first | assumption | exact Int.fmod_lt_of_pos _ (by decide)); (case uT58 => ke_room)))))) | walk1 | (dsimp only; (first | ((with_reducible show wpAny _ _ (call (Value.builtin _) _) _ _ _); (with_reducible ((k_here; k_dflt (refine' join3_enc ?NT73 ?mT73 ?a1T73 ?a2T73 ?a3T73 ?a4T73 ?a5T73 ?a6T73 ?_; (case NT73 => k_asm); (case mT73 => k_mem); (case a1T73 => assumption); (case a2T73 => assumption); (case a3T73 => assumption); (case a4T73 => assumption); (case a5T73 => assumption); (case a6T73 => assumption); k_whole); intro t9zq k9zq)))) | ((with_reducible show wpAny _ _ (getMethod (Value.bytes ..) _ _) _ _ _); (with_reducible ((k_here; (with_reducible refine join_method ?_))))) | ((with_reducible show wpAny _ _ (compareOp CmpOp.NotEq (Value.bytes ..) (Value.bytes ..)) _ _ _); (with_reducible ((k_here; (with_reducible refine ne_same ?_))))) | (with_reducible ((k_here; (with_reducible show wpAny _ _ (binaryOp Operator.Add (Value.bytes _ _) (Value.bytes _ _)) _ _ _); k_dflt (refine' KBy.add_bytes ?zT70 ?_; (case zT70 => (rw [zeros_size]; decide)); k_whole); intro _ _))) | ((with_reducible show wpAny _ _ (call (Value.type _) _) _ _ _); (with_reducible ((k_here; (with_reducible show wpAny _ _ (call (Value.type "bytes") [Value.int _ _]) _ _ _); k_dflt (refine' call_bytes_count ?aT69 ?bT69 ?_; (case aT69 => decide); (case bT69 => decide); k_whole); intro t9zq k9zq)))) | ((with_reducible show wpAny _ _ (eval (PySem.Expr.ListComp ..) _) _ _ _); (with_reducible ((k_here; k_dflt (refine LCg.ListComp_U (F₀ := by k_asm) (by with_unfolding_all rfl) (by decide) (by rfl) (by decide) (by rfl) ?_))))) | ((with_reducible show LCg.FinE ..); (with_reducible (((unfold LCg.FinE); intro Dpzq hpzq tkpzq Fpzq Npzq o1pzq; clear o1pzq; (try simp only [List.nil_append, List.cons_append] at Npzq); (try dsimp only))))) | ((with_reducible show LCg.FinA ..); (with_reducible (((unfold LCg.FinA); intro Dpzq hpzq tkpzq Fpzq Npzq o1pzq; clear o1pzq; (try simp only [List.nil_append, List.cons_append] at Npzq); (try dsimp only))))) | ((with_reducible show LCg.CompRest ..); (with_reducible ((with_unfolding_all first | (refine LCg.CompRest.succ ?_; intro vpzq Ipzq oIpzq Cpzq oCpzq Dpzq mpzq hpzq tkpzq Epzq hvpzq hCpzq hxpzq Fpzq Npzq offpzq nepzq; clear nepzq; lcg_open hvpzq) | refine LCg.CompRest.zero ?_)))) | ((with_reducible show LCg.CompSrc ..); (with_reducible ((k_here; k_dflt (first | (refine' rows_src ?hdT64 ?hhT64 ?FT64 ?NT64 ?h1T64 ?h2T64 ?hrT64 ?_; (case hhT64 => rfl); (case FT64 => k_asm); (case NT64 => k_asm); (case hrT64 => assumption); (case hdT64 => assumption); (case h1T64 => k_mem); (case h2T64 => k_mem); intro g9pzq; refine' rows_rest ?kaT64 ?kbT64 ?kcT64 ?klT64 ?_ ?_; (case kaT64 => assumption); (case kbT64 => assumption); (case kcT64 => assumption); (case klT64 => omega); all_goals (first | (intro u1zq x1zq d1zq u2zq x2zq d2zq u3zq x3zq d3zq c1zq c2zq c3zq P1zq D1zq P2zq D2zq P3zq D3zq t11zq t21zq t31zq tc1zq tp1zq td1zq te1zq t12zq t22zq t32zq tc2zq tp2zq td2zq te2zq t13zq t23zq t33zq tc3zq tp3zq td3zq te3zq azq bzq tazq tbzq nzq h01zq h11zq hP1zq hD1zq h02zq h12zq hP2zq hD2zq h03zq h13zq hP3zq hD3zq; (try dsimp only)) | (intro ys9zq more9zq a9zq b9zq ta9zq tb9zq n9zq I9zq oI9zq C9zq oC9zq D9zq m9zq h9zq tk9zq E9zq ha9zq hb9zq hc9zq hC9zq F9zq N9zq off9zq))) | (refine LCg.CompSrc.ledger (by rfl) (by k_asm) (by k_asm) (by k_mem) (by exact Nat.le_of_ble_eq_true rfl) ?_; intro g9pzq; lcg_lit)))))) | ((with_reducible show wpAny _ _ (exec (PySem.Stmt.Assign ..) _) _ _ _); (with_reducible ((k_here; k_dflt (refine LCg.Assign_ListComp_U (F₀ := by k_asm) (by rfl) (by with_unfolding_all rfl) (by with_unfolding_all rfl) (by decide) (by rfl) (by decide) (by rfl) (by rfl) (by rfl) ?_))))) | ((with_reducible show wpAny _ _ (call (Value.ref _) _) _ _ _); (first | (with_reducible ((k_here; (with_reducible show wpAny _ _ (call (Value.ref 127) _) _ _ _); k_dflt (first | (refine' bytes_use (wpieces3_small _ _ _ ?a1T62 ?a2T62 ?a3T62 ?a4T62 ?b1T62 ?b2T62 ?b3T62 ?b4T62 ?c1T62 ?c2T62 ?c3T62 ?c4T62) ?ksT62 ?k1T62 ?k2T62 ?k3T62 ?k4T62 ?k5T62 ?kKT62 ?kdT62 ?kuT62 ?_; (case k1T62 => k_asm); (case k2T62 => k_asm); (case k3T62 => k_asm); (case k4T62 => k_asm); (case k5T62 => k_asm); (case kKT62 => first | exact rfl | assumption); (case ksT62 => lcg_sub); (case a1T62 => assumption); (case a2T62 => assumption); (case a3T62 => assumption); (case a4T62 => assumption); (case b1T62 => assumption); (case b2T62 => assumption); (case b3T62 => assumption); (case b4T62 => assumption); (case c1T62 => assumption); (case c2T62 => assumption); (case c3T62 => assumption); (case c4T62 => assumption); (case kdT62 => ((try simp only [depth_under_make, depth_under_kw, depth_in1, depth_deeper, depth_caller]); (try dsimp only [ktrTop]); omega)); (case kuT62 => ((try simp only [units_in1, units_deeper, Around.mark_units, units_caller]); (try dsimp only [ktrTop]); omega))) | (refine' bytes_use (wpieces1_big _ _ _) ?ksT62 ?k1T62 ?k2T62 ?k3T62 ?k4T62 ?k5T62 ?kKT62 ?kdT62 ?kuT62 ?_; (case k1T62 => k_asm); (case k2T62 => k_asm); (case k3T62 => k_asm); (case k4T62 => k_asm); (case k5T62 => k_asm); (case kKT62 => first | exact rfl | assumption); (case ksT62 => lcg_sub); (case kdT62 => ((try simp only [depth_under_make, depth_under_kw, depth_in1, depth_deeper, depth_caller]); (try dsimp only [ktrTop]); omega)); (case kuT62 => ((try simp only [units_in1, units_deeper, Around.mark_units, units_caller]); (try dsimp only [ktrTop]); omega)))); intro t9zq h9zq tk9zq F9zq N9zq; (try dsimp only); (try k_sweep); (try k_fold)))) | (with_reducible ((k_here; (with_reducible show wpAny _ _ (call (Value.ref 167) _) _ _ _); k_dflt ( refine' meet_use (piece_meets _ _ _ _ _ _ _ _ ?krT60 ?kaT60 ?kbT60 ?kcT60) ?k1T60 ?k2T60 ?k3T60 ?k4T60 ?k5T60 ?kKT60 ?kdT60 ?kuT60 ?_; (case k1T60 => k_asm); (case k2T60 => k_asm); (case k3T60 => k_asm); (case k4T60 => k_asm); (case k5T60 => k_asm); (case kKT60 => first | exact rfl | assumption); (case krT60 => assumption); (case kaT60 => assumption); (case kbT60 => assumption); (case kcT60 => assumption); (case kdT60 => ((try simp only [depth_under_make, depth_under_kw, depth_in1, depth_deeper, depth_caller]); (try dsimp only [ktrTop]); omega)); (case kuT60 => ((try simp only [units_in1, units_deeper, Around.mark_units, units_caller]); (try dsimp only [ktrTop]); omega))); intro v9zq n9zq h9zq tk9zq F9zq N9zq o9zq; (try dsimp only); (try k_fold)))) | (with_reducible ((k_here; (with_reducible show wpAny _ _ (call (Value.ref 162) _) _ _ _); k_dflt ( refine' meet_use (told_meets _ _ _ _ ?kaT57 ?kbT57) ?k1T57 ?k2T57 ?k3T57 ?k4T57 ?k5T57 ?kKT57 ?kdT57 ?kuT57 ?_; (case kaT57 => first | assumption | exact Int.fmod_nonneg_of_pos _ (by decide)); (case kbT57 => first | assumption | exact Int.fmod_lt_of_pos _ (by decide)); (case k1T57 => k_asm); (case k2T57 => k_asm); (case k3T57 => k_asm); (case k4T57 => k_asm); (case k5T57 => k_asm); (case kKT57 => first | exact rfl | assumption); (case kdT57 => ((try simp only [depth_under_make, depth_under_kw, depth_in1, depth_deeper, depth_caller]); (try dsimp only [ktrTop]); omega)); (case kuT57 => ((try simp only [units_in1, units_deeper, Around.mark_units, units_caller]); (try dsimp only [ktrTop]); omega))); intro v9zq n9zq h9zq tk9zq F9zq N9zq o9zq; (k_dflt (obtain ⟨r9zq, t9zq, m9zq, e9zq, e8zq⟩ := o9zq; subst e9zq; subst e8zq)); (try dsimp only); (try k_sweep); (try k_fold)))) | (with_reducible ((k_here; (with_reducible show wpAny _ _ (call (Value.ref 93) _) _ _ _); k_dflt ( refine' meet_use (has_meets _ _ _ _) ?k1T56 ?k2T56 ?k3T56 ?k4T56 ?k5T56 ?kKT56 ?kdT56 ?kuT56 ?_; (case k1T56 => k_asm); (case k2T56 => k_asm); (case k3T56 => k_asm); (case k4T56 => k_asm); (case k5T56 => k_asm); (case kKT56 => first | exact rfl | assumption); (case kdT56 => ((try simp only [depth_under_make, depth_under_kw, depth_in1, depth_deeper, depth_caller]); (try dsimp only [ktrTop]); omega)); (case kuT56 => ((try simp only [units_in1, units_deeper, Around.mark_units, units_caller]); (try dsimp only [ktrTop]); omega))); intro v9zq n9zq h9zq tk9zq F9zq N9zq o9zq; (k_dflt (obtain ⟨e9zq, e8zq⟩ := o9zq; subst e9zq; subst e8zq)); (try dsimp only); (try k_sweep); (try k_fold)))) | (with_reducible ((k_here; (with_reducible show wpAny _ _ (call (Value.ref 86) _) _ _ _); k_dflt ( refine' meet_use (restart_meets _ _ _ _) ?k1T55 ?k2T55 ?k3T55 ?k4T55 ?k5T55 ?kKT55 ?kdT55 ?kuT55 ?_; (case k1T55 => k_asm); (case k2T55 => k_asm); (case k3T55 => k_asm); (case k4T55 => k_asm); (case k5T55 => k_asm); (case kKT55 => first | exact rfl | assumption); (case kdT55 => ((try simp only [depth_under_make, depth_under_kw, depth_in1, depth_deeper, depth_caller]); (try dsimp only [ktrTop]); omega)); (case kuT55 => ((try simp only [units_in1, units_deeper, Around.mark_units, units_caller]); (try dsimp only [ktrTop]); omega))); intro v9zq n9zq h9zq tk9zq F9zq N9zq o9zq; (k_dflt (obtain ⟨e9zq, e8zq⟩ := o9zq; subst e9zq; subst e8zq)); (try dsimp only); (try k_sweep); (try k_fold)))) | (with_reducible ((k_here; (with_reducible show wpAny _ _ (call (Value.ref 79) _) _ _ _); k_dflt ( refine' meet_use (frame_meets _ _ _ _) ?k1T54 ?k2T54 ?k3T54 ?k4T54 ?k5T54 ?kKT54 ?kdT54 ?kuT54 ?_; (case k1T54 => k_asm); (case k2T54 => k_asm); (case k3T54 => k_asm); (case k4T54 => k_asm); (case k5T54 => k_asm); (case kKT54 => first | exact rfl | assumption); (case kdT54 => ((try simp only [depth_under_make, depth_under_kw, depth_in1, depth_deeper, depth_caller]); (try dsimp only [ktrTop]); omega)); (case kuT54 => ((try simp only [units_in1, units_deeper, Around.mark_units, units_caller]); (try dsimp only [ktrTop]); omega))); intro v9zq n9zq h9zq tk9zq F9zq N9zq o9zq; (k_dflt (obtain ⟨e9zq, e8zq⟩ := o9zq; subst e9zq; subst e8zq)); (try dsimp only); (try k_sweep); (try k_fold)))) | (with_reducible ((k_here; (with_reducible show wpAny _ _ (call (Value.ref 72) _) _ _ _); k_dflt ( refine' meet_use (name_meets _ _ _ _ ?kaT53 ?kbT53) ?k1T53 ?k2T53 ?k3T53 ?k4T53 ?k5T53 ?kKT53 ?kdT53 ?kuT53 ?_; (case kaT53 => first | assumption | exact Int.fmod_nonneg_of_pos _ (by decide)); (case kbT53 => first | assumption | exact Int.fmod_lt_of_pos _ (by decide)); (case k1T53 => k_asm); (case k2T53 => k_asm); (case k3T53 => k_asm); (case k4T53 => k_asm); (case k5T53 => k_asm); (case kKT53 => first | exact rfl | assumption); (case kdT53 => ((try simp only [depth_under_make, depth_under_kw, depth_in1, depth_deeper, depth_caller]); (try dsimp only [ktrTop]); omega)); (case kuT53 => ((try simp only [units_in1, units_deeper, Around.mark_units, units_caller]); (try dsimp only [ktrTop]); omega))); intro v9zq n9zq h9zq tk9zq F9zq N9zq o9zq; (k_dflt (obtain ⟨⟨t9zq, e9zq⟩, e8zq⟩ := o9zq; subst e9zq; subst e8zq)); (try dsimp only); (try k_sweep); (try k_fold)))) | (with_reducible ((k_here; (with_reducible show wpAny _ _ (call (Value.ref 134) _) _ _ _); k_dflt ( refine' seed_use ?klT52 ?kiT52 ?ktT52 ?k1T52 ?k2T52 ?k3T52 ?k4T52 ?k5T52 ?kKT52 ?kdT52 ?kuT52 ?_; (case klT52 => k_asm); (case kiT52 => l_ints); (case ktT52 => l_fit); (case k1T52 => k_asm); (case k2T52 => k_asm); (case k3T52 => k_asm); (case k4T52 => k_asm); (case k5T52 => k_asm); (case kKT52 => first | exact rfl | assumption); (case kdT52 => ((try simp only [depth_under_make, depth_under_kw, depth_in1, depth_deeper, depth_caller]); (try dsimp only [ktrTop]); omega)); (case kuT52 => ((try simp only [units_in1, units_deeper, Around.mark_units, units_caller]); (try dsimp only [ktrTop]); omega))); intro r9zq ta9zq tb9zq n9zq a9zq b9zq h9zq tk9zq F9zq N9zq l9zq ha9zq hb9zq hc9zq; (try k_lt l9zq); (try dsimp only); (try k_sweep); (try k_fold)))) | (with_reducible ((k_here; (with_reducible show wpAny _ _ (call (Value.ref 141) _) _ _ _); k_dflt ( refine' digit_use ?kUT51 ?kaT51 ?kbT51 ?kcT51 ?kmT51 ?knT51 ?k1T51 ?k2T51 ?k3T51 ?k4T51 ?k5T51 ?kKT51 ?kdT51 ?kuT51 ?_; (case k1T51 => k_asm); (case k2T51 => k_asm); (case k3T51 => k_asm); (case k4T51 => k_asm); (case kUT51 => k_updF); (case kaT51 => assumption); (case kbT51 => assumption); (case kcT51 => assumption); (case kmT51 => decide); (case knT51 => decide); (case k5T51 => k_asm); (case kKT51 => first | exact rfl | assumption); (case kdT51 => ((try simp only [depth_under_make, depth_under_kw, depth_in1, depth_deeper, depth_caller]); (try dsimp only [ktrTop]); omega)); (case kuT51 => ((try simp only [units_in1, units_deeper, Around.mark_units, units_caller]); (try dsimp only [ktrTop]); omega))); intro r9zq t9zq a9zq b9zq ta9zq tb9zq n9zq h9zq tk9zq lo9zq hi9zq ha9zq hb9zq hc9zq F9zq N9zq; (try dsimp only at N9zq); (try dsimp only); (try k_sweep); (try k_fold)))) | (with_reducible ((k_here; (with_reducible show wpAny _ _ (call (Value.ref 174) _) _ _ _); k_dflt ( refine' meet_use (refused_no _ _ _ _) ?k1T50 ?k2T50 ?k3T50 ?k4T50 ?k5T50 ?kKT50 ?kdT50 ?kuT50 ?_; (case k1T50 => k_asm); (case k2T50 => k_asm); (case k3T50 => k_asm); (case k4T50 => k_asm); (case k5T50 => k_asm); (case kKT50 => first | exact rfl | assumption); (case kdT50 => ((try simp only [depth_under_make, depth_under_kw, depth_in1, depth_deeper, depth_caller]); (try dsimp only [ktrTop]); omega)); (case kuT50 => ((try simp only [units_in1, units_deeper, Around.mark_units, units_caller]); (try dsimp only [ktrTop]); omega))); intro v9zq n9zq h9zq tk9zq F9zq N9zq o9zq; (k_dflt (obtain ⟨e9zq, e8zq⟩ := o9zq; subst e9zq; subst e8zq)); (try dsimp only); (try k_sweep); (try k_fold)))) | (with_reducible ((k_here; (with_reducible show wpAny _ _ (call (Value.ref 174) _) _ _ _); k_dflt (refine' refused_yes ?BT49 ?FT49 ?XT49 ?NT49 ?TT49 ?hkT49 ?kdT49 ?kuT49 ?_; (case BT49 => k_asm); (case FT49 => k_asm); (case XT49 => k_asm); (case NT49 => k_asm); (case TT49 => k_asm); (case hkT49 => exact rfl); (case kdT49 => ((try simp only [depth_under_make, depth_under_kw, depth_in1, depth_deeper, depth_caller]); (try dsimp only [ktrTop]); omega)); (case kuT49 => ((try simp only [units_in1, units_deeper, Around.mark_units, units_caller]); (try dsimp only [ktrTop]); omega))); intro h9pzq tk9pzq F9pzq N9pzq; (try dsimp only); (try k_sweep); (try k_fold)))))) | ((with_reducible show PieceEl ..); ((exact pieceEl_of (by assumption) (by assumption) (by assumption)))) | (with_reducible (((with_reducible show wpAny _ _ (pyIter (Value.ref _)) (fun it s₂ => LoopAtV _ _ _ _ _ _ _ _ _ it s₂) _ _); k_here; (rename Fr _ _ _ _ => lFpzq); (rename News _ _ _ _ => lNpzq); (rename IsRange _ _ _ _ _ _ _ _ => rgXzq); (with_unfolding_all refine' loop_still (n := 64) [Str.ofString "code"] (by rfl) rgXzq (by decide) (by rfl) lFpzq lNpzq ?_ ?_); (all_goals (try clear lFpzq lNpzq)); (all_goals (first | (intro k9zq t9zq u9zq h9zq tk9zq own9zq lo9zq hi9zq off9zq F9zq N9zq; (try dsimp only at N9zq)) | (intro u9zq h9zq tk9zq F9zq N9zq))); (all_goals (try dsimp only)); (all_goals (try k_fold))))) | ((with_reducible show wpAny _ _ (compareOp CmpOp.NotEq (Value.ref ..) (Value.ref ..)) _ _ _); (with_reducible ((k_here; (with_reducible show wpAny _ _ (compareOp CmpOp.NotEq (Value.ref _) (Value.ref _)) _ _ _); k_dflt (refine' ne_told ?kaT58 ?kbT58 ?NT58 ?aT58 ?bT58 ?uT58 ?_; (case NT58 => k_asm); (case aT58 => k_mem); (case bT58 => k_mem); (case kaT58 => first | assumption | exact Int.fmod_nonneg_of_pos _ (by decide)); (case kbT58 => first | assumption | exact Int.fmod_lt_of_pos _ (by decide)); (case uT58 => ke_room)))))) | walk1)) | (leave1; walk_say "STEP leave1"; try dsimp only) | fail "no step"))
  all_goals first
    | exact pieceEl_of (by assumption) (by assumption) (by assumption)
    | skip
  all_goals (try k_data)
  all_goals w_report)
end Mine
end
theorem PySem.Challenge.cw_pf0228_01_holds : PySem.Challenge.rw_pf0228_01.Holds := by
  exact Mine.law_t
